import PyProof.Rows.All
import Wide.All
import OpenK.AllK
import Wide.FinOn
import Lean
import HandS.Base
import HandS.Call
import HandS.Ends
import HandS.EndBits
import HandS.List
import HandS.Comp
import HandS.Dict
import HandS.Iter
import HandS.Text
import HandS.Wide
import HandS.Words
import HandS.WordsList
import HandS.Defaults
import HandS.IsInst
import HandS.Rev
import HandS.TupAny
import HandS.TryOnly
import HandS.Zip
import HandS.Walk
import HandS.Style
import HandS.Flow
import HandS.Head0
import HandS.Head1
import HandS.Head2
import HandS.HeadEnd
import HandS.HeadHook1
import HandS.HeadHook2
import HandS.Codes
import HandS.Replace
import HandS.ReplaceLit
import PySem.Challenge.RW_rowsjoined_k01_words_names_numbers
set_option Elab.async false
set_option linter.all false
set_option maxRecDepth 100000
set_option maxHeartbeats 4000000
namespace J
open PySem PySem.Spec PyProof.Rows L2

/-! ### frames -/
def But (s : Addr) (H H' : Hp) : Prop := ∀ b o, b ≠ s → H b = some o → H' b = some o
theorem _root_.L2.Same.one {H : Hp} {p : Addr} {o : HO} (h : H p = none) : Same H (upd H p o) := fun a u e => by
  rw [upd_ne (ne_of_none e h)]; exact e
theorem But.of {s : Addr} {H H' : Hp} (e : Same H H') : But s H H' := fun b o _ h => e b o h
theorem But.refl (s : Addr) (H : Hp) : But s H H := fun _ _ _ h => h
theorem But.trans {s : Addr} {H H1 H2 : Hp} (a : But s H H1) (b : But s H1 H2) : But s H H2 := fun c o n h => b c o n (a c o n h)
theorem But.at {s b : Addr} {H H' : Hp} {o : HO} (e : But s H H') (n : b ≠ s) (h : H b = some o) : H' b = some o := e b o n h
theorem But.upd (s : Addr) (H : Hp) (o : HO) : But s H (upd H s o) := fun b u n h => by rw [upd_ne n]; exact h
/-- all that was there stays, what lies at s was not there -/
theorem But.new {s : Addr} {H H1 H2 : Hp} (e : Same H H1) (n : H s = none) (k : But s H1 H2) : Same H H2 := fun b o h => k b o (ne_of_none h n) (e b o h)

theorem But.new2 {s t : Addr} {H H1 H2 : Hp} (e : But s H H1) (n : H t = none) (k : But t H1 H2) : But s H H2 := fun b o hs h => k b o (ne_of_none h n) (e b o hs h)
theorem But.back {s p : Addr} {H H' : Hp} (e : But s H H') (hp : p ≠ s) (h : H' p = none) : H p = none := by
  cases q : H p with
  | none => rfl
  | some o => rw [e p o hp q] at h; cases h
theorem But.back' {s p : Addr} {H H' : Hp} {o : HO} (e : But s H H') (hs : H' s = some o) (h : H' p = none) : H p = none := e.back (fun z => by rw [z, hs] at h; cases h) h
/-- a stream of draws -/
def Stm (H : Hp) (s : Addr) : Prop := ∃ a b c : Int, H s = some (.lst [.int a, .int b, .int c])
theorem stm_ne {s p : Addr} {H : Hp} (h : Stm H s) (n : H p = none) : p ≠ s := fun q => by
  obtain ⟨_, _, _, g⟩ := h
  rw [← q, n] at g
  cases g
theorem But.tup {s b : Addr} {H H' : Hp} {xs : List V} (e : But s H H') (t : Stm H s) (h : H b = some (.tup xs)) : H' b = some (.tup xs) := by
  obtain ⟨_, _, _, t⟩ := t
  exact e b _ (ne_of h t (by intro q; cases q)) h
theorem But.tupL {s b : Addr} {H H' : Hp} {xs ys : List V} (e : But s H H') (t : H s = some (.lst ys)) (h : H b = some (.tup xs)) : H' b = some (.tup xs) := e b _ (ne_of h t (by intro q; cases q)) h
theorem But.sqTL {K : PySem.W.Frag} {s a : Addr} {H H' : Hp} {xs ys : List V} (e : But s H H') (t : H s = some (.lst ys)) (h : SqT K H a xs) : SqT K H' a xs := by
  rcases h with (h | ⟨o, h⟩) | h
  · exact .inl (.inl (e _ _ (ne_of h t (by intro q; cases q)) h))
  · exact .inl (.inr ⟨o, e _ _ (ne_of h t (by intro q; cases q)) h⟩)
  · exact .inr h
theorem But.stm {s a : Addr} {H H' : Hp} (e : But s H H') (n : a ≠ s) (h : Stm H a) : Stm H' a := by
  obtain ⟨x, y, z, h⟩ := h
  exact ⟨x, y, z, e _ _ n h⟩
theorem _root_.L2.Same.back {H H' : Hp} {p : Addr} (e : Same H H') (h : H' p = none) : H p = none := e.free h
theorem But.frz {s b : Addr} {H H' : Hp} {o : Obj} {u : HO} (e : But s H H') (t : Stm H s) (h : H b = some (.frz o u)) : H' b = some (.frz o u) := by
  obtain ⟨_, _, _, t⟩ := t
  exact e b _ (ne_of h t (by intro q; cases q)) h
theorem But.sqT {K : PySem.W.Frag} {s a : Addr} {H H' : Hp} {xs : List V} (e : But s H H') (t : Stm H s) (h : SqT K H a xs) : SqT K H' a xs := by
  rcases h with (h | ⟨o, h⟩) | h
  · exact .inl (.inl (e.tup t h))
  · exact .inl (.inr ⟨o, e.frz t h⟩)
  · exact .inr h
theorem But.sqL {K : PySem.W.Frag} {s a : Addr} {H H' : Hp} {xs : List V} (e : But s H H') (n : a ≠ s) (h : SqL K H a xs) : SqL K H' a xs := by
  rcases h with (h | ⟨o, h⟩) | h
  · exact .inl (.inl (e a _ n h))
  · exact .inl (.inr ⟨o, e a _ n h⟩)
  · exact .inr h
theorem _root_.L2.Same.sqT {K : PySem.W.Frag} {H H' : Hp} {a : Addr} {xs : List V} (e : Same H H') (h : SqT K H a xs) : SqT K H' a xs := by
  rcases h with (h | ⟨o, h⟩) | h
  · exact .inl (.inl (e _ _ h))
  · exact .inl (.inr ⟨o, e _ _ h⟩)
  · exact .inr h
theorem _root_.L2.Same.sqL {K : PySem.W.Frag} {H H' : Hp} {a : Addr} {xs : List V} (e : Same H H') (h : SqL K H a xs) : SqL K H' a xs := e.seq h
theorem _root_.L2.Same.stm {H H' : Hp} {s : Addr} (e : Same H H') (h : Stm H s) : Stm H' s := by
  obtain ⟨a, b, c, h⟩ := h
  exact ⟨a, b, c, e _ _ h⟩
theorem _root_.L2.Same.at {H H' : Hp} {b : Addr} {o : HO} (e : Same H H') (h : H b = some o) : H' b = some o := e b o h
/-- a list that stands, seen past a list changed elsewhere -/
theorem sqL_upd {K : PySem.W.Frag} {H : Hp} {a p : Addr} {o : HO} {xs : List V} (n : a ≠ p) (h : SqL K H a xs) : SqL K (upd H p o) a xs := by
  rcases h with (h | ⟨u, h⟩) | h
  · exact .inl (.inl (by rw [upd_ne n]; exact h))
  · exact .inl (.inr ⟨u, by rw [upd_ne n]; exact h⟩)
  · exact .inr h
theorem sqT_updL {K : PySem.W.Frag} {H : Hp} {a p : Addr} {o : HO} {xs ys : List V} (hp : H p = some (.lst ys)) (h : SqT K H a xs) : SqT K (upd H p o) a xs := by
  rcases h with (h | ⟨u, h⟩) | h
  · exact .inl (.inl (by rw [upd_ne (ne_of h hp (by intro q; cases q))]; exact h))
  · exact .inl (.inr ⟨u, by rw [upd_ne (ne_of h hp (by intro q; cases q))]; exact h⟩)
  · exact .inr h
theorem stm_upd {H : Hp} {a p : Addr} {o : HO} (n : a ≠ p) (h : Stm H a) : Stm (upd H p o) a := by
  obtain ⟨x, y, z, h⟩ := h
  exact ⟨x, y, z, by rw [upd_ne n]; exact h⟩
theorem at_updL {H : Hp} {a p : Addr} {o u : HO} (n : a ≠ p) (h : H a = some u) : upd H p o a = some u := by rw [upd_ne n]; exact h

/-! ### readings, step by step -/
section
variable {K : PySem.W.Frag} {σ : L2.St} {H : Hp} {i : Nat} {v x y z : V} {ta tb tc te tv : TE} {Q : VK} {nx : L2.St → Hp → Prop} {rt : VK} {bk ct : L2.St → Hp → Prop} {t u : TS} {tt tu : TT}
theorem w_seq (k : t ⟨u ⟨nx, rt, bk, ct⟩, rt, bk, ct⟩ σ H) : tSeq t u ⟨nx, rt, bk, ct⟩ σ H := k
theorem w_asg {g : TG} (k : te σ H fun x H1 => g x σ H1 nx) : tAsg te g ⟨nx, rt, bk, ct⟩ σ H := k
theorem w_gName {R : L2.St → Hp → Prop} (k : R (σ.set i (some v)) H) : gName i v σ H R := k
theorem w_ret (k : te σ H rt) : tRet te ⟨nx, rt, bk, ct⟩ σ H := k
theorem w_retN (k : rt .non H) : tRetN ⟨nx, rt, bk, ct⟩ σ H := k
theorem w_drop (k : te σ H fun _ H1 => nx σ H1) : tDrop te ⟨nx, rt, bk, ct⟩ σ H := k
theorem w_next (k : nx σ H) : tNext ⟨nx, rt, bk, ct⟩ σ H := k
theorem w_break (k : bk σ H) : tBreak ⟨nx, rt, bk, ct⟩ σ H := k
theorem w_cont (k : ct σ H) : tCont ⟨nx, rt, bk, ct⟩ σ H := k
theorem w_ifS (k : tt σ H fun b H1 => if b = true then t ⟨nx, rt, bk, ct⟩ σ H1 else u ⟨nx, rt, bk, ct⟩ σ H1) : tIfS tt t u ⟨nx, rt, bk, ct⟩ σ H := k
theorem w_var (h : σ[i]? = some (some v)) (k : Q v H) : tVar i σ H Q := ⟨v, h, k⟩
theorem w_c (k : Q v H) : tC v σ H Q := k
theorem w_op {r : R2} (k : ta σ H fun x H1 => tb σ H1 fun y H2 => r x y H2 Q) : tOp r ta tb σ H Q := k
theorem w_un {r : V → Hp → VK → Prop} (k : ta σ H fun x H1 => r x H1 Q) : tUn r ta σ H Q := k
theorem w_rU {g : Int → V} {n : Int} (k : Q (g n) H) : rU g (.int n) H Q := ⟨n, rfl, k⟩
theorem w_rI0 {g : Int → Int → V} {m n : Int} (k : Q (g m n) H) : rI0 g (.int m) (.int n) H Q := ⟨m, n, rfl, rfl, k⟩
theorem w_rI {C : Int → Int → Prop} {g : Int → Int → V} {m n : Int} (c : C m n) (k : Q (g m n) H) : rI C g (.int m) (.int n) H Q := ⟨m, n, rfl, rfl, c, k⟩
theorem w_nil {R : List V → Hp → Prop} (k : R [] H) : tNil σ H R := k
theorem w_cons {tr : TA} {R : List V → Hp → Prop} (k : te σ H fun x H1 => tr σ H1 fun xs H2 => R (x :: xs) H2) : tCons te tr σ H R := k
/-- a new object -/
def NewO (o : HO) (H : Hp) (Q : VK) : Prop := ∀ p, H p = none → Q (.ref p) (upd H p o)
theorem w_new {o : HO} (k : ∀ p H', H p = none → Same H H' → H' p = some o → Q (.ref p) H') : NewO o H Q := fun p hp => k p _ hp (Same.one hp) upd_same
/-- an object changed -/
def ChgO (l : Addr) (o : HO) (H : Hp) (R : Hp → Prop) : Prop := R (upd H l o)
theorem w_chg {l : Addr} {o : HO} {R : Hp → Prop} (k : ∀ H', But l H H' → H' l = some o → R H') : ChgO l o H R := k _ (But.upd _ _ _) upd_same
theorem w_tup {tr : TA} (k : tr σ H fun xs H1 => xs.length ≤ sizeLine ∧ NewO (.tup xs) H1 Q) : tTup tr σ H Q := k
theorem w_lst {tr : TA} (k : tr σ H fun xs H1 => xs.length ≤ sizeLine ∧ NewO (.lst xs) H1 Q) : tLst tr σ H Q := k
theorem w_cb {r : List V → Hp → VK → Prop} {tr : TA} (k : tr σ H fun vs H1 => r vs H1 Q) : tCB r tr σ H Q := k
theorem w_call {sp : Sp} {E : XK} {tr : TA} (k : tr σ H fun vs H1 => sp vs H1 Q E) : tCall sp [] E tr σ H Q := by
  show tr σ H fun vs H1 => sp (vs ++ []) H1 Q E
  simp only [List.append_nil]
  exact k
theorem w_chain {r r' : R2} (k : ta σ H fun x H1 => tb σ H1 fun y H2 => r x y H2 fun z H3 => ∃ k, z = .bl k ∧ if k = true then tc σ H3 (fun w H4 => r' y w H4 Q) else Q (.bl false) H3) : tChain r r' ta tb tc σ H Q := k
theorem w_test {R : Bool → Hp → Prop} (k : te σ H fun x H' => ∃ b, x = .bl b ∧ R b H') : tTest te σ H R := k
theorem w_tB {R : Bool → Hp → Prop} (k : te σ H fun x H' => ∃ b, x = .bl b ∧ R b H') : tB te σ H R := k
theorem w_bl {b : Bool} {R : Bool → Prop} (k : R b) : ∃ c, V.bl b = .bl c ∧ R c := ⟨b, rfl, k⟩
theorem w_and {R : Bool → Hp → Prop} (k : tt σ H fun c H1 => if c = true then tu σ H1 R else R false H1) : tAnd tt tu σ H R := k
theorem w_or {R : Bool → Hp → Prop} (k : tt σ H fun c H1 => if c = true then R true H1 else tu σ H1 R) : tOr tt tu σ H R := k
theorem w_not {R : Bool → Hp → Prop} (k : tt σ H fun c H1 => R (!c) H1) : tNot tt σ H R := k
theorem w_andV (k : ta σ H fun x H1 => ∃ c, x = .bl c ∧ if c = true then tb σ H1 Q else Q (.bl false) H1) : tAndV ta tb σ H Q := k
theorem w_orV (k : ta σ H fun x H1 => ∃ c, x = .bl c ∧ if c = true then Q (.bl true) H1 else tb σ H1 Q) : tOrV ta tb σ H Q := k
theorem w_ifE (k : tt σ H fun c H1 => if c = true then ta σ H1 Q else tb σ H1 Q) : tIf tt ta tb σ H Q := k
theorem w_notV (k : ta σ H fun x H1 => ∃ c, x = .bl c ∧ Q (.bl (!c)) H1) : tNotV ta σ H Q := k

/-- or, and: of two tests that leave the heap -/
theorem w_orP (p q : Prop) [Decidable p] [Decidable q] {R : Bool → Hp → Prop} (ht : ∀ S : Bool → Hp → Prop, S (decide p) H → tt σ H S) (hu : ∀ S : Bool → Hp → Prop, S (decide q) H → tu σ H S) (k : ∀ b : Bool, (b = true ↔ p ∨ q) → R b H) : tOr tt tu σ H R := by
  refine w_or (ht _ ?_)
  by_cases hp : p
  · rw [decide_eq_true hp]; exact iteT (k _ (by simp [hp]))
  · rw [decide_eq_false hp]; exact iteF (hu _ (k _ (by simp [hp])))
theorem w_andP (p q : Prop) [Decidable p] [Decidable q] {R : Bool → Hp → Prop} (ht : ∀ S : Bool → Hp → Prop, S (decide p) H → tt σ H S) (hu : ∀ S : Bool → Hp → Prop, S (decide q) H → tu σ H S) (k : ∀ b : Bool, (b = true ↔ p ∧ q) → R b H) : tAnd tt tu σ H R := by
  refine w_and (ht _ ?_)
  by_cases hp : p
  · rw [decide_eq_true hp]; exact iteT (hu _ (k _ (by simp [hp])))
  · rw [decide_eq_false hp]; exact iteF (k _ (by simp [hp]))
/-- and, or: first what either answer comes to, where Φ of the heap -/
theorem w_andK (Φ : Hp → Prop) {R : Bool → Hp → Prop} (hR : ∀ b H', Φ H' → R b H') (k : (∀ b H', Φ H' → R b H') → tt σ H fun c H1 => if c = true then tu σ H1 R else R false H1) : tAnd tt tu σ H R := k hR
theorem w_andF (Φ : Hp → Prop) {R : Bool → Hp → Prop} (hR : ∀ H', Φ H' → R false H') (k : (∀ H', Φ H' → R false H') → tt σ H fun c H1 => if c = true then tu σ H1 R else R false H1) : tAnd tt tu σ H R := k hR
theorem w_orK (Φ : Hp → Prop) {R : Bool → Hp → Prop} (hR : ∀ b H', Φ H' → R b H') (k : (∀ b H', Φ H' → R b H') → tt σ H fun c H1 => if c = true then R true H1 else tu σ H1 R) : tOr tt tu σ H R := k hR
theorem w_nT {A B : Prop} (k : B) : if (!true) = true then A else B := k
theorem w_nF {A B : Prop} (k : A) : if (!false) = true then A else B := k
theorem w_decT {p A B : Prop} [Decidable p] (h : p) (k : A) : if decide p = true then A else B := by rw [decide_eq_true h]; exact iteT k
theorem w_decF {p A B : Prop} [Decidable p] (h : ¬ p) (k : B) : if decide p = true then A else B := by rw [decide_eq_false h]; exact iteF k
/-! ### operators, together -/
def rAddS : R2 := fun x y H Q => ∃ i j, x = .str i ∧ y = .str j ∧ i.length + j.length ≤ sizeLine ∧ Q (.str (i ++ j)) H
def rAddA (K : PySem.W.Frag) : R2 := fun x y H Q => rI0 (fun i j => .int (i + j)) x y H Q ∨ (rAddS x y H Q ∨ (rCat x y H Q ∨ rCatT K x y H Q))
theorem op_addA {X : Cx} {K : PySem.W.Frag} (hK : X.K = K) : OpR X (binaryOp .Add) (rAddA K) := by
  subst hK
  exact op_add.or (OpR.or (r := rAddS) op_add_str (op_cat.or op_catT))
theorem w_addI {m n : Int} (k : Q (.int (m + n)) H) : rAddA K (.int m) (.int n) H Q := .inl ⟨m, n, rfl, rfl, k⟩
theorem w_addS {a b : Str} (h : a.length + b.length ≤ sizeLine) (k : Q (.str (a ++ b)) H) : rAddA K (.str a) (.str b) H Q := .inr (.inl ⟨a, b, rfl, rfl, h, k⟩)
theorem w_addL {l b : Addr} {xs zs : List V} (h1 : H l = some (.lst xs)) (h2 : H b = some (.lst zs)) (h : xs.length + zs.length ≤ sizeLine) (k : NewO (.lst (xs ++ zs)) H Q) :
    rAddA K (.ref l) (.ref b) H Q := .inr (.inr (.inl ⟨l, b, xs, zs, rfl, rfl, h1, h2, h, k⟩))
def rMulA : R2 := fun x y H Q => rI CMul (fun i j => .int (i * j)) x y H Q ∨ rRep x y H Q
theorem op_mulA {X : Cx} : OpR X (binaryOp .Mult) rMulA := op_mul.or op_rep
theorem w_mulI {m n : Int} (c : CMul m n) (k : Q (.int (m * n)) H) : rMulA (.int m) (.int n) H Q := .inl ⟨m, n, rfl, rfl, c, k⟩
def rEqA (K : PySem.W.Frag) : R2 := fun x y H Q => rEq x y H Q ∨ rEqD K x y H Q
def rNeA (K : PySem.W.Frag) : R2 := fun x y H Q => rNe x y H Q ∨ rNeD K x y H Q
theorem op_eqA {X : Cx} {K : PySem.W.Frag} (hK : X.K = K) (hu : X.A.units + 64 < cLine) : OpR X (compareOp .Eq) (rEqA K) := by
  subst hK
  exact op_eq.or (op_eqD hu)
theorem op_neA {X : Cx} {K : PySem.W.Frag} (hK : X.K = K) (hu : X.A.units + 64 < cLine) : OpR X (compareOp .NotEq) (rNeA K) := by
  subst hK
  exact op_ne.or (op_neD hu)
theorem w_eqI {m n : Int} (k : Q (.bl (decide (m = n))) H) : rEqA K (.int m) (.int n) H Q := .inl ⟨rfl, by rw [show decide (V.int m = V.int n) = decide (m = n) by rw [dec_int]; rfl]; exact k⟩
theorem w_neI {m n : Int} (k : Q (.bl (!decide (m = n))) H) : rNeA K (.int m) (.int n) H Q := .inl ⟨rfl, by rw [show decide (V.int m = V.int n) = decide (m = n) by rw [dec_int]; rfl]; exact k⟩
theorem w_eqS {m n : Str} (k : Q (.bl (decide (m = n))) H) : rEqA K (.str m) (.str n) H Q := .inl ⟨rfl, by rw [dec_str]; exact k⟩
theorem w_neS {m n : Str} (k : Q (.bl (!decide (m = n))) H) : rNeA K (.str m) (.str n) H Q := .inl ⟨rfl, by rw [dec_str]; exact k⟩
theorem w_eqB {m n : Bool} (k : Q (.bl (m == n)) H) : rEqA K (.bl m) (.bl n) H Q := .inl ⟨rfl, by rw [dec_bl]; exact k⟩
theorem w_neB {m n : Bool} (k : Q (.bl (!(m == n))) H) : rNeA K (.bl m) (.bl n) H Q := .inl ⟨rfl, by rw [dec_bl]; exact k⟩
theorem w_eqD {d e : PyData} (hd : Dp K H x d) (he : Dp K H y e) (sd : SeqAt.shaped d = true) (se : SeqAt.shaped e = true) (k : Q (.bl (PyData.eqv d e)) H) : rEqA K x y H Q := .inr ⟨d, e, hd, he, sd, se, k⟩
theorem w_neD {d e : PyData} (hd : Dp K H x d) (he : Dp K H y e) (sd : SeqAt.shaped d = true) (se : SeqAt.shaped e = true) (k : Q (.bl (!PyData.eqv d e)) H) : rNeA K x y H Q := .inr ⟨d, e, hd, he, sd, se, k⟩
/-- in, of texts and of things in a list or a tuple -/
def rInStr (neg : Bool) : R2 := fun x y H Q => ∃ i j, x = .str i ∧ y = .str j ∧ Q (.bl (if neg then !(!(Builtin.Str.occurrences j i 0 j.length 1).isEmpty) else !(Builtin.Str.occurrences j i 0 j.length 1).isEmpty)) H
def rInA (K : PySem.W.Frag) (neg : Bool) : R2 := fun x y H Q => rIn K neg x y H Q ∨ rInStr neg x y H Q
theorem op_inA {X : Cx} {K : PySem.W.Frag} (hK : X.K = K) : OpR X (compareOp .In) (rInA K false) := by
  subst hK
  exact op_in_seq.or (fun pins s σ H x y v u Q I rx ry h => op_in_str pins s σ H x y v u Q I rx ry h)
theorem op_notInA {X : Cx} {K : PySem.W.Frag} (hK : X.K = K) : OpR X (compareOp .NotIn) (rInA K true) := by
  subst hK
  exact op_notIn_seq.or (fun pins s σ H x y v u Q I rx ry h => op_notIn_str pins s σ H x y v u Q I rx ry h)
theorem w_inL {p : Addr} {xs : List V} (h : SqL K H p xs) (hx : flatV x = true) (ha : xs.all flatV = true) (k : Q (.bl (inV x xs)) H) : rInA K false x (.ref p) H Q := .inl ⟨p, xs, rfl, .inl h, hx, ha, k⟩
theorem w_inT {p : Addr} {xs : List V} (h : SqT K H p xs) (hx : flatV x = true) (ha : xs.all flatV = true) (k : Q (.bl (inV x xs)) H) : rInA K false x (.ref p) H Q := .inl ⟨p, xs, rfl, .inr h, hx, ha, k⟩
theorem w_niL {p : Addr} {xs : List V} (h : SqL K H p xs) (hx : flatV x = true) (ha : xs.all flatV = true) (k : Q (.bl (!inV x xs)) H) : rInA K true x (.ref p) H Q := .inl ⟨p, xs, rfl, .inl h, hx, ha, k⟩
theorem w_niT {p : Addr} {xs : List V} (h : SqT K H p xs) (hx : flatV x = true) (ha : xs.all flatV = true) (k : Q (.bl (!inV x xs)) H) : rInA K true x (.ref p) H Q := .inl ⟨p, xs, rfl, .inr h, hx, ha, k⟩
/-- subscripts -/
theorem ix_any {X : Cx} {K : PySem.W.Frag} (hK : X.K = K) : IxR X (rIx K) := by
  subst hK
  exact ix_seq
theorem w_ixL {p : Addr} {xs : List V} {n : Int} (h : SqL K H p xs) (ha : atI xs n = some v) (k : Q v H) : rIx K (.ref p) (.int n) H Q := .inl ⟨p, xs, n, v, rfl, rfl, h, ha, k⟩
theorem w_ixT {p : Addr} {xs : List V} {n : Int} (h : SqT K H p xs) (ha : atI xs n = some v) (k : Q v H) : rIx K (.ref p) (.int n) H Q := .inr (.inl ⟨p, xs, n, v, rfl, rfl, h, ha, k⟩)
theorem w_ixS {a : Str} {c : Nat} {n : Int} (h : a.length ≤ sizeLine) (ha : atI a.cps.toList n = some c) (k : Q (.str ⟨#[c]⟩) H) : rIx K (.str a) (.int n) H Q := .inr (.inr ⟨a, n, c, rfl, rfl, h, ha, k⟩)
/-! slices -/
def rSlAny (K : PySem.W.Frag) : V → Option Int → Option Int → Hp → VK → Prop := fun x lo hi H Q => rSlL K x lo hi H Q ∨ (rSlS x lo hi H Q ∨ rSlA K x lo hi H Q)
/-- calls -/
def rInt1 : List V → Hp → VK → Prop := fun xs H Q => (∃ i, xs = [.int i] ∧ Q (.int i) H) ∨ ∃ k, xs = [.bl k] ∧ Q (.int (if k then 1 else 0)) H
theorem call_int1A {X : Cx} : CallR X (.type "int") rInt1 := call_int1
theorem w_int1 {n : Int} (k : Q (.int n) H) : rInt1 [.int n] H Q := .inl ⟨n, rfl, k⟩
theorem w_int1b {b : Bool} (k : Q (.int (if b then 1 else 0)) H) : rInt1 [.bl b] H Q := .inr ⟨b, rfl, k⟩
def rLenA (K : PySem.W.Frag) : List V → Hp → VK → Prop := fun xs H Q => ∃ x n, xs = [x] ∧ LenV K x H n ∧ Q (.int n) H
theorem call_lenA {X : Cx} {K : PySem.W.Frag} (hK : X.K = K) : CallR X (.builtin "len") (rLenA K) := by
  subst hK
  exact call_len
theorem w_lenL {p : Addr} {xs : List V} (h : SqL K H p xs) (k : Q (.int xs.length) H) : rLenA K [.ref p] H Q := ⟨_, _, rfl, .inl ⟨xs, h, rfl⟩, k⟩
theorem w_lenT {p : Addr} {xs : List V} (h : SqT K H p xs) (k : Q (.int xs.length) H) : rLenA K [.ref p] H Q := ⟨_, _, rfl, .inr ⟨xs, h, rfl⟩, k⟩
theorem w_lenS {a : Str} (h : a.length ≤ sizeLine) (k : Q (.int a.length) H) : rLenA K [.str a] H Q := ⟨_, _, rfl, ⟨h, rfl⟩, k⟩
def rAbsA : List V → Hp → VK → Prop := fun xs H Q => ∃ i, xs = [.int i] ∧ Q (.int (if i < 0 then -i else i)) H
theorem call_absA {X : Cx} : CallR X (.builtin "abs") rAbsA := call_abs
def rMax2 : List V → Hp → VK → Prop := fun xs H Q => ∃ i j, xs = [.int i, .int j] ∧ Q (.int (if j > i then j else i)) H
def rMin2 : List V → Hp → VK → Prop := fun xs H Q => ∃ i j, xs = [.int i, .int j] ∧ Q (.int (if j < i then j else i)) H
theorem call_max2A {X : Cx} (hc : X.calm = true) : CallR X (.builtin "max") rMax2 := call_max2 hc
theorem call_min2A {X : Cx} (hc : X.calm = true) : CallR X (.builtin "min") rMin2 := call_min2 hc
theorem max_if (i j : Int) : (if j > i then j else i) = max i j := by split <;> omega
theorem min_if (i j : Int) : (if j < i then j else i) = min i j := by split <;> omega
theorem w_max2 {i j : Int} (k : Q (.int (max i j)) H) : rMax2 [.int i, .int j] H Q := ⟨i, j, rfl, by rw [max_if]; exact k⟩
theorem w_min2 {i j : Int} (k : Q (.int (min i j)) H) : rMin2 [.int i, .int j] H Q := ⟨i, j, rfl, by rw [min_if]; exact k⟩
def rBool1 : List V → Hp → VK → Prop := fun xs H Q => (∃ i, xs = [.int i] ∧ Q (.bl (i != 0)) H) ∨ ∃ k, xs = [.bl k] ∧ Q (.bl k) H
theorem call_bool1A {X : Cx} : CallR X (.type "bool") rBool1 := call_bool1
def rStrI : List V → Hp → VK → Prop := fun xs H Q => ∃ i, xs = [.int i] ∧ i.natAbs.log2 < 1920 ∧ Q (.str (toString i)) H
theorem call_strA {X : Cx} : CallR X (.type "str") rStrI := call_str_int
theorem w_strI {n : Int} (h : n.natAbs.log2 < 1920) (k : Q (.str (toString n)) H) : rStrI [.int n] H Q := ⟨n, rfl, h, k⟩
theorem w_size {xs : List V} {R : Prop} (h : xs.length ≤ sizeLine) (k : R) : xs.length ≤ sizeLine ∧ R := ⟨h, k⟩
/-- stores by place -/
theorem w_gSub {to ti : TE} {ts : TSet} {R : L2.St → Hp → Prop} (k : to σ H fun o H1 => ti σ H1 fun i H2 => ts o i v H2 fun H3 => R σ H3) : gSub to ti ts v σ H R := k
theorem w_setL {l : Addr} {xs : List V} {n : Int} {j : Nat} {R : Hp → Prop} (h : H l = some (.lst xs)) (hj : ixN xs.length n = some j) (k : ChgO l (.lst (xs.set j v)) H R) : rSetL (.ref l) (.int n) v H R := ⟨l, xs, n, j, rfl, rfl, h, hj, k⟩
/-- methods of lists -/
theorem w_bm {T : String} {r : V → List V → Hp → VK → Prop} {tr : TA} (k : ta σ H fun x H1 => tyV K T x H1 ∧ tr σ H1 fun xs H2 => r x xs H2 Q) : tBM K T r ta tr σ H Q := k
theorem w_bm0 {T : String} {r : V → List V → Hp → VK → Prop} (k : ta σ H fun x H1 => tyV K T x H1 ∧ r x [] H1 Q) : tBM0 K T r ta σ H Q := k
theorem w_tyL {p : Addr} {xs : List V} {R : Prop} (h : SqL K H p xs) (k : R) : tyV K "list" (.ref p) H ∧ R := ⟨.inl ⟨rfl, xs, h⟩, k⟩
theorem w_tyS {a : Str} {R : Prop} (k : R) : tyV K "str" (.str a) H ∧ R := ⟨rfl, k⟩
theorem w_append {l : Addr} {xs : List V} (h : H l = some (.lst xs)) (hz : xs.length < sizeLine) (k : ChgO l (.lst (xs ++ [v])) H (Q .non)) : rAppend (.ref l) [v] H Q := ⟨l, xs, v, rfl, rfl, h, hz, k⟩
theorem w_clear {l : Addr} {xs : List V} (h : H l = some (.lst xs)) (k : ChgO l (.lst []) H (Q .non)) : rClear (.ref l) [] H Q := ⟨l, xs, rfl, rfl, h, k⟩
end

/-! ### loops -/
section
variable {K : PySem.W.Frag} {σ : L2.St} {H : Hp} {a D : Addr} {xs : List V} {g : TG} {tb : TS} {nx : L2.St → Hp → Prop} {rt : VK} {bk ct : L2.St → Hp → Prop} {tl te : TE} {ta : TA} {tt : TT} {Q : VK} {vs : List Nat} {j : Nat}
def WFor (J : It) (g : TG) (tb : TS) (nx : L2.St → Hp → Prop) (rt : VK) (σ : L2.St) (H : Hp) : Prop := ∃ W : Nat → Nat → L2.St → Hp → Prop, (∃ m, W 0 m σ H) ∧ ∀ i m σ H, W i m σ H →
  (J.stop i H ∧ nx σ H) ∨ (J.go i H ∧ ∃ N : L2.St → Hp → Prop, (∀ σ' H', N σ' H' → ∃ m', m' < m ∧ W (i + 1) m' σ' H') ∧ ∀ x H', J.yld i H x H' → g x σ H' fun σ2 H2 => tb ⟨N, rt, nx, N⟩ σ2 H2)
theorem w_forL (k : tl σ H fun x H1 => ∃ a, x = .ref a ∧ (∃ xs, SqL K H1 a xs) ∧ WFor (Itl K a) g tb nx rt σ H1) : tFor (iList K tl) g tb ⟨nx, rt, bk, ct⟩ σ H := k
theorem w_forT (k : tl σ H fun x H1 => ∃ a, x = .ref a ∧ (∃ xs, SqT K H1 a xs) ∧ WFor (Itt K a) g tb nx rt σ H1) : tFor (iTup K tl) g tb ⟨nx, rt, bk, ct⟩ σ H := k
theorem w_forR1 (k : ta σ H fun vs H1 => ∃ j : Int, vs = [.int j] ∧ -(2 ^ 62) ≤ j ∧ j < 2 ^ 62 ∧ WFor (Itr 0 j.toNat) g tb nx rt σ H1) : tFor (iRng1 ta) g tb ⟨nx, rt, bk, ct⟩ σ H := k
theorem w_forR2 (k : ta σ H fun vs H1 => ∃ i j : Int, vs = [.int i, .int j] ∧ (-(2 ^ 62) ≤ i ∧ i < 2 ^ 62 ∧ -(2 ^ 62) ≤ j ∧ j < 2 ^ 62) ∧ WFor (Itr i (j - i).toNat) g tb nx rt σ H1) : tFor (iRng2 ta) g tb ⟨nx, rt, bk, ct⟩ σ H := k
/-- over a list that stands: the word by the turn, the slots, the heap -/
theorem fl_list (xs : List V) (Pv : Nat → L2.St → Hp → Prop) (hS : SqL K H a xs) (h0 : Pv 0 σ H) (hl : ∀ i σ H, i ≤ xs.length → Pv i σ H → SqL K H a xs)
    (hs : ∀ i x σ H, xs[i]? = some x → Pv i σ H → g x σ H fun σ2 H2 => tb ⟨Pv (i + 1), rt, nx, Pv (i + 1)⟩ σ2 H2) (hd : ∀ σ H, Pv xs.length σ H → nx σ H) :
    ∃ b, V.ref a = .ref b ∧ (∃ xs, SqL K H b xs) ∧ WFor (Itl K b) g tb nx rt σ H := ⟨a, rfl, ⟨xs, hS⟩, for_list (D := ⟨nx, rt, fun _ _ => False, fun _ _ => False⟩) Pv h0 hl hs hd⟩
theorem fl_tup (xs : List V) (Pv : Nat → L2.St → Hp → Prop) (hS : SqT K H a xs) (h0 : Pv 0 σ H) (hl : ∀ i σ H, i ≤ xs.length → Pv i σ H → SqT K H a xs)
    (hs : ∀ i x σ H, xs[i]? = some x → Pv i σ H → g x σ H fun σ2 H2 => tb ⟨Pv (i + 1), rt, nx, Pv (i + 1)⟩ σ2 H2) (hd : ∀ σ H, Pv xs.length σ H → nx σ H) :
    ∃ b, V.ref a = .ref b ∧ (∃ xs, SqT K H b xs) ∧ WFor (Itt K b) g tb nx rt σ H := ⟨a, rfl, ⟨xs, hS⟩, for_tup (D := ⟨nx, rt, fun _ _ => False, fun _ _ => False⟩) Pv h0 hl hs hd⟩
theorem fl_rng1 {n : Int} (Pv : Nat → L2.St → Hp → Prop) (hb : n < 2 ^ 62) (hb0 : -(2 ^ 62) ≤ n) (h0 : Pv 0 σ H)
    (hs : ∀ i σ H, i < n.toNat → Pv i σ H → g (.int (i : Int)) σ H fun σ2 H2 => tb ⟨Pv (i + 1), rt, nx, Pv (i + 1)⟩ σ2 H2) (hd : ∀ σ H, Pv n.toNat σ H → nx σ H) :
    ∃ j : Int, [V.int n] = [.int j] ∧ -(2 ^ 62) ≤ j ∧ j < 2 ^ 62 ∧ WFor (Itr 0 j.toNat) g tb nx rt σ H := by
  refine ⟨n, rfl, hb0, hb, for_range (D := ⟨nx, rt, fun _ _ => False, fun _ _ => False⟩) Pv h0 (fun i σ H hi p => ?_) hd⟩
  rw [Int.zero_add]
  exact hs i σ H hi p
theorem fl_rng2 {m n : Int} (Pv : Nat → L2.St → Hp → Prop) (hb : -(2 ^ 62) ≤ m ∧ m < 2 ^ 62 ∧ -(2 ^ 62) ≤ n ∧ n < 2 ^ 62) (h0 : Pv 0 σ H)
    (hs : ∀ i σ H, i < (n - m).toNat → Pv i σ H → g (.int (m + (i : Int))) σ H fun σ2 H2 => tb ⟨Pv (i + 1), rt, nx, Pv (i + 1)⟩ σ2 H2) (hd : ∀ σ H, Pv (n - m).toNat σ H → nx σ H) :
    ∃ i j : Int, [V.int m, V.int n] = [.int i, .int j] ∧ (-(2 ^ 62) ≤ i ∧ i < 2 ^ 62 ∧ -(2 ^ 62) ≤ j ∧ j < 2 ^ 62) ∧ WFor (Itr i (j - i).toNat) g tb nx rt σ H :=
  ⟨m, n, rfl, hb, for_range (D := ⟨nx, rt, fun _ _ => False, fun _ _ => False⟩) Pv h0 hs hd⟩
/-- over a short list, turn by turn -/
def runL (K : PySem.W.Frag) (a : Addr) (all : List V) (g : TG) (tb : TS) (nx : L2.St → Hp → Prop) (rt : VK) : List V → L2.St → Hp → Prop
  | [], σ, H => nx σ H
  | x :: r, σ, H => g x σ H fun σ2 H2 => tb ⟨fun σ' H' => SqL K H' a all ∧ runL K a all g tb nx rt r σ' H', rt, nx, fun σ' H' => SqL K H' a all ∧ runL K a all g tb nx rt r σ' H'⟩ σ2 H2
theorem fl_run (xs : List V) (hS : SqL K H a xs) (k : runL K a xs g tb nx rt xs σ H) : ∃ b, V.ref a = .ref b ∧ (∃ xs, SqL K H b xs) ∧ WFor (Itl K b) g tb nx rt σ H := by
  refine fl_list xs (fun i σ H => SqL K H a xs ∧ runL K a xs g tb nx rt (xs.drop i) σ H) hS ⟨hS, by rw [List.drop_zero]; exact k⟩ (fun _ _ _ _ h => h.1) (fun i x σ H hi h => ?_) (fun σ H h => ?_)
  · have e : xs.drop i = x :: xs.drop (i + 1) := by
      obtain ⟨hl, rfl⟩ := List.getElem?_eq_some_iff.mp hi
      exact List.drop_eq_getElem_cons hl
    have h2 := h.2
    rw [e] at h2
    exact h2
  · have h2 := h.2
    rw [List.drop_length] at h2
    exact h2
theorem w_runN (k : nx σ H) : runL K a xs g tb nx rt [] σ H := k
theorem w_runC {x : V} {r : List V} (k : g x σ H fun σ2 H2 => tb ⟨fun σ' H' => SqL K H' a xs ∧ runL K a xs g tb nx rt r σ' H', rt, nx, fun σ' H' => SqL K H' a xs ∧ runL K a xs g tb nx rt r σ' H'⟩ σ2 H2) :
    runL K a xs g tb nx rt (x :: r) σ H := k
/-- the first of two, by what stands -/
theorem w_both {A B : Prop} (h : A) (k : B) : A ∧ B := ⟨h, k⟩
/-! comprehensions -/
def WLc (J : It) (g : TG) (tt : TT) (te : TE) (vs : List Nat) (σ : L2.St) (D : Addr) (H1 : Hp) (Q : VK) : Prop := ∃ W : Nat → Nat → Hp → Prop, (∃ m, W 0 m (upd H1 D (.lst []))) ∧ ∀ i m H, W i m H →
  (J.stop i H ∧ Q (.ref D) H) ∨ (J.go i H ∧ ∃ Nx : Hp → Prop, (∀ H', Nx H' → ∃ m', m' < m ∧ W (i + 1) m' H') ∧ ∀ x H', J.yld i H x H' → g x (wipe σ vs) H' fun σ2 H2 => wipe σ2 vs = wipe σ vs ∧ tt σ2 H2 fun b H3 =>
    if b = true then te σ2 H3 fun y H4 => ∃ acc, H4 D = some (.lst acc) ∧ acc.length < sizeLine ∧ Nx (upd H4 D (.lst (acc ++ [y]))) else Nx H3)
theorem w_lcL (k : tl σ H fun x H1 => ∃ a, x = .ref a ∧ (∃ xs, SqL K H1 a xs) ∧ ∀ D, H1 D = none → WLc (Itl K a) g tt te vs σ D H1 Q) : tLc (iList K tl) g tt te vs σ H Q := k
theorem w_lcT (k : tl σ H fun x H1 => ∃ a, x = .ref a ∧ (∃ xs, SqT K H1 a xs) ∧ ∀ D, H1 D = none → WLc (Itt K a) g tt te vs σ D H1 Q) : tLc (iTup K tl) g tt te vs σ H Q := k
theorem w_lcR1 (k : ta σ H fun us H1 => ∃ j : Int, us = [.int j] ∧ -(2 ^ 62) ≤ j ∧ j < 2 ^ 62 ∧ ∀ D, H1 D = none → WLc (Itr 0 j.toNat) g tt te vs σ D H1 Q) : tLc (iRng1 ta) g tt te vs σ H Q := k
theorem wipe1 (σ : L2.St) (j : Nat) (x : Option V) : wipe ((wipe σ [j]).set j x) [j] = wipe σ [j] := by
  show (((σ.set j none).set j x).set j none) = σ.set j none
  rw [List.set_set, List.set_set]
def LcEnd (D : Addr) (Pv : Nat → List V → Hp → Prop) (i : Nat) (y : V) (H4 : Hp) : Prop := ∃ acc, H4 D = some (.lst acc) ∧ acc.length < sizeLine ∧
  ∃ ys, ys.length ≤ i + 1 ∧ upd H4 D (.lst (acc ++ [y])) D = some (.lst ys) ∧ Pv (i + 1) ys (upd H4 D (.lst (acc ++ [y])))
theorem lc_end {D : Addr} {Pv : Nat → List V → Hp → Prop} {i : Nat} {y : V} {H4 : Hp} {ys : List V} (h : H4 D = some (.lst ys)) (hl : ys.length ≤ i) (hz : ys.length < sizeLine) (k : ∀ H', But D H4 H' → H' D = some (.lst (ys ++ [y])) → Pv (i + 1) (ys ++ [y]) H') : LcEnd D Pv i y H4 :=
  ⟨ys, h, hz, ys ++ [y], by rw [List.length_append]; exact Nat.succ_le_succ hl, upd_same, k _ (But.upd _ _ _) upd_same⟩
def LcSkip (D : Addr) (Pv : Nat → List V → Hp → Prop) (i : Nat) (H4 : Hp) : Prop := ∃ ys, ys.length ≤ i + 1 ∧ H4 D = some (.lst ys) ∧ Pv (i + 1) ys H4
theorem lc_skip {D : Addr} {Pv : Nat → List V → Hp → Prop} {i : Nat} {H4 : Hp} {ys : List V} (h : H4 D = some (.lst ys)) (hl : ys.length ≤ i) (k : Pv (i + 1) ys H4) : LcSkip D Pv i H4 := ⟨ys, Nat.le_succ_of_le hl, h, k⟩
/-- over a list: the word by the turn, the list so far, the heap; any test -/
theorem lc_L (xs : List V) (Pv : Addr → Nat → List V → Hp → Prop) (hS : SqL K H a xs) (h0 : ∀ D H', H D = none → Same H H' → H' D = some (.lst []) → Pv D 0 [] H')
    (hl : ∀ D, H D = none → ∀ i ys H', i ≤ xs.length → H' D = some (.lst ys) → Pv D i ys H' → SqL K H' a xs)
    (hs : ∀ D, H D = none → ∀ i x ys H', xs[i]? = some x → ys.length ≤ i → H' D = some (.lst ys) → Pv D i ys H' → tt ((wipe σ [j]).set j (some x)) H' fun b H3 => if b = true then te ((wipe σ [j]).set j (some x)) H3 fun y H4 => LcEnd D (Pv D) i y H4 else LcSkip D (Pv D) i H3)
    (hd : ∀ D, H D = none → ∀ ys H', ys.length ≤ xs.length → H' D = some (.lst ys) → Pv D xs.length ys H' → Q (.ref D) H') :
    ∃ b, V.ref a = .ref b ∧ (∃ xs, SqL K H b xs) ∧ ∀ D, H D = none → WLc (Itl K b) (gName j) tt te [j] σ D H Q :=
  ⟨a, rfl, ⟨xs, hS⟩, fun D hD => lc_list (xs := xs) (fun i H' => ∃ ys, ys.length ≤ i ∧ H' D = some (.lst ys) ∧ Pv D i ys H') ⟨[], Nat.le_refl _, upd_same, h0 D _ hD (Same.one hD) upd_same⟩ (fun i H' hi ⟨ys, _, e, p⟩ => hl D hD i ys H' hi e p)
    (fun i x H' hi ⟨ys, e, e2, p⟩ => ⟨wipe1 _ _ _, hs D hD i x ys H' hi e e2 p⟩) (fun H' ⟨ys, e, e2, p⟩ => hd D hD ys H' e e2 p)⟩
theorem lc_T (xs : List V) (Pv : Addr → Nat → List V → Hp → Prop) (hS : SqT K H a xs) (h0 : ∀ D H', H D = none → Same H H' → H' D = some (.lst []) → Pv D 0 [] H')
    (hl : ∀ D, H D = none → ∀ i ys H', i ≤ xs.length → H' D = some (.lst ys) → Pv D i ys H' → SqT K H' a xs)
    (hs : ∀ D, H D = none → ∀ i x ys H', xs[i]? = some x → ys.length ≤ i → H' D = some (.lst ys) → Pv D i ys H' → tt ((wipe σ [j]).set j (some x)) H' fun b H3 => if b = true then te ((wipe σ [j]).set j (some x)) H3 fun y H4 => LcEnd D (Pv D) i y H4 else LcSkip D (Pv D) i H3)
    (hd : ∀ D, H D = none → ∀ ys H', ys.length ≤ xs.length → H' D = some (.lst ys) → Pv D xs.length ys H' → Q (.ref D) H') :
    ∃ b, V.ref a = .ref b ∧ (∃ xs, SqT K H b xs) ∧ ∀ D, H D = none → WLc (Itt K b) (gName j) tt te [j] σ D H Q :=
  ⟨a, rfl, ⟨xs, hS⟩, fun D hD => lc_tup (xs := xs) (fun i H' => ∃ ys, ys.length ≤ i ∧ H' D = some (.lst ys) ∧ Pv D i ys H') ⟨[], Nat.le_refl _, upd_same, h0 D _ hD (Same.one hD) upd_same⟩ (fun i H' hi ⟨ys, _, e, p⟩ => hl D hD i ys H' hi e p)
    (fun i x H' hi ⟨ys, e, e2, p⟩ => ⟨wipe1 _ _ _, hs D hD i x ys H' hi e e2 p⟩) (fun H' ⟨ys, e, e2, p⟩ => hd D hD ys H' e e2 p)⟩
theorem lc_R1 {n : Int} (Pv : Addr → Nat → List V → Hp → Prop) (hb0 : -(2 ^ 62) ≤ n) (hb : n < 2 ^ 62) (h0 : ∀ D H', H D = none → Same H H' → H' D = some (.lst []) → Pv D 0 [] H')
    (hs : ∀ D, H D = none → ∀ (i : Nat) ys H', i < n.toNat → ys.length ≤ i → H' D = some (.lst ys) → Pv D i ys H' → tt ((wipe σ [j]).set j (some (.int (i : Int)))) H' fun b H3 => if b = true then te ((wipe σ [j]).set j (some (.int (i : Int)))) H3 fun y H4 => LcEnd D (Pv D) i y H4 else LcSkip D (Pv D) i H3)
    (hd : ∀ D, H D = none → ∀ ys H', ys.length ≤ n.toNat → H' D = some (.lst ys) → Pv D n.toNat ys H' → Q (.ref D) H') :
    ∃ m : Int, [V.int n] = [.int m] ∧ -(2 ^ 62) ≤ m ∧ m < 2 ^ 62 ∧ ∀ D, H D = none → WLc (Itr 0 m.toNat) (gName j) tt te [j] σ D H Q :=
  ⟨n, rfl, hb0, hb, fun D hD => lc_range (lo := 0) (n := n.toNat) (fun i H' => ∃ ys, ys.length ≤ i ∧ H' D = some (.lst ys) ∧ Pv D i ys H') ⟨[], Nat.le_refl _, upd_same, h0 D _ hD (Same.one hD) upd_same⟩
    (fun i H' hi ⟨ys, e, e2, p⟩ => by
      rw [Int.zero_add]
      exact ⟨wipe1 _ _ _, hs D hD i ys H' hi e e2 p⟩) (fun H' ⟨ys, e, e2, p⟩ => hd D hD ys H' e e2 p)⟩
theorem w_yes {R : Bool → Hp → Prop} (k : R true H) : tYes σ H R := k
end

/-! ### data -/
mutual
/-- data of None, ints, texts, lists, tuples, not too deep: what == tells of it is whether it is the same -/
def clean : PyData → Bool
  | .none => true
  | .int _ => true
  | .str x => PyData.strOk x
  | .list xs => cleanAll xs
  | .tuple xs => cleanAll xs
  | .bool _ => false
  | .dict _ => false
def cleanAll : List PyData → Bool
  | [] => true
  | x :: xs => clean x && cleanAll xs
end
mutual
theorem clean_lay : ∀ d : PyData, clean d = true → d.canLay0 = true
  | .none, _ => by rw [PyData.canLay0]
  | .int _, _ => by rw [PyData.canLay0]
  | .str x, h => by rw [PyData.canLay0]; rw [clean] at h; exact h
  | .list xs, h => by rw [PyData.canLay0]; rw [clean] at h; exact cleanAll_lay xs h
  | .tuple xs, h => by rw [PyData.canLay0]; rw [clean] at h; exact cleanAll_lay xs h
  | .bool _, h => by rw [clean] at h; cases h
  | .dict _, h => by rw [clean] at h; cases h
theorem cleanAll_lay : ∀ ds : List PyData, cleanAll ds = true → PyData.canLayAll0 ds = true
  | [], _ => by rw [PyData.canLayAll0]
  | x :: xs, h => by
    rw [cleanAll, Bool.and_eq_true] at h
    rw [PyData.canLayAll0, clean_lay x h.1, cleanAll_lay xs h.2]; rfl
end
mutual
theorem clean_eqv : ∀ d e : PyData, clean d = true → clean e = true → (PyData.eqv d e = true ↔ d = e)
  | .none, e, _, _ => by cases e <;> simp [PyData.eqv]
  | .int i, e, _, he => by cases e <;> simp [PyData.eqv]; simp [clean] at he
  | .str x, e, _, _ => by cases e <;> simp [PyData.eqv]
  | .list xs, e, h, he => by
    cases e <;> simp [PyData.eqv]
    simp only [clean] at h he
    exact cleanAll_eqv xs _ h he
  | .tuple xs, e, h, he => by
    cases e <;> simp [PyData.eqv]
    simp only [clean] at h he
    exact cleanAll_eqv xs _ h he
  | .bool _, _, h, _ => by simp [clean] at h
  | .dict _, _, h, _ => by simp [clean] at h
theorem cleanAll_eqv : ∀ ds es : List PyData, cleanAll ds = true → cleanAll es = true → (PyData.eqvAll ds es = true ↔ ds = es)
  | [], es, _, _ => by cases es <;> simp [PyData.eqvAll]
  | x :: xs, [], _, _ => by simp [PyData.eqvAll]
  | x :: xs, y :: ys, h, he => by
    simp only [cleanAll, Bool.and_eq_true] at h he
    simp only [PyData.eqvAll, Bool.and_eq_true, clean_eqv x y h.1 he.1, cleanAll_eqv xs ys h.2 he.2, List.cons.injEq]
end
/-- to be compared by == -/
structure Cmp (d : PyData) : Prop where
  clean : clean d = true
  depth : d.depth ≤ 64
theorem Cmp.shaped {d : PyData} (c : Cmp d) : SeqAt.shaped d = true := by
  unfold SeqAt.shaped
  rw [clean_lay d c.clean, Bool.true_and, decide_eq_true_eq]
  exact c.depth
theorem eqv_iff {d e : PyData} (c : Cmp d) (c' : Cmp e) : PyData.eqv d e = true ↔ d = e := clean_eqv d e c.clean c'.clean
open Classical in
theorem w_eqP {K : PySem.W.Frag} {H : Hp} {x y : V} {Q : VK} {d e : PyData} (hd : Dp K H x d) (he : Dp K H y e) (cd : Cmp d) (ce : Cmp e) (k : ∀ b : Bool, (b = true ↔ d = e) → Q (.bl b) H) : rEqA K x y H Q :=
  w_eqD hd he cd.shaped ce.shaped (k _ (eqv_iff cd ce))
theorem w_neP {K : PySem.W.Frag} {H : Hp} {x y : V} {Q : VK} {d e : PyData} (hd : Dp K H x d) (he : Dp K H y e) (cd : Cmp d) (ce : Cmp e) (k : ∀ b : Bool, (b = true ↔ d ≠ e) → Q (.bl b) H) : rNeA K x y H Q :=
  w_neD hd he cd.shaped ce.shaped (k _ (by
    have h := eqv_iff cd ce
    cases hb : PyData.eqv d e <;> rw [hb] at h <;> simp at h ⊢ <;> exact h))
theorem dpAll_ints {K : PySem.W.Frag} {H : Hp} : ∀ ns : List Int, DpAll K H (ns.map V.int) (ns.map PyData.int)
  | [] => .nil
  | n :: ns => .cons (.int n) (dpAll_ints ns)
theorem dp_ints {K : PySem.W.Frag} {H : Hp} {a : Addr} {ns : List Int} (h : SqL K H a (ns.map V.int)) : Dp K H (.ref a) (.list (ns.map PyData.int)) := .lst h (dpAll_ints ns)
theorem cleanAll_ints : ∀ ns : List Int, cleanAll (ns.map PyData.int) = true
  | [] => by simp [cleanAll]
  | n :: ns => by rw [List.map_cons, cleanAll, cleanAll_ints ns, clean]; rfl
theorem depthAll_ints : ∀ ns : List Int, PyData.depthAll (ns.map PyData.int) = 0
  | [] => by simp [PyData.depthAll]
  | n :: ns => by rw [List.map_cons, PyData.depthAll, depthAll_ints ns, PyData.depth]; rfl
theorem cmp_ints (ns : List Int) : Cmp (.list (ns.map PyData.int)) := ⟨by rw [clean]; exact cleanAll_ints ns, by rw [PyData.depth, depthAll_ints]; decide⟩
theorem map_int_inj {ns ms : List Int} : PyData.list (ns.map PyData.int) = .list (ms.map PyData.int) ↔ ns = ms := by
  constructor
  · intro h
    have h2 : ns.map PyData.int = ms.map PyData.int := by injection h
    exact (List.map_inj_right (f := PyData.int) (fun x y e => by injection e)).mp h2
  · intro h; rw [h]
theorem w_eqIL {K : PySem.W.Frag} {H : Hp} {p q : Addr} {Q : VK} {ns ms : List Int} (h1 : SqL K H p (ns.map V.int)) (h2 : SqL K H q (ms.map V.int)) (k : Q (.bl (decide (ns = ms))) H) : rEqA K (.ref p) (.ref q) H Q :=
  w_eqP (dp_ints h1) (dp_ints h2) (cmp_ints _) (cmp_ints _) fun b hb => by
    rw [map_int_inj] at hb
    rw [show b = decide (ns = ms) by rw [Bool.eq_iff_iff, hb, decide_eq_true_eq]]
    exact k
theorem w_neIL {K : PySem.W.Frag} {H : Hp} {p q : Addr} {Q : VK} {ns ms : List Int} (h1 : SqL K H p (ns.map V.int)) (h2 : SqL K H q (ms.map V.int)) (k : Q (.bl (!decide (ns = ms))) H) : rNeA K (.ref p) (.ref q) H Q :=
  w_neP (dp_ints h1) (dp_ints h2) (cmp_ints _) (cmp_ints _) fun b hb => by
    rw [ne_eq, map_int_inj] at hb
    rw [show b = !decide (ns = ms) by rw [Bool.eq_iff_iff, hb]; simp]
    exact k
/-! slices -/
section
variable {K : PySem.W.Frag} {σ : L2.St} {H : Hp} {te : TE} {tl th : TO} {Q : VK} {a : Addr} {xs : List V} {lo hi : Option Int}
theorem sl_any {X : Cx} {K : PySem.W.Frag} (hK : X.K = K) : SlR X (rSlAny K) := by
  subst hK
  exact sl_list.or (sl_str.or sl_tupA)
theorem w_sl {r : V → Option Int → Option Int → Hp → VK → Prop} (k : te σ H fun x H1 => tl σ H1 fun l H2 => th σ H2 fun u H3 => r x l u H3 Q) : tSl r te tl th σ H Q := k
theorem w_noPart {R : Option Int → Hp → Prop} (k : R none H) : tNoPart σ H R := k
theorem w_part {R : Option Int → Hp → Prop} (k : te σ H fun x H1 => ∃ i, x = .int i ∧ R (some i) H1) : tPart te σ H R := k
theorem w_int {R : Int → Prop} {n : Int} (k : R n) : ∃ i, V.int n = .int i ∧ R i := ⟨n, rfl, k⟩
theorem w_slL (h : SqL K H a xs) (k : NewO (.lst (cutV xs lo hi)) H Q) : rSlAny K (.ref a) lo hi H Q := .inl ⟨a, xs, rfl, h, k⟩
theorem w_slS {z : Str} (h : z.length ≤ sizeLine) (k : Q (.str (cutS z lo hi)) H) : rSlAny K (.str z) lo hi H Q := .inr (.inl ⟨z, rfl, h, k⟩)
theorem w_rep {l : Addr} {n : Int} (h : H l = some (.lst xs)) (h0 : -(2 ^ 63) ≤ n) (h1 : n < 2 ^ 63) (hz : xs.length * n.toNat ≤ sizeLine) (k : NewO (.lst (List.replicate n.toNat xs).flatten) H Q) : rMulA (.ref l) (.int n) H Q :=
  .inr ⟨l, n, xs, rfl, rfl, h, h0, h1, hz, k⟩
end

/-! ### unpacking: a tuple or a list -/
def gSeq (K : PySem.W.Frag) (n : Nat) (t : TGs) : TG := fun v σ H Q => gLst K n t v σ H Q ∨ gTup K n t v σ H Q
theorem pg_seq {X : Cx} {K : PySem.W.Frag} {pos : Pos} {es : List Expr} {k : Nat} {t : TGs} (n : Nat) (hK : X.K = K) (hc : X.calm = true) (h : PGs X es t)
    (hn : (assignEach es X.env).length = n := by rfl) (hst : (assignEach es X.env).findIdx? (·.1) = none := by rfl) : PG X (.Tuple es k pos) (gSeq K n t) := by
  subst hK
  refine ⟨fun pins s σ H v u Q I r hw => ?_⟩
  rcases hw with hw | hw
  · exact (pg_lst hc h hn hst).run pins s σ H v u Q I r hw
  · exact (pg_tup hc h hn hst).run pins s σ H v u Q I r hw
section
variable {K : PySem.W.Frag} {σ : L2.St} {H : Hp} {R : L2.St → Hp → Prop} {t : TGs} {g : TG} {xs : List V} {a : Addr} {v : V} {n : Nat}
theorem w_seqL (h : SqL K H a xs) (hl : xs.length = n) (k : t xs σ H R) : gSeq K n t (.ref a) σ H R := .inl ⟨a, xs, rfl, h, hl, k⟩
theorem w_seqT (h : SqT K H a xs) (hl : xs.length = n) (k : t xs σ H R) : gSeq K n t (.ref a) σ H R := .inr ⟨a, xs, rfl, h, hl, k⟩
theorem w_gNil (k : R σ H) : gNil [] σ H R := ⟨rfl, k⟩
theorem w_gCons (k : g v σ H fun σ' H' => t xs σ' H' R) : gCons g t (v :: xs) σ H R := ⟨v, xs, rfl, k⟩
end

/-! ### walks of any kind -/
section
variable {K : PySem.W.Frag} {σ : L2.St} {H : Hp} {a b D : Addr} {xs ys : List V} {g : TG} {tb : TS} {nx : L2.St → Hp → Prop} {rt : VK} {bk ct : L2.St → Hp → Prop} {tl te : TE} {ta : TA} {tt : TT} {Q : VK} {vs : List Nat} {J : It} {n : Nat} {G : Hp → Prop} {Y : Nat → Hp → V → Hp → Prop}
theorem wfor_it (w : Walk J n G Y) (Pv : Nat → L2.St → Hp → Prop) (h0 : Pv 0 σ H) (hG : ∀ i σ H, i ≤ n → Pv i σ H → G H)
    (hs : ∀ i x σ H H', i < n → Pv i σ H → Y i H x H' → g x σ H' fun σ2 H2 => tb ⟨Pv (i + 1), rt, nx, Pv (i + 1)⟩ σ2 H2) (hd : ∀ σ H, Pv n σ H → nx σ H) : WFor J g tb nx rt σ H :=
  for_it (D := ⟨nx, rt, fun _ _ => False, fun _ _ => False⟩) w Pv h0 hG hs hd
theorem wlc_it (w : Walk J n G Y) (Pv : Addr → Nat → List V → Hp → Prop) (h0 : ∀ D H', H D = none → Same H H' → H' D = some (.lst []) → Pv D 0 [] H') (hG : ∀ D, H D = none → ∀ i ys H', i ≤ n → H' D = some (.lst ys) → Pv D i ys H' → G H')
    (hs : ∀ D, H D = none → ∀ i x ys H0 H', i < n → ys.length ≤ i → H0 D = some (.lst ys) → Pv D i ys H0 → Y i H0 x H' → g x (wipe σ vs) H' fun σ2 H2 => wipe σ2 vs = wipe σ vs ∧ tt σ2 H2 fun b H3 => if b = true then te σ2 H3 fun y H4 => LcEnd D (Pv D) i y H4 else LcSkip D (Pv D) i H3)
    (hd : ∀ D, H D = none → ∀ ys H', ys.length ≤ n → H' D = some (.lst ys) → Pv D n ys H' → Q (.ref D) H') : ∀ D, H D = none → WLc J g tt te vs σ D H Q := fun D hD =>
  lc_it w (fun i H' => ∃ ys, ys.length ≤ i ∧ H' D = some (.lst ys) ∧ Pv D i ys H') ⟨[], Nat.le_refl _, upd_same, h0 D _ hD (Same.one hD) upd_same⟩ (fun i H' hi ⟨ys, _, e, p⟩ => hG D hD i ys H' hi e p)
    (fun i x H0 H' hi ⟨ys, e, e2, p⟩ y => hs D hD i x ys H0 H' hi e e2 p y) (fun H' ⟨ys, e, e2, p⟩ => hd D hD ys H' e e2 p)
theorem w_forZ (k : ta σ H fun vs H1 => ∃ a b xs ys, vs = [.ref a, .ref b] ∧ SqL K H1 a xs ∧ SqL K H1 b ys ∧ WFor (Itz K a b) g tb nx rt σ H1) : tFor (iZip K ta) g tb ⟨nx, rt, bk, ct⟩ σ H := k
theorem w_forE (k : ta σ H fun vs H1 => ∃ a xs, vs = [.ref a] ∧ SqL K H1 a xs ∧ WFor (Ite K a) g tb nx rt σ H1) : tFor (iEnum K ta) g tb ⟨nx, rt, bk, ct⟩ σ H := k
theorem w_forV (k : te σ H fun v H1 => ∃ (a : Addr) (xs : List V), v = .ref a ∧ ((SqL K H1 a xs ∧ WFor (Itv K a xs.length) g tb nx rt σ H1) ∨ (SqT K H1 a xs ∧ WFor (RT.ItvT K a xs.length) g tb nx rt σ H1))) : tFor (RT.iRevA K te) g tb ⟨nx, rt, bk, ct⟩ σ H := k
theorem w_lcZ (k : ta σ H fun us H1 => ∃ a b xs ys, us = [.ref a, .ref b] ∧ SqL K H1 a xs ∧ SqL K H1 b ys ∧ ∀ D, H1 D = none → WLc (Itz K a b) g tt te vs σ D H1 Q) : tLc (iZip K ta) g tt te vs σ H Q := k
theorem w_lcE (k : ta σ H fun us H1 => ∃ a xs, us = [.ref a] ∧ SqL K H1 a xs ∧ ∀ D, H1 D = none → WLc (Ite K a) g tt te vs σ D H1 Q) : tLc (iEnum K ta) g tt te vs σ H Q := k
/-- zip of two lists, each turn a new pair -/
theorem fl_zip (Pv : Nat → L2.St → Hp → Prop) (hx : SqL K H a xs) (hy : SqL K H b ys) (h0 : Pv 0 σ H) (hG : ∀ i σ H, i ≤ min xs.length ys.length → Pv i σ H → SqL K H a xs ∧ SqL K H b ys)
    (hs : ∀ i x y T σ H H', xs[i]? = some x → ys[i]? = some y → Pv i σ H → H T = none → Same H H' → H' T = some (.tup [x, y]) → g (.ref T) σ H' fun σ2 H2 => tb ⟨Pv (i + 1), rt, nx, Pv (i + 1)⟩ σ2 H2) (hd : ∀ σ H, Pv (min xs.length ys.length) σ H → nx σ H) :
    ∃ p q us ws, [V.ref a, .ref b] = [.ref p, .ref q] ∧ SqL K H p us ∧ SqL K H q ws ∧ WFor (Itz K p q) g tb nx rt σ H :=
  ⟨a, b, xs, ys, rfl, hx, hy, wfor_it (walk_zip rfl) Pv h0 hG (fun i v σ H H' hi p ⟨T, x, y, e, nT, e2, h1, h2⟩ => by subst e e2; exact hs i x y T σ H _ h1 h2 p nT (Same.one nT) upd_same) hd⟩
theorem fl_enum (Pv : Nat → L2.St → Hp → Prop) (hx : SqL K H a xs) (h0 : Pv 0 σ H) (hG : ∀ i σ H, i ≤ xs.length → Pv i σ H → SqL K H a xs)
    (hs : ∀ i x T σ H H', xs[i]? = some x → Pv i σ H → H T = none → Same H H' → H' T = some (.tup [.int (i : Nat), x]) → g (.ref T) σ H' fun σ2 H2 => tb ⟨Pv (i + 1), rt, nx, Pv (i + 1)⟩ σ2 H2) (hd : ∀ σ H, Pv xs.length σ H → nx σ H) :
    ∃ p us, [V.ref a] = [.ref p] ∧ SqL K H p us ∧ WFor (Ite K p) g tb nx rt σ H :=
  ⟨a, xs, rfl, hx, wfor_it walk_enum Pv h0 hG (fun i v σ H H' hi p ⟨T, x, y, e, nT, e2, h1, h2⟩ => by
    subst e e2
    obtain rfl : V.int (i : Nat) = x := Option.some.inj h1
    exact hs i y T σ H _ h2 p nT (Same.one nT) upd_same) hd⟩
theorem fl_rev (Pv : Nat → L2.St → Hp → Prop) (hx : SqL K H a xs) (h0 : Pv 0 σ H) (hG : ∀ i σ H, i ≤ xs.length → Pv i σ H → SqL K H a xs)
    (hs : ∀ i x σ H, i < xs.length → xs[xs.length - 1 - i]? = some x → Pv i σ H → g x σ H fun σ2 H2 => tb ⟨Pv (i + 1), rt, nx, Pv (i + 1)⟩ σ2 H2) (hd : ∀ σ H, Pv xs.length σ H → nx σ H) :
    ∃ (p : Addr) (us : List V), V.ref a = .ref p ∧ ((SqL K H p us ∧ WFor (Itv K p us.length) g tb nx rt σ H) ∨ (SqT K H p us ∧ WFor (RT.ItvT K p us.length) g tb nx rt σ H)) :=
  ⟨a, xs, rfl, .inl ⟨hx, wfor_it walk_rev Pv h0 hG (fun i x σ H H' hi p ⟨e, h⟩ => by subst e; exact hs i x σ _ hi h p) hd⟩⟩
/-- [e for x, y in zip(xs, ys) if ..], its names at i and j -/
theorem wipe2 (σ : L2.St) (i j : Nat) (x y : Option V) (h : i ≠ j) : wipe (((wipe σ [i, j]).set i x).set j y) [i, j] = wipe σ [i, j] := by
  show ((((((σ.set j none).set i none).set i x).set j y).set j none).set i none) = (σ.set j none).set i none
  apply List.ext_getElem?
  intro k
  simp only [List.getElem?_set, List.length_set]
  grind
theorem lc_zip {i0 j0 : Nat} (hij : i0 ≠ j0) (Pv : Addr → Nat → List V → Hp → Prop) (hx : SqL K H a xs) (hy : SqL K H b ys) (h0 : ∀ D H', H D = none → Same H H' → H' D = some (.lst []) → Pv D 0 [] H')
    (hG : ∀ D, H D = none → ∀ i zs H', i ≤ min xs.length ys.length → H' D = some (.lst zs) → Pv D i zs H' → SqL K H' a xs ∧ SqL K H' b ys)
    (hs : ∀ D, H D = none → ∀ i x y zs H0 H', xs[i]? = some x → ys[i]? = some y → zs.length ≤ i → H0 D = some (.lst zs) → Pv D i zs H0 → Same H0 H' → tt (((wipe σ [i0, j0]).set i0 (some x)).set j0 (some y)) H' fun b H3 => if b = true then te (((wipe σ [i0, j0]).set i0 (some x)).set j0 (some y)) H3 fun y H4 => LcEnd D (Pv D) i y H4 else LcSkip D (Pv D) i H3)
    (hd : ∀ D, H D = none → ∀ zs H', zs.length ≤ min xs.length ys.length → H' D = some (.lst zs) → Pv D (min xs.length ys.length) zs H' → Q (.ref D) H') :
    ∃ p q us ws, [V.ref a, .ref b] = [.ref p, .ref q] ∧ SqL K H p us ∧ SqL K H q ws ∧ ∀ D, H D = none → WLc (Itz K p q) (gSeq K 2 (gCons (gName i0) (gCons (gName j0) gNil))) tt te [i0, j0] σ D H Q :=
  ⟨a, b, xs, ys, rfl, hx, hy, wlc_it (walk_zip rfl) Pv h0 hG (fun D hD i v zs H0 H' hi hl e p ⟨T, x, y, ev, nT, e2, h1, h2⟩ => by
    subst ev e2
    exact w_seqT (SqT.of upd_same) rfl (w_gCons (w_gName (w_gCons (w_gName (w_gNil ⟨wipe2 _ _ _ _ _ hij, hs D hD i x y zs H0 _ h1 h2 hl e p (Same.one nT)⟩)))))) hd⟩
end
/-! ### isinstance -/
section
variable {K : PySem.W.Frag} {H : Hp} {Q : VK} {x : V}
theorem call_isiA {X : Cx} {K : PySem.W.Frag} (hK : X.K = K) : CallR X (.builtin "isinstance") (rIsi K) := by
  subst hK
  exact call_isi
theorem pe_gS {X : Cx} {x z : Str} {pos : Pos} (hg : Gl X x) (hm : ∃ t, X.mg x = some (.str z t)) (hd : (x == ("__debug__" : Str)) = false := by decide) : PE X (.Name x pos) (tC (.str z)) := by
  obtain ⟨t, hm⟩ := hm
  exact pe_glob hg hm ⟨t, rfl⟩ hd
theorem pe_gI {X : Cx} {x : Str} {z : Int} {pos : Pos} (hg : Gl X x) (hm : ∃ t, X.mg x = some (.int z t)) (hd : (x == ("__debug__" : Str)) = false := by decide) : PE X (.Name x pos) (tC (.int z)) := by
  obtain ⟨t, hm⟩ := hm
  exact pe_glob hg hm ⟨t, rfl⟩ hd
theorem w_isi {T : String} {a : String} {b : Bool} (h : TyX K H x (.type a)) (e : kitB a T = some b) (k : Q (.bl b) H) : rIsi K [x, .ty T] H Q := ⟨x, .ty T, .type a, .type T, b, rfl, .ty T, h, kit_ty e, k⟩
theorem ty_int {n : Int} : TyX K H (.int n) (.type "int") := .base (.int n)
theorem ty_bl {n : Bool} : TyX K H (.bl n) (.type "bool") := .base (.bl n)
theorem ty_str {n : Str} : TyX K H (.str n) (.type "str") := .base (.str n)
theorem ty_non : TyX K H .non (.type "NoneType") := .base .non
theorem ty_lst {a : Addr} {xs : List V} (h : H a = some (.lst xs)) : TyX K H (.ref a) (.type "list") := .base (.lst h)
theorem ty_sqT {a : Addr} {xs : List V} (h : SqT K H a xs) : TyX K H (.ref a) (.type "tuple") := by
  rcases h with (h | ⟨o, h⟩) | ⟨o, its, n, e, c, _⟩
  · exact .base (.tup h)
  · exact .fTuple h
  · exact .kTuple e c
theorem ty_tup {a : Addr} {xs : List V} (h : H a = some (.tup xs)) : TyX K H (.ref a) (.type "tuple") := .base (.tup h)
theorem ty_dic {a : Addr} {xs : List (Key × V)} (h : H a = some (.dK xs)) : TyX K H (.ref a) (.type "dict") := .base (.dK h)
/-- isinstance with a written tuple of classes -/
def kitAnyB (a : String) : List String → Option Bool
  | [] => some false
  | T :: r => match kitB a T with
    | some true => some true
    | some false => kitAnyB a r
    | none => none
theorem kitAnyB_ok {a : String} : ∀ {Ts : List String} {b : Bool}, kitAnyB a Ts = some b → PySem.W.kitAny K (.type a) (Ts.map Value.type) = some b
  | [], b, h => by
    have : some false = some b := h
    rw [← this]; exact kitAny_nil
  | T :: r, b, h => by
    unfold kitAnyB at h
    cases e : kitB a T with
    | none => rw [e] at h; cases h
    | some c =>
      rw [e] at h
      cases c with
      | true =>
        have : some true = some b := h
        cases this
        exact kitAny_cons (kit_ty e) (fun z => nomatch z) (fun _ => rfl)
      | false => exact kitAny_cons (kit_ty e) (fun _ => kitAnyB_ok h) (fun z => nomatch z)
theorem paired_ty : ∀ Ts : List String, Paired ClsV (Ts.map V.ty) (Ts.map Value.type)
  | [] => .nil
  | T :: r => .cons (.ty T) (paired_ty r)
theorem call_isiTA {X : Cx} {K : PySem.W.Frag} (hK : X.K = K) : CallR X (.builtin "isinstance") (rIsiT K) := by
  subst hK
  exact call_isiT
theorem w_isiT {tp : Addr} {a : String} {b : Bool} (Ts : List String) (h1 : H tp = some (.tup (Ts.map V.ty))) (h : TyX K H x (.type a)) (e : kitAnyB a Ts = some b) (k : Q (.bl b) H) : rIsiT K [x, .ref tp] H Q :=
  ⟨x, tp, _, .type a, _, b, rfl, h1, paired_ty Ts, h, kitAnyB_ok e, k⟩
/-- tuple(xs), list(xs) -/
def rTupOf (K : PySem.W.Frag) : List V → Hp → VK → Prop := fun xs H Q => ∃ p ys, xs = [.ref p] ∧ ((SqL K H p ys ∧ NewO (.tup ys) H Q) ∨ (SqT K H p ys ∧ Q (.ref p) H))
theorem call_tupA {X : Cx} {K : PySem.W.Frag} (hK : X.K = K) : CallR X (.type "tuple") (rTupOf K) := by
  subst hK
  exact call_tuple_of
theorem w_tupL {p : Addr} {ys : List V} (h : SqL K H p ys) (k : NewO (.tup ys) H Q) : rTupOf K [.ref p] H Q := ⟨p, ys, rfl, .inl ⟨h, k⟩⟩
theorem w_tupT {p : Addr} {ys : List V} (h : SqT K H p ys) (k : Q (.ref p) H) : rTupOf K [.ref p] H Q := ⟨p, ys, rfl, .inr ⟨h, k⟩⟩
def rListOf (K : PySem.W.Frag) : List V → Hp → VK → Prop := fun xs H Q => ∃ p ys, xs = [.ref p] ∧ (SqL K H p ys ∨ SqT K H p ys) ∧ NewO (.lst ys) H Q
theorem call_listA {X : Cx} {K : PySem.W.Frag} (hK : X.K = K) : CallR X (.type "list") (rListOf K) := by
  subst hK
  exact call_list_of
theorem w_listL {p : Addr} {ys : List V} (h : SqL K H p ys) (k : NewO (.lst ys) H Q) : rListOf K [.ref p] H Q := ⟨p, ys, rfl, .inl h, k⟩
theorem w_listT {p : Addr} {ys : List V} (h : SqT K H p ys) (k : NewO (.lst ys) H Q) : rListOf K [.ref p] H Q := ⟨p, ys, rfl, .inr h, k⟩
theorem w_slT {σ : L2.St} {lo hi : Option Int} {a : Addr} {xs : List V} (h : SqT K H a xs) (n : ¬ (HT.sIx xs.length 0 lo = 0 ∧ HT.sIx xs.length xs.length hi = xs.length)) (k : NewO (.tup (cutV xs lo hi)) H Q) : rSlAny K (.ref a) lo hi H Q :=
  .inr (.inr ⟨a, xs, rfl, h, fun z => (n z).elim, fun _ => k⟩)
/-- t[1:] -/
theorem cut1 (x : V) (xs : List V) : cutV (x :: xs) (some 1) none = xs := by
  unfold cutV
  have e : HT.sIx (x :: xs).length 0 (some 1) = 1 := by
    show (if (1 : Int) < 0 then ((1 : Int) + ((x :: xs).length : Int)).toNat else min (1 : Int).toNat (x :: xs).length) = 1
    rw [if_neg (by decide), List.length_cons]
    show min 1 (xs.length + 1) = 1
    omega
  rw [e, HT.sIx_none, List.drop_one, List.tail_cons, List.take_of_length_le (by rw [List.length_cons]; omega)]
theorem w_slT1 {σ : L2.St} {a : Addr} {x : V} {xs : List V} (h : SqT K H a (x :: xs)) (k : NewO (.tup xs) H Q) : rSlAny K (.ref a) (some 1) none H Q := w_slT (σ := σ) h (by
  intro ⟨z, _⟩
  have e : HT.sIx (x :: xs).length 0 (some 1) = 1 := by
    show (if (1 : Int) < 0 then ((1 : Int) + ((x :: xs).length : Int)).toNat else min (1 : Int).toNat (x :: xs).length) = 1
    rw [if_neg (by decide), List.length_cons]
    show min 1 (xs.length + 1) = 1
    omega
  rw [e] at z
  cases z) (by rw [cut1]; exact k)
/-- xs[::-1] -/
theorem w_revL {σ : L2.St} {te : TE} (k : te σ H fun x H1 => ∃ a xs, x = .ref a ∧ SqL K H1 a xs ∧ NewO (.lst xs.reverse) H1 Q) : tRevL K te σ H Q := k
theorem w_ref2 {a : Addr} {xs : List V} {R : Addr → List V → Prop} (k : R a xs) : ∃ b ys, V.ref a = .ref b ∧ R b ys := ⟨a, xs, rfl, k⟩
/-- dicts: displays, look-ups -/
theorem w_disp {σ : L2.St} {trs : List (TE × TE)} (k : ∀ p H', H p = none → Same H H' → H' p = some (.dK []) → tPairs trs σ H' fun ps H2 => H2 p = some (.dK []) ∧ ∃ kvs : List (Key × V), ps = kvs.map (fun kv => (kV kv.1, kv.2)) ∧ kvs.length ≤ 15 ∧ ChgO p (.dK (mergeK [] kvs)) H2 (Q (.ref p))) : tDisp trs σ H Q :=
  fun p hp => k p _ hp (Same.one hp) upd_same
theorem w_pairN {σ : L2.St} {R : List (V × V) → Hp → Prop} (k : R [] H) : tPairs [] σ H R := k
theorem w_pairC {σ : L2.St} {tk tv : TE} {r : List (TE × TE)} {R : List (V × V) → Hp → Prop} (k : tk σ H fun x H1 => tv σ H1 fun y H2 => tPairs r σ H2 fun ps H3 => R ((x, y) :: ps) H3) : tPairs ((tk, tv) :: r) σ H R := k
theorem w_dget {σ : L2.St} {td ty : TE} (k : td σ H fun x H1 => ty σ H1 fun y H2 => ∃ a v, x = .ref a ∧ DGet H2 a y (some v) ∧ Q v H2) : tDGet td ty σ H Q := k
theorem w_dgotS {a : Addr} {kvs : List (Key × V)} {z : Str} {v : V} {R : V → Prop} (h : H a = some (.dK kvs)) (e : valV kvs (.inr z) = some v) (k : R v) : ∃ b v, V.ref a = .ref b ∧ DGet H b (.str z) (some v) ∧ R v := ⟨a, v, rfl, by rw [← e]; exact DGet.k (k := .inr z) h, k⟩
theorem w_dgotI {a : Addr} {kvs : List (Key × V)} {z : Int} {v : V} {R : V → Prop} (h : H a = some (.dK kvs)) (e : valV kvs (.inl z) = some v) (k : R v) : ∃ b v, V.ref a = .ref b ∧ DGet H b (.int z) (some v) ∧ R v := ⟨a, v, rfl, by rw [← e]; exact DGet.k (k := .inl z) h, k⟩
/-- texts in lists, and their == -/
theorem dpAll_strs : ∀ ns : List Str, DpAll K H (ns.map V.str) (ns.map PyData.str)
  | [] => .nil
  | n :: ns => .cons (.str n) (dpAll_strs ns)
theorem dp_strs {a : Addr} {ns : List Str} (h : SqL K H a (ns.map V.str)) : Dp K H (.ref a) (.list (ns.map PyData.str)) := .lst h (dpAll_strs ns)
theorem cleanAll_strs : ∀ ns : List Str, (ns.all PyData.strOk) = true → cleanAll (ns.map PyData.str) = true
  | [], _ => by simp [cleanAll]
  | n :: ns, h => by
    rw [List.all_cons, Bool.and_eq_true] at h
    rw [List.map_cons, cleanAll, cleanAll_strs ns h.2, clean, h.1]; rfl
theorem depthAll_strs : ∀ ns : List Str, PyData.depthAll (ns.map PyData.str) = 0
  | [] => by simp [PyData.depthAll]
  | n :: ns => by rw [List.map_cons, PyData.depthAll, depthAll_strs ns, PyData.depth]; rfl
theorem cmp_strs {ns : List Str} (h : (ns.all PyData.strOk) = true) : Cmp (.list (ns.map PyData.str)) := ⟨by rw [clean]; exact cleanAll_strs ns h, by rw [PyData.depth, depthAll_strs]; decide⟩
theorem map_str_inj {ns ms : List Str} : PyData.list (ns.map PyData.str) = .list (ms.map PyData.str) ↔ ns = ms := by
  constructor
  · intro h
    have h2 : ns.map PyData.str = ms.map PyData.str := by injection h
    exact (List.map_inj_right (f := PyData.str) (fun x y e => by injection e)).mp h2
  · intro h; rw [h]
theorem w_eqSL {p q : Addr} {ns ms : List Str} (h1 : SqL K H p (ns.map V.str)) (h2 : SqL K H q (ms.map V.str)) (o1 : (ns.all PyData.strOk) = true) (o2 : (ms.all PyData.strOk) = true) (k : Q (.bl (decide (ns = ms))) H) : rEqA K (.ref p) (.ref q) H Q :=
  w_eqP (dp_strs h1) (dp_strs h2) (cmp_strs o1) (cmp_strs o2) fun b hb => by
    rw [map_str_inj] at hb
    rw [show b = decide (ns = ms) by rw [Bool.eq_iff_iff, hb, decide_eq_true_eq]]
    exact k
theorem w_neSL {p q : Addr} {ns ms : List Str} (h1 : SqL K H p (ns.map V.str)) (h2 : SqL K H q (ms.map V.str)) (o1 : (ns.all PyData.strOk) = true) (o2 : (ms.all PyData.strOk) = true) (k : Q (.bl (!decide (ns = ms))) H) : rNeA K (.ref p) (.ref q) H Q :=
  w_neP (dp_strs h1) (dp_strs h2) (cmp_strs o1) (cmp_strs o2) fun b hb => by
    rw [ne_eq, map_str_inj] at hb
    rw [show b = !decide (ns = ms) by rw [Bool.eq_iff_iff, hb]; simp]
    exact k
/-- a text cut by another one -/
def rSplit : V → List V → Hp → VK → Prop := fun x xs H Q => ∃ a b, x = .str a ∧ xs = [.str b] ∧ (b.length == 0) = false ∧ a.length + 2 ≤ sizeLine ∧ rNewStrs (Txt.split a b) H Q
theorem mt_splitA {X : Cx} : MtR X "str.split" rSplit := mt_split
theorem w_split {a b : Str} {ys : List Str} (e : Txt.split a b = ys) (hb : (b.length == 0) = false) (ha : a.length + 2 ≤ sizeLine) (k : NewO (.lst (ys.map V.str)) H Q) : rSplit (.str a) [.str b] H Q := ⟨a, b, rfl, rfl, hb, ha, by rw [e]; exact k⟩
end

/-! ### what no tuple loses -/
def TS (H H' : Hp) : Prop := ∀ b xs, (H b = some (.tup xs) → H' b = some (.tup xs)) ∧ ∀ u, H b = some (.frz u (.tup xs)) → H' b = some (.frz u (.tup xs))
theorem TS.of {H H' : Hp} (e : Same H H') : TS H H' := fun b _ => ⟨e b _, fun _ => e b _⟩
theorem TS.butL {s : Addr} {H H' : Hp} {ys : List V} (e : But s H H') (t : H s = some (.lst ys)) : TS H H' := fun b _ => ⟨fun h => e b _ (ne_of h t (by intro q; cases q)) h, fun _ h => e b _ (ne_of h t (by intro q; cases q)) h⟩
theorem TS.butS {s : Addr} {H H' : Hp} (e : But s H H') (t : Stm H s) : TS H H' := by
  obtain ⟨_, _, _, t⟩ := t
  exact TS.butL e t
theorem TS.butI {s C dx : Addr} {fs : List (Str × V)} {H H' : Hp} (e : But s H H') (t : H s = some (.ins C dx fs)) : TS H H' := fun b _ => ⟨fun h => e b _ (ne_of h t (by intro q; cases q)) h, fun _ h => e b _ (ne_of h t (by intro q; cases q)) h⟩
theorem TS.trans {H H1 H2 : Hp} (a : TS H H1) (b : TS H1 H2) : TS H H2 := fun c xs => ⟨fun h => (b c xs).1 ((a c xs).1 h), fun u h => (b c xs).2 u ((a c xs).2 u h)⟩
theorem TS.refl (H : Hp) : TS H H := fun _ _ => ⟨fun h => h, fun _ h => h⟩
theorem TS.sqT {K : PySem.W.Frag} {H H' : Hp} {a : Addr} {xs : List V} (e : TS H H') (h : SqT K H a xs) : SqT K H' a xs := by
  rcases h with (h | ⟨o, h⟩) | h
  · exact .inl (.inl ((e a xs).1 h))
  · exact .inl (.inr ⟨o, (e a xs).2 o h⟩)
  · exact .inr h
mutual
/-- tuples all the way -/
def tupD : PyData → Bool
  | .none => true
  | .int _ => true
  | .str _ => true
  | .bool _ => true
  | .list _ => false
  | .tuple xs => tupAll xs
  | .dict _ => false
def tupAll : List PyData → Bool
  | [] => true
  | x :: xs => tupD x && tupAll xs
end
mutual
theorem dp_ts {K : PySem.W.Frag} {H H' : Hp} (e : TS H H') : ∀ (d : PyData) (v : V), tupD d = true → Dp K H v d → Dp K H' v d
  | .none, _, _, h => by cases h; exact .non
  | .int _, _, _, h => by cases h; exact .int _
  | .str _, _, _, h => by cases h; exact .str _
  | .bool _, _, _, h => by cases h; exact .bl _
  | .list _, _, t, _ => by simp [tupD] at t
  | .tuple ds, _, t, h => by
    cases h with
    | tup hs ha => exact .tup (e.sqT hs) (dpAll_ts e ds _ (by simpa [tupD] using t) ha)
  | .dict _, _, t, _ => by simp [tupD] at t
theorem dpAll_ts {K : PySem.W.Frag} {H H' : Hp} (e : TS H H') : ∀ (ds : List PyData) (vs : List V), tupAll ds = true → DpAll K H vs ds → DpAll K H' vs ds
  | [], _, _, h => by cases h; exact .nil
  | d :: ds, _, t, h => by
    rw [tupAll, Bool.and_eq_true] at t
    cases h with
    | cons h1 h2 => exact .cons (dp_ts e d _ t.1 h1) (dpAll_ts e ds _ t.2 h2)
end
section
variable {K : PySem.W.Frag} {H : Hp}
theorem dp_tup {v : V} {ds : List PyData} (h : Dp K H v (.tuple ds)) : ∃ a xs, v = .ref a ∧ SqT K H a xs ∧ DpAll K H xs ds := by
  cases h with
  | tup hs ha => exact ⟨_, _, rfl, hs, ha⟩
theorem dp_str {v : V} {x : Str} (h : Dp K H v (.str x)) : v = .str x := by cases h; rfl
theorem dp_int {v : V} {x : Int} (h : Dp K H v (.int x)) : v = .int x := by cases h; rfl
theorem dpa_nil {vs : List V} (h : DpAll K H vs []) : vs = [] := by cases h; rfl
theorem dpa_cons {vs : List V} {d : PyData} {ds : List PyData} (h : DpAll K H vs (d :: ds)) : ∃ v r, vs = v :: r ∧ Dp K H v d ∧ DpAll K H r ds := by
  cases h with
  | cons a b => exact ⟨_, _, rfl, a, b⟩
theorem dpa_len : ∀ {ds : List PyData} {vs : List V}, DpAll K H vs ds → vs.length = ds.length
  | [], _, h => by cases h; rfl
  | d :: ds, _, h => by
    cases h with
    | cons a b => rw [List.length_cons, List.length_cons, dpa_len b]
theorem dpa_app : ∀ {ds es : List PyData} {vs us : List V}, DpAll K H vs ds → DpAll K H us es → DpAll K H (vs ++ us) (ds ++ es)
  | [], _, _, _, h, h' => by cases h; exact h'
  | d :: ds, _, _, _, h, h' => by
    cases h with
    | cons a b => exact .cons a (dpa_app b h')
theorem dpa_one {v : V} {d : PyData} (h : Dp K H v d) : DpAll K H [v] [d] := .cons h .nil
theorem dpa_at : ∀ {ds : List PyData} {vs : List V} {i : Nat} {d : PyData}, DpAll K H vs ds → ds[i]? = some d → ∃ v, vs[i]? = some v ∧ Dp K H v d
  | [], _, i, _, _, e => by simp at e
  | d :: ds, _, 0, _, h, e => by
    cases h with
    | cons a b => simp at e; subst e; exact ⟨_, rfl, a⟩
  | d :: ds, _, i + 1, _, h, e => by
    cases h with
    | cons a b =>
      have q := dpa_at (ds := ds) (i := i) b (by simpa using e)
      exact q
theorem dpa_at' : ∀ {ds : List PyData} {vs : List V} {i : Nat} {v : V}, DpAll K H vs ds → vs[i]? = some v → ∃ d, ds[i]? = some d ∧ Dp K H v d
  | [], _, i, _, h, e => by cases h; simp at e
  | d :: ds, _, 0, _, h, e => by
    cases h with
    | cons a b => simp at e; subst e; exact ⟨_, rfl, a⟩
  | d :: ds, _, i + 1, _, h, e => by
    cases h with
    | cons a b =>
      have q := dpa_at' (ds := ds) (i := i) b (by simpa using e)
      exact q
theorem tupAll_app : ∀ (a b : List PyData), tupAll (a ++ b) = (tupAll a && tupAll b)
  | [], _ => by simp [tupAll]
  | x :: a, b => by rw [List.cons_append, tupAll, tupAll, tupAll_app a b, Bool.and_assoc]
theorem cleanAll_app : ∀ (a b : List PyData), cleanAll (a ++ b) = (cleanAll a && cleanAll b)
  | [], _ => by simp [cleanAll]
  | x :: a, b => by rw [List.cons_append, cleanAll, cleanAll, cleanAll_app a b, Bool.and_assoc]
end

/-! ### places -/
theorem atI_of {α : Type} {xs : List α} {n : Int} {v : α} (h0 : 0 ≤ n) (h : xs[n.toNat]? = some v) : atI xs n = some v := by
  have e : ((n.toNat : Nat) : Int) = n := Int.toNat_of_nonneg h0
  have q := atI_nat h
  rw [e] at q
  exact q
theorem at0 {α : Type} {a : α} {xs : List α} : atI (a :: xs) 0 = some a := atI_of (Int.le_refl 0) rfl
theorem at1 {α : Type} {a b : α} {xs : List α} : atI (a :: b :: xs) 1 = some b := atI_of (by decide) rfl
theorem at2 {α : Type} {a b c : α} {xs : List α} : atI (a :: b :: c :: xs) 2 = some c := atI_of (by decide) rfl
theorem atI_some {α : Type} {xs : List α} {n : Int} (h0 : 0 ≤ n) (h : n < xs.length) : ∃ v, atI xs n = some v ∧ v ∈ xs ∧ xs[n.toNat]? = some v := by
  have hl : n.toNat < xs.length := by omega
  refine ⟨xs[n.toNat], atI_of h0 (List.getElem?_eq_getElem hl), List.getElem_mem hl, List.getElem?_eq_getElem hl⟩

theorem cdw {i j : Int} (h : 0 < j) (h2 : j < 2 ^ 200) : CDivW i j := wide_div (b := 200) h (by omega) (by decide) (by decide)
/-! ### defs by names -/
/-- the def at f keeps the promise sp -/
def FnA (P : Program) (w : World) (K : PySem.W.Frag) (mg : Str → Option Value) (f : Addr) (k : Nat) (ps : List Str) (sp : Sp) : Prop :=
  ∃ fd, (∀ base, FnOk P w K mg base CX0 k f fd ps sp) ∧ Binds K fd ps [] ∧ ∀ (s : Shared) (us : List Value), us.length = ps.length → BindsTo s fd ⟨us, []⟩ (ps.zip us)
/-- the def of the name x keeps the promise sp -/
structure Fn (P : Program) (w : World) (K : PySem.W.Frag) (mg : Str → Option Value) (x : Str) (k : Nat) (ps : List Str) (sp : Sp) : Prop where
  ex : FnA P w K mg (He.ga K x) k ps sp
  gl : mg x = some (.ref (He.ga K x))
  kp : PySem.W.keepIn K (.ref (He.ga K x)) = true
section
variable {X : Cx} {k : Nat} {x : Str} {ps : List Str} {sp : Sp} {p pos : Pos} {e : Expr} {es : List Expr} {t : TA}
theorem pe_fn (F : Fn X.prog X.w X.K X.mg x k ps sp) (hr : Room k X.A) (hg : Gl X x) (ha : PA X (e :: es) t)
    (hdb : (x == ("__debug__" : Str)) = false := by decide) (he : starEach (e :: es) X.env = (false, eval e X.env) :: starEach es X.env := by rfl) (hpl : (backTo pos (starEach es X.env)).any (·.1) = false := by rfl) :
    PE X (.Call (.Name x p) (e :: es) [] pos) (tCall sp [] E0 t) := by
  obtain ⟨fd, G, b, _⟩ := F.ex
  exact pe_call (G X.base) hr hg F.gl F.kp b .nil pass0 ha hdb he hpl
theorem pe_fn0 (F : Fn X.prog X.w X.K X.mg x k ps sp) (hr : Room k X.A) (hg : Gl X x) (hdb : (x == ("__debug__" : Str)) = false := by decide) :
    PE X (.Call (.Name x p) [] [] pos) (tCall sp [] E0 tNil) := by
  obtain ⟨fd, G, b, _⟩ := F.ex
  exact pe_call0 (G X.base) hr hg F.gl F.kp b .nil pass0 hdb
end
/-- a def's data as the head tells it -/
theorem FnA.mk' {P : Program} {w : World} {K : PySem.W.Frag} {mg : Str → Option Value} {x q : Str} {k : Nat} {N ps : List Str} {sp : Sp} {args : Arguments} {body : List Stmt} {sc : Scope} {f : Addr} {fd : FuncData}
    (F : FunD K x q args body sc [] [] f fd) (S : FnScope N ps sc) (len : ∀ vs H Q E, sp vs H Q E → vs.length = ps.length)
    (hb : ∀ (kV doc pm : Value) (an : Option Addr) (cdv ct : Value) (us : List Value), us.length = ps.length → bindArgs (PySem.W.fnOf x q args body sc .none kV doc pm an cdv ct) ⟨us, []⟩ = pure (ps.zip us))
    (hbody : ∀ (base : Heap) (cdv : Value) (A : Around) (outer : List Env) (s : Shared) (H : Hp) (vs : List V) (Q : VK) (E : XK), Room k (A.deeper (envOfC q sc s.heap.objs.size f cdv)) → sp vs H Q E →
      ∃ t, PSs (cxOf CX0 P w K mg base N q sc f cdv A outer s H E).nox body t ∧ t ⟨fun _ H' => Q .non H', Q, fun _ _ => False, fun _ _ => False⟩ (start N vs) H) : FnA P w K mg f (k + 1) ps sp :=
  ⟨fd, fun base => F.ok S len fun cdv A outer s H vs Q E hr h => by
      obtain ⟨t, d, q⟩ := hbody base cdv A outer s H vs Q E hr h
      exact ⟨t, d.nox, q⟩, F.bindsN hb, F.bindsA hb⟩
theorem Fn.mk' {P : Program} {w : World} {K : PySem.W.Frag} {mg : Str → Option Value} {x : Str} {k : Nat} {N ps : List Str} {sp : Sp} {args : Arguments} {body : List Stmt} {sc : Scope} {fd : FuncData}
    (F : FunD K x x args body sc [] [] (He.ga K x) fd) (gl : mg x = some (.ref (He.ga K x))) (S : FnScope N ps sc) (len : ∀ vs H Q E, sp vs H Q E → vs.length = ps.length)
    (hb : ∀ (kV doc pm : Value) (an : Option Addr) (cdv ct : Value) (us : List Value), us.length = ps.length → bindArgs (PySem.W.fnOf x x args body sc .none kV doc pm an cdv ct) ⟨us, []⟩ = pure (ps.zip us))
    (hbody : ∀ (base : Heap) (cdv : Value) (A : Around) (outer : List Env) (s : Shared) (H : Hp) (vs : List V) (Q : VK) (E : XK), Room k (A.deeper (envOfC x sc s.heap.objs.size (He.ga K x) cdv)) → sp vs H Q E →
      ∃ t, PSs (cxOf CX0 P w K mg base N x sc (He.ga K x) cdv A outer s H E).nox body t ∧ t ⟨fun _ H' => Q .non H', Q, fun _ _ => False, fun _ _ => False⟩ (start N vs) H) : Fn P w K mg x (k + 1) ps sp :=
  ⟨FnA.mk' F S len hb hbody, gl, F.kp⟩
/-! ### classes of the text -/
def tMet (C : Addr) (m : Str) (sp : Sp) (to : TE) (t : TA) : TE := fun σ H Q => to σ H fun x H1 => ∃ a dx fs, x = .ref a ∧ H1 a = some (.ins C dx fs) ∧ fs.lookup m = none ∧ t σ H1 fun vs H2 => sp (x :: vs) H2 Q E0
def tMkI (C : Addr) (sp : Sp) (t : TA) : TE := fun σ H Q => t σ H fun vs H1 => ∀ x dx, H1 x = none → H1 dx = none → dx ≠ x → sp (.ref x :: vs) (upd (upd H1 dx (.own x)) x (.ins C dx [])) (fun v H2 => v = .non ∧ Q (.ref x) H2) E0
theorem tMet_eq (C : Addr) (m : Str) (sp : Sp) (to : TE) (t : TA) : tMeth C m sp [] E0 to t = tMet C m sp to t := by
  unfold tMeth tMet
  simp only [List.append_nil]
theorem tMkI_eq (C : Addr) (sp : Sp) (t : TA) : tMake C sp [] E0 t = tMkI C sp t := by
  unfold tMake tMkI
  simp only [List.append_nil]
theorem PE.or {X : Cx} {e : Expr} {t u : TE} (h : PE X e t) (h' : PE X e u) : PE X e (fun σ H Q => t σ H Q ∨ u σ H Q) := ⟨fun pins s σ H Q I q => by
  rcases q with q | q
  · exact h.run pins s σ H Q I q
  · exact h'.run pins s σ H Q I q⟩
section
variable {X : Cx} {K : PySem.W.Frag} {k : Nat} {m x : Str} {ps : List Str} {sp : Sp} {p pos apos : Pos} {o e : Expr} {es : List Expr} {to : TE} {t : TA} {C : Addr}
theorem pe_met {pl : Sem Bool} (F : FnA X.prog X.w X.K X.mg (He.ma K C m) k ps sp) (hK : X.K = K) (cl : Cls K C) (me : Meth K C m (He.ma K C m)) (hr : Room k X.A) (he : PE X o to) (ha : PA X (e :: es) t)
    (hst : starEach (e :: es) X.env = (false, eval e X.env) :: starEach es X.env := by rfl) (hpl : (backTo pos (starEach es X.env)).any (·.1) = false := by rfl)
    (ht : eval (.Call (.Attribute o m apos) (e :: es) [] pos) X.env = (do
      let ov ← eval o X.env
      standAt apos.atName
      let (f, first) ← holding [ov] (getMethod ov m pl)
      callWith pos f first (backTo pos (starEach (e :: es) X.env)) (backToKw pos (keywordEach [] X.env))) := by rfl) : PE X (.Call (.Attribute o m apos) (e :: es) [] pos) (tMet C m sp to t) := by
  subst hK
  obtain ⟨fd, G, b, _⟩ := F
  rw [← tMet_eq]
  exact pe_meth he cl me (G X.base) hr b .nil pass0 ha hst hpl ht
theorem pe_met0 {pl : Sem Bool} (F : FnA X.prog X.w X.K X.mg (He.ma K C m) k ps sp) (hK : X.K = K) (cl : Cls K C) (me : Meth K C m (He.ma K C m)) (hr : Room k X.A) (he : PE X o to)
    (ht : eval (.Call (.Attribute o m apos) [] [] pos) X.env = (do
      let ov ← eval o X.env
      standAt apos.atName
      let (f, first) ← holding [ov] (getMethod ov m pl)
      callWith pos f first (backTo pos (starEach [] X.env)) (backToKw pos (keywordEach [] X.env))) := by rfl) : PE X (.Call (.Attribute o m apos) [] [] pos) (tMet C m sp to tNil) := by
  subst hK
  obtain ⟨fd, G, b, _⟩ := F
  rw [← tMet_eq]
  exact pe_meth0 he cl me (G X.base) hr b .nil pass0 ht
theorem pe_mkI (F : FnA X.prog X.w X.K X.mg (He.ma K C "__init__") k ps sp) (hK : X.K = K) (M : Mk K C (He.ma K C "__init__")) (hm : X.mg x = some (.ref C)) (hr : Room (k + 1) X.A) (hg : Gl X x) (ha : PA X (e :: es) t)
    (hdb : (x == ("__debug__" : Str)) = false := by decide) (he : starEach (e :: es) X.env = (false, eval e X.env) :: starEach es X.env := by rfl) (hpl : (backTo pos (starEach es X.env)).any (·.1) = false := by rfl) :
    PE X (.Call (.Name x p) (e :: es) [] pos) (tMkI C sp t) := by
  subst hK
  obtain ⟨fd, G, b, _⟩ := F
  rw [← tMkI_eq]
  exact pe_make M (G X.base) hr hg hm b .nil pass0 ha hdb he hpl
theorem pe_mkI0 (F : FnA X.prog X.w X.K X.mg (He.ma K C "__init__") k ps sp) (hK : X.K = K) (M : Mk K C (He.ma K C "__init__")) (hm : X.mg x = some (.ref C)) (hr : Room (k + 1) X.A) (hg : Gl X x)
    (hdb : (x == ("__debug__" : Str)) = false := by decide) : PE X (.Call (.Name x p) [] [] pos) (tMkI C sp tNil) := by
  subst hK
  obtain ⟨fd, G, b, _⟩ := F
  rw [← tMkI_eq]
  exact pe_make0 M (G X.base) hr hg hm b .nil pass0 hdb
theorem pe_fldK {f : Str} (hK : X.K = K) (he : PE X o to) (hb : attributeBase o f X.env (eval o X.env) = eval o X.env := by rfl) : PE X (.Attribute o f pos) (tFld K to f) := by
  subst hK
  exact pe_fld he hb
end
section
variable {K : PySem.W.Frag} {σ : L2.St} {H : Hp} {Q : VK} {p C dx : Addr} {fs : List (Str × V)} {m f : Str} {v y : V} {sp : Sp} {to tv : TE} {t : TA} {nx : L2.St → Hp → Prop} {rt : VK} {bk ct : L2.St → Hp → Prop}
theorem w_met (k : to σ H fun x H1 => ∃ a dx fs, x = .ref a ∧ H1 a = some (.ins C dx fs) ∧ fs.lookup m = none ∧ t σ H1 fun vs H2 => sp (x :: vs) H2 Q E0) : tMet C m sp to t σ H Q := k
theorem w_metAt {R : Prop} (h : H p = some (.ins C dx fs)) (l : fs.lookup m = none) (k : R) : ∃ a dx fs, V.ref p = .ref a ∧ H a = some (.ins C dx fs) ∧ fs.lookup m = none ∧ R := ⟨p, dx, fs, rfl, h, l, k⟩
def NewI (C : Addr) (sp : Sp) (vs : List V) (H : Hp) (Q : VK) : Prop := ∀ x dx, H x = none → H dx = none → dx ≠ x → sp (.ref x :: vs) (upd (upd H dx (.own x)) x (.ins C dx [])) (fun v H2 => v = .non ∧ Q (.ref x) H2) E0
theorem w_mkI (k : t σ H fun vs H1 => NewI C sp vs H1 Q) : tMkI C sp t σ H Q := k
theorem w_newI {vs : List V} (k : ∀ x dx H', H x = none → Same H H' → H' x = some (.ins C dx []) → sp (.ref x :: vs) H' (fun v H2 => v = .non ∧ Q (.ref x) H2) E0) : NewI C sp vs H Q := fun x dx hx hdx ne =>
  k x dx _ hx (fun b o e => by
    rw [upd_ne (ne_of_none e hx), upd_ne (ne_of_none e hdx)]
    exact e) upd_same
theorem w_fld (k : to σ H fun x H1 => ∃ a C dx fs v, x = .ref a ∧ H1 a = some (.ins C dx fs) ∧ Cls K C ∧ NoAttr K C f ∧ fs.lookup f = some v ∧ Q v H1) : tFld K to f σ H Q := k
theorem w_fldAt {R : V → Prop} (h : H p = some (.ins C dx fs)) (cl : Cls K C) (na : NoAttr K C f) (l : fs.lookup f = some v) (k : R v) : ∃ a C dx fs v, V.ref p = .ref a ∧ H a = some (.ins C dx fs) ∧ Cls K C ∧ NoAttr K C f ∧ fs.lookup f = some v ∧ R v := ⟨p, C, dx, fs, v, rfl, h, cl, na, l, k⟩
theorem w_sfld (k : tv σ H fun y H1 => to σ H1 fun x H2 => ∃ a C dx fs, x = .ref a ∧ H2 a = some (.ins C dx fs) ∧ Cls K C ∧ NoAttr K C f ∧ fs.length < 1000 ∧ ChgO a (.ins C dx (putF f y fs)) H2 (nx σ)) : sFld K to tv f ⟨nx, rt, bk, ct⟩ σ H := k
theorem w_sfldAt {S : Hp → Prop} {gs : List (Str × V)} (h : H p = some (.ins C dx fs)) (cl : Cls K C) (na : NoAttr K C f) (hl : fs.length < 1000) (e : putF f y fs = gs) (k : ChgO p (.ins C dx gs) H S) :
    ∃ a C dx fs, V.ref p = .ref a ∧ H a = some (.ins C dx fs) ∧ Cls K C ∧ NoAttr K C f ∧ fs.length < 1000 ∧ ChgO a (.ins C dx (putF f y fs)) H S := ⟨p, C, dx, fs, rfl, h, cl, na, hl, by rw [e]; exact k⟩
end

end J
namespace J
open PySem PySem.Spec PyProof.Rows L2
def top (i : Nat) : Stmt := PySem.Challenge.pw_rowsjoined_k01_words_names_numbers.main.body.getD i (.Pass ⟨0, 0, 0, 0⟩)
abbrev s_is_whole : Stmt := top 4
abbrev N_is_whole : List Str := ["thing"]
theorem sc_is_whole : FnScope N_is_whole ["thing"] (defScope s_is_whole) := ⟨rfl, rfl, rfl, by decide +kernel, rfl, by decide +kernel, by decide +kernel⟩
abbrev s_is_within : Stmt := top 5
abbrev N_is_within : List Str := ["thing", "low", "high"]
theorem sc_is_within : FnScope N_is_within ["thing", "low", "high"] (defScope s_is_within) := ⟨rfl, rfl, rfl, by decide +kernel, rfl, by decide +kernel, by decide +kernel⟩
abbrev s_is_word : Stmt := top 6
abbrev N_is_word : List Str := ["thing", "width"]
theorem sc_is_word : FnScope N_is_word ["thing", "width"] (defScope s_is_word) := ⟨rfl, rfl, rfl, by decide +kernel, rfl, by decide +kernel, by decide +kernel⟩
abbrev s_own_words : Stmt := top 7
abbrev N_own_words : List Str := []
theorem sc_own_words : FnScope N_own_words [] (defScope s_own_words) := ⟨rfl, rfl, rfl, by decide +kernel, rfl, by decide +kernel, by decide +kernel⟩
abbrev s_is_name : Stmt := top 8
abbrev N_is_name : List Str := ["thing", "sign"]
theorem sc_is_name : FnScope N_is_name ["thing"] (defScope s_is_name) := ⟨rfl, rfl, rfl, by decide +kernel, rfl, by decide +kernel, by decide +kernel⟩
abbrev s_law_cell : Stmt := top 10
abbrev N_law_cell : List Str := ["script", "k"]
theorem sc_law_cell : FnScope N_law_cell ["script", "k"] (defScope s_law_cell) := ⟨rfl, rfl, rfl, by decide +kernel, rfl, by decide +kernel, by decide +kernel⟩
abbrev s_law_stream : Stmt := top 11
abbrev N_law_stream : List Str := ["cell"]
theorem sc_law_stream : FnScope N_law_stream ["cell"] (defScope s_law_stream) := ⟨rfl, rfl, rfl, by decide +kernel, rfl, by decide +kernel, by decide +kernel⟩
abbrev s_law_take : Stmt := top 12
abbrev N_law_take : List Str := ["stream", "many", "digit", "number"]
theorem sc_law_take : FnScope N_law_take ["stream", "many"] (defScope s_law_take) := ⟨rfl, rfl, rfl, by decide +kernel, rfl, by decide +kernel, by decide +kernel⟩
abbrev s_law_own : Stmt := top 13
abbrev N_law_own : List Str := ["some"]
theorem sc_law_own : FnScope N_law_own [] (defScope s_law_own) := ⟨rfl, rfl, rfl, by decide +kernel, rfl, by decide +kernel, by decide +kernel⟩
abbrev s_law_letters : Stmt := top 14
abbrev N_law_letters : List Str := ["stream", "letters", "k"]
theorem sc_law_letters : FnScope N_law_letters ["stream"] (defScope s_law_letters) := ⟨rfl, rfl, rfl, by decide +kernel, rfl, by decide +kernel, by decide +kernel⟩
abbrev s_law_text : Stmt := top 15
abbrev N_law_text : List Str := ["stream", "word", "letter", "way", "other", "text", "at"]
theorem sc_law_text : FnScope N_law_text ["stream"] (defScope s_law_text) := ⟨rfl, rfl, rfl, by decide +kernel, rfl, by decide +kernel, by decide +kernel⟩
abbrev s_law_is_name : Stmt := top 16
abbrev N_law_is_name : List Str := ["text", "sign"]
theorem sc_law_is_name : FnScope N_law_is_name ["text"] (defScope s_law_is_name) := ⟨rfl, rfl, rfl, by decide +kernel, rfl, by decide +kernel, by decide +kernel⟩
abbrev s_law_number : Stmt := top 17
abbrev N_law_number : List Str := ["stream", "width", "low", "high", "about"]
theorem sc_law_number : FnScope N_law_number ["stream", "width", "low", "high"] (defScope s_law_number) := ⟨rfl, rfl, rfl, by decide +kernel, rfl, by decide +kernel, by decide +kernel⟩
abbrev s_law_thing : Stmt := top 18
abbrev N_law_thing : List Str := ["stream", "number", "some"]
theorem sc_law_thing : FnScope N_law_thing ["stream", "number"] (defScope s_law_thing) := ⟨rfl, rfl, rfl, by decide +kernel, rfl, by decide +kernel, by decide +kernel⟩
abbrev s_law_told : Stmt := top 19
abbrev N_law_told : List Str := ["found", "due"]
theorem sc_law_told : FnScope N_law_told ["found", "due"] (defScope s_law_told) := ⟨rfl, rfl, rfl, by decide +kernel, rfl, by decide +kernel, by decide +kernel⟩
abbrev s_law_right : Stmt := top 20
abbrev N_law_right : List Str := ["stream", "width", "low", "high", "number", "thing", "whole", "text", "one", "odd", "told"]
theorem sc_law_right : FnScope N_law_right ["stream"] (defScope s_law_right) := ⟨rfl, rfl, rfl, by decide +kernel, rfl, by decide +kernel, by decide +kernel⟩
abbrev s_law : Stmt := top 21
abbrev N_law : List Str := ["script", "found", "k", "word"]
theorem sc_law : FnScope N_law ["script"] (defScope s_law) := ⟨rfl, rfl, rfl, by decide +kernel, rfl, by decide +kernel, by decide +kernel⟩
def fn : List He.DefD := [⟨("is_whole", none), "is_whole", "is_whole", defArgs s_is_whole, defBody s_is_whole, defScope s_is_whole, [], []⟩,
  ⟨("is_within", none), "is_within", "is_within", defArgs s_is_within, defBody s_is_within, defScope s_is_within, [], []⟩,
  ⟨("is_word", none), "is_word", "is_word", defArgs s_is_word, defBody s_is_word, defScope s_is_word, [], []⟩,
  ⟨("own_words", none), "own_words", "own_words", defArgs s_own_words, defBody s_own_words, defScope s_own_words, [], []⟩,
  ⟨("is_name", none), "is_name", "is_name", defArgs s_is_name, defBody s_is_name, defScope s_is_name, [], []⟩,
  ⟨("_law_cell", none), "_law_cell", "_law_cell", defArgs s_law_cell, defBody s_law_cell, defScope s_law_cell, [], []⟩,
  ⟨("_law_stream", none), "_law_stream", "_law_stream", defArgs s_law_stream, defBody s_law_stream, defScope s_law_stream, [], []⟩,
  ⟨("_law_take", none), "_law_take", "_law_take", defArgs s_law_take, defBody s_law_take, defScope s_law_take, [], []⟩,
  ⟨("_law_own", none), "_law_own", "_law_own", defArgs s_law_own, defBody s_law_own, defScope s_law_own, [], []⟩,
  ⟨("_law_letters", none), "_law_letters", "_law_letters", defArgs s_law_letters, defBody s_law_letters, defScope s_law_letters, [], []⟩,
  ⟨("_law_text", none), "_law_text", "_law_text", defArgs s_law_text, defBody s_law_text, defScope s_law_text, [], []⟩,
  ⟨("_law_is_name", none), "_law_is_name", "_law_is_name", defArgs s_law_is_name, defBody s_law_is_name, defScope s_law_is_name, [], []⟩,
  ⟨("_law_number", none), "_law_number", "_law_number", defArgs s_law_number, defBody s_law_number, defScope s_law_number, [], []⟩,
  ⟨("_law_thing", none), "_law_thing", "_law_thing", defArgs s_law_thing, defBody s_law_thing, defScope s_law_thing, [], []⟩,
  ⟨("_law_told", none), "_law_told", "_law_told", defArgs s_law_told, defBody s_law_told, defScope s_law_told, [], []⟩,
  ⟨("_law_right", none), "_law_right", "_law_right", defArgs s_law_right, defBody s_law_right, defScope s_law_right, [], []⟩,
  ⟨("law", none), "law", "law", defArgs s_law, defBody s_law, defScope s_law, [], []⟩]
def fa : List He.Fa := [.glo "is_whole", .glo "is_within", .glo "is_word", .glo "own_words", .glo "is_name", .glo "_law_cell", .glo "_law_stream", .glo "_law_take", .glo "_law_own", .glo "_law_letters", .glo "_law_text", .glo "_law_is_name", .glo "_law_number", .glo "_law_thing", .glo "_law_told", .glo "_law_right", .glo "law", .free "bool", .free "int", .free "isinstance", .free "len", .free "list", .free "max", .free "min", .free "range", .free "str", .free "tuple", .str "OWN" "word cells depth places marks gate kind place mark number row set if else top next go call back stop fault bell", .str "LETTERS" "abcdefghijklmnopqrstuvwxyz", .int "LONGEST" 8]
/-- what the head tells of the text -/
class Facts (K : PySem.W.Frag) (mg : outParam (Str → Option Value)) : Prop where
  d_is_whole : ∃ fd, FunD K "is_whole" "is_whole" (defArgs s_is_whole) (defBody s_is_whole) (defScope s_is_whole) [] [] (He.ga K "is_whole") fd
  g_is_whole : mg "is_whole" = some (.ref (He.ga K "is_whole"))
  d_is_within : ∃ fd, FunD K "is_within" "is_within" (defArgs s_is_within) (defBody s_is_within) (defScope s_is_within) [] [] (He.ga K "is_within") fd
  g_is_within : mg "is_within" = some (.ref (He.ga K "is_within"))
  d_is_word : ∃ fd, FunD K "is_word" "is_word" (defArgs s_is_word) (defBody s_is_word) (defScope s_is_word) [] [] (He.ga K "is_word") fd
  g_is_word : mg "is_word" = some (.ref (He.ga K "is_word"))
  d_own_words : ∃ fd, FunD K "own_words" "own_words" (defArgs s_own_words) (defBody s_own_words) (defScope s_own_words) [] [] (He.ga K "own_words") fd
  g_own_words : mg "own_words" = some (.ref (He.ga K "own_words"))
  d_is_name : ∃ fd, FunD K "is_name" "is_name" (defArgs s_is_name) (defBody s_is_name) (defScope s_is_name) [] [] (He.ga K "is_name") fd
  g_is_name : mg "is_name" = some (.ref (He.ga K "is_name"))
  d_law_cell : ∃ fd, FunD K "_law_cell" "_law_cell" (defArgs s_law_cell) (defBody s_law_cell) (defScope s_law_cell) [] [] (He.ga K "_law_cell") fd
  g_law_cell : mg "_law_cell" = some (.ref (He.ga K "_law_cell"))
  d_law_stream : ∃ fd, FunD K "_law_stream" "_law_stream" (defArgs s_law_stream) (defBody s_law_stream) (defScope s_law_stream) [] [] (He.ga K "_law_stream") fd
  g_law_stream : mg "_law_stream" = some (.ref (He.ga K "_law_stream"))
  d_law_take : ∃ fd, FunD K "_law_take" "_law_take" (defArgs s_law_take) (defBody s_law_take) (defScope s_law_take) [] [] (He.ga K "_law_take") fd
  g_law_take : mg "_law_take" = some (.ref (He.ga K "_law_take"))
  d_law_own : ∃ fd, FunD K "_law_own" "_law_own" (defArgs s_law_own) (defBody s_law_own) (defScope s_law_own) [] [] (He.ga K "_law_own") fd
  g_law_own : mg "_law_own" = some (.ref (He.ga K "_law_own"))
  d_law_letters : ∃ fd, FunD K "_law_letters" "_law_letters" (defArgs s_law_letters) (defBody s_law_letters) (defScope s_law_letters) [] [] (He.ga K "_law_letters") fd
  g_law_letters : mg "_law_letters" = some (.ref (He.ga K "_law_letters"))
  d_law_text : ∃ fd, FunD K "_law_text" "_law_text" (defArgs s_law_text) (defBody s_law_text) (defScope s_law_text) [] [] (He.ga K "_law_text") fd
  g_law_text : mg "_law_text" = some (.ref (He.ga K "_law_text"))
  d_law_is_name : ∃ fd, FunD K "_law_is_name" "_law_is_name" (defArgs s_law_is_name) (defBody s_law_is_name) (defScope s_law_is_name) [] [] (He.ga K "_law_is_name") fd
  g_law_is_name : mg "_law_is_name" = some (.ref (He.ga K "_law_is_name"))
  d_law_number : ∃ fd, FunD K "_law_number" "_law_number" (defArgs s_law_number) (defBody s_law_number) (defScope s_law_number) [] [] (He.ga K "_law_number") fd
  g_law_number : mg "_law_number" = some (.ref (He.ga K "_law_number"))
  d_law_thing : ∃ fd, FunD K "_law_thing" "_law_thing" (defArgs s_law_thing) (defBody s_law_thing) (defScope s_law_thing) [] [] (He.ga K "_law_thing") fd
  g_law_thing : mg "_law_thing" = some (.ref (He.ga K "_law_thing"))
  d_law_told : ∃ fd, FunD K "_law_told" "_law_told" (defArgs s_law_told) (defBody s_law_told) (defScope s_law_told) [] [] (He.ga K "_law_told") fd
  g_law_told : mg "_law_told" = some (.ref (He.ga K "_law_told"))
  d_law_right : ∃ fd, FunD K "_law_right" "_law_right" (defArgs s_law_right) (defBody s_law_right) (defScope s_law_right) [] [] (He.ga K "_law_right") fd
  g_law_right : mg "_law_right" = some (.ref (He.ga K "_law_right"))
  d_law : ∃ fd, FunD K "law" "law" (defArgs s_law) (defBody s_law) (defScope s_law) [] [] (He.ga K "law") fd
  g_law : mg "law" = some (.ref (He.ga K "law"))
  f_bool : mg "bool" = none
  f_int : mg "int" = none
  f_isinstance : mg "isinstance" = none
  f_len : mg "len" = none
  f_list : mg "list" = none
  f_max : mg "max" = none
  f_min : mg "min" = none
  f_range : mg "range" = none
  f_str : mg "str" = none
  f_tuple : mg "tuple" = none
  g_OWN : ∃ t, mg "OWN" = some (.str "word cells depth places marks gate kind place mark number row set if else top next go call back stop fault bell" t)
  g_LETTERS : ∃ t, mg "LETTERS" = some (.str "abcdefghijklmnopqrstuvwxyz" t)
  g_LONGEST : ∃ t, mg "LONGEST" = some (.int 8 t)
theorem facts_of {h : Heap} {K : PySem.W.Frag} {mg : Str → Option Value} (X : K.In h) (G : h.Ns mainGlobals mg) (c : He.SaysD fa fn K) : Facts K mg where
  d_is_whole := c.def_ 0 rfl
  g_is_whole := He.glo_ok X G (c.fact 0 rfl)
  d_is_within := c.def_ 1 rfl
  g_is_within := He.glo_ok X G (c.fact 1 rfl)
  d_is_word := c.def_ 2 rfl
  g_is_word := He.glo_ok X G (c.fact 2 rfl)
  d_own_words := c.def_ 3 rfl
  g_own_words := He.glo_ok X G (c.fact 3 rfl)
  d_is_name := c.def_ 4 rfl
  g_is_name := He.glo_ok X G (c.fact 4 rfl)
  d_law_cell := c.def_ 5 rfl
  g_law_cell := He.glo_ok X G (c.fact 5 rfl)
  d_law_stream := c.def_ 6 rfl
  g_law_stream := He.glo_ok X G (c.fact 6 rfl)
  d_law_take := c.def_ 7 rfl
  g_law_take := He.glo_ok X G (c.fact 7 rfl)
  d_law_own := c.def_ 8 rfl
  g_law_own := He.glo_ok X G (c.fact 8 rfl)
  d_law_letters := c.def_ 9 rfl
  g_law_letters := He.glo_ok X G (c.fact 9 rfl)
  d_law_text := c.def_ 10 rfl
  g_law_text := He.glo_ok X G (c.fact 10 rfl)
  d_law_is_name := c.def_ 11 rfl
  g_law_is_name := He.glo_ok X G (c.fact 11 rfl)
  d_law_number := c.def_ 12 rfl
  g_law_number := He.glo_ok X G (c.fact 12 rfl)
  d_law_thing := c.def_ 13 rfl
  g_law_thing := He.glo_ok X G (c.fact 13 rfl)
  d_law_told := c.def_ 14 rfl
  g_law_told := He.glo_ok X G (c.fact 14 rfl)
  d_law_right := c.def_ 15 rfl
  g_law_right := He.glo_ok X G (c.fact 15 rfl)
  d_law := c.def_ 16 rfl
  g_law := He.glo_ok X G (c.fact 16 rfl)
  f_bool := He.free_ok X G (c.fact 17 rfl)
  f_int := He.free_ok X G (c.fact 18 rfl)
  f_isinstance := He.free_ok X G (c.fact 19 rfl)
  f_len := He.free_ok X G (c.fact 20 rfl)
  f_list := He.free_ok X G (c.fact 21 rfl)
  f_max := He.free_ok X G (c.fact 22 rfl)
  f_min := He.free_ok X G (c.fact 23 rfl)
  f_range := He.free_ok X G (c.fact 24 rfl)
  f_str := He.free_ok X G (c.fact 25 rfl)
  f_tuple := He.free_ok X G (c.fact 26 rfl)
  g_OWN := He.str_ok X G (c.fact 27 rfl)
  g_LETTERS := He.str_ok X G (c.fact 28 rfl)
  g_LONGEST := He.int_ok X G (c.fact 29 rfl)
end J
namespace J
open PySem PySem.Spec PyProof.Rows L2

local macro_rules | `(tactic| walk_at "ty") => `(tactic| first
  | with_reducible exact ty_int
  | with_reducible exact ty_bl
  | with_reducible exact ty_str
  | with_reducible exact ty_non
  | ((with_reducible refine' ty_lst ?vv); (case vv => walk_at "tr"))
  | ((with_reducible refine' ty_sqT ?vv); (case vv => walk_at "tr"))
  | ((with_reducible refine' ty_dic ?vv); (case vv => walk_at "tr")))
local macro_rules | `(tactic| walk_at "ix") => `(tactic| first | exact at0 | exact at1 | exact at2 | assumption)
local macro_rules | `(tactic| walk_at "size") => `(tactic| first
  | assumption
  | (show _ < sizeLine; rw [sizeLine_eq]; (try simp only [List.length_cons, List.length_nil, List.length_append, List.length_map]); omega)
  | (show _ ≤ sizeLine; rw [sizeLine_eq]; (try simp only [List.length_cons, List.length_nil, List.length_append, List.length_map]); omega))
local macro_rules | `(tactic| walk_at "side") => `(tactic| first
  | assumption
  | ((with_reducible refine cdw ?_ ?_) <;> omega)
  | omega
  | (exact ⟨by omega, by omega⟩)
  | (exact Or.inl ⟨by omega, by omega⟩)
  | (exact Or.inr ⟨by omega, by omega⟩)
  | decide
  | (simp only [List.length_cons, List.length_nil, List.length_append, List.length_map]; omega)
  | (show _ ≤ _; decide))
local macro_rules | `(tactic| walk_at "as") => `(tactic| with_reducible assumption)
local macro_rules | `(tactic| walk_at "tr") => `(tactic| first
  | with_reducible assumption
  | with_reducible exact upd_same
  | ((with_reducible refine' SqL.of ?hh); (case hh => walk_at "as"))
  | ((with_reducible refine' SqT.of ?hh); (case hh => walk_at "as"))
  | ((with_reducible refine' Same.stm ?ee ?gg); (case ee => walk_at "as"); (case gg => walk_at "tr"))
  | ((with_reducible refine' Same.sqT ?ee ?gg); (case ee => walk_at "as"); (case gg => walk_at "tr"))
  | ((with_reducible refine' Same.sqL ?ee ?gg); (case ee => walk_at "as"); (case gg => walk_at "tr"))
  | ((with_reducible refine' Same.at ?ee ?gg); (case ee => walk_at "as"); (case gg => walk_at "tr"))
  | ((with_reducible refine' But.stm ?ee ?ff ?gg); (case ee => walk_at "as"); (case ff => walk_at "ne"); (case gg => walk_at "tr"))
  | ((with_reducible refine' But.tup ?ee ?ff ?gg); (case ee => walk_at "as"); (case ff => walk_at "tr1"); (case gg => walk_at "tr"))
  | ((with_reducible refine' But.sqT ?ee ?ff ?gg); (case ee => walk_at "as"); (case ff => walk_at "tr1"); (case gg => walk_at "tr"))
  | ((with_reducible refine' But.tupL ?ee ?ff ?gg); (case ee => walk_at "as"); (case ff => walk_at "tr1"); (case gg => walk_at "tr"))
  | ((with_reducible refine' But.sqTL ?ee ?ff ?gg); (case ee => walk_at "as"); (case ff => walk_at "tr1"); (case gg => walk_at "tr"))
  | ((with_reducible refine' But.sqL ?ee ?ff ?gg); (case ee => walk_at "as"); (case ff => walk_at "ne"); (case gg => walk_at "tr"))
  | ((with_reducible refine' But.at ?ee ?ff ?gg); (case ee => walk_at "as"); (case ff => walk_at "ne"); (case gg => walk_at "tr")))
local macro_rules | `(tactic| walk_at "ts") => `(tactic| first
  | with_reducible assumption
  | with_reducible exact TS.refl _
  | ((with_reducible refine' TS.trans ?gg (TS.of ?ee)); (case ee => walk_at "as"); (case gg => walk_at "ts"))
  | ((with_reducible refine' TS.trans ?gg (TS.butS ?ee ?ff)); (case ee => walk_at "as"); (case ff => walk_at "tr1"); (case gg => walk_at "ts"))
  | ((with_reducible refine' TS.trans ?gg (TS.butL ?ee ?ff)); (case ee => walk_at "as"); (case ff => walk_at "tr1"); (case gg => walk_at "ts"))
  | ((with_reducible refine' TS.trans ?gg (TS.butI ?ee ?ff)); (case ee => walk_at "as"); (case ff => walk_at "tr1"); (case gg => walk_at "ts")))
local macro_rules | `(tactic| walk_at "sm") => `(tactic| first
  | with_reducible assumption
  | with_reducible exact Same.refl _
  | ((with_reducible refine' Same.trans ?gg ?ee); (case ee => walk_at "as"); (case gg => walk_at "sm"))
  | ((with_reducible refine' But.new ?gg ?nn ?ee); (case ee => walk_at "as"); (case nn => walk_at "fr"); (case gg => walk_at "sm")))
local macro_rules | `(tactic| walk_at "fr") => `(tactic| first
  | with_reducible assumption
  | ((with_reducible refine' Same.back ?ee ?nn); (case nn => walk_at "as"); (case ee => walk_at "sm"))
  | ((with_reducible refine' But.back ?ee ?ff ?nn); (case nn => walk_at "as"); (case ff => walk_at "ne0"); (case ee => walk_at "bu")))
local macro_rules | `(tactic| walk_at "bu") => `(tactic| first
  | with_reducible assumption
  | with_reducible exact But.refl _ _
  | ((with_reducible refine' But.trans ?gg ?ee); (case ee => walk_at "as"); (case gg => walk_at "bu"))
  | ((with_reducible refine' But.trans ?gg (But.of ?ee)); (case ee => walk_at "as"); (case gg => walk_at "bu"))
  | ((with_reducible refine' But.new2 ?gg ?nn ?ee); (case ee => walk_at "as"); (case nn => walk_at "frB"); (case gg => walk_at "bu")))
local macro_rules | `(tactic| walk_at "frB") => `(tactic| first
  | with_reducible assumption
  | ((with_reducible refine' Same.back ?ee ?nn); (case nn => walk_at "as"); (case ee => walk_at "sm"))
  | ((with_reducible refine' But.back' ?ee ?ff ?nn); (case nn => walk_at "as"); (case ee => walk_at "bu"); (case ff => walk_at "tr1")))
local macro_rules | `(tactic| walk_at "tr1") => `(tactic| first
  | with_reducible assumption
  | ((with_reducible refine' Same.stm ?ee ?gg); (case ee => walk_at "as"); (case gg => walk_at "tr1"))
  | ((with_reducible refine' Same.at ?ee ?gg); (case ee => walk_at "as"); (case gg => walk_at "tr1"))
  | ((with_reducible refine' But.at ?ee ?ff ?gg); (case ee => walk_at "as"); (case ff => walk_at "ne0"); (case gg => walk_at "tr1"))
  | ((with_reducible refine' But.stm ?ee ?ff ?gg); (case ee => walk_at "as"); (case ff => walk_at "ne0"); (case gg => walk_at "tr1")))
local macro_rules | `(tactic| walk_at "ne0") => `(tactic| first
  | with_reducible assumption
  | (with_reducible apply Ne.symm; with_reducible assumption))
local macro_rules | `(tactic| walk_at "ne") => `(tactic| first
  | with_reducible assumption
  | (with_reducible apply Ne.symm; with_reducible assumption)
  | ((with_reducible refine' stm_ne ?hh ?nn); (case nn => walk_at "as"); (case hh => walk_at "tr1"))
  | ((with_reducible refine' ne_of_none ?hh ?nn); (case nn => walk_at "as"); (case hh => walk_at "tr1"))
  | ((with_reducible apply Ne.symm); (with_reducible refine' ne_of_none ?hh ?nn); (case nn => walk_at "as"); (case hh => walk_at "tr1")))
local macro_rules | `(tactic| walk_at "v") => `(tactic| first
  | with_reducible refine w_seq ?_
  | ((with_reducible refine' w_var ?vv ?_); (case vv => exact rfl))
  | with_reducible refine w_c ?_
  | with_reducible refine w_op ?_
  | with_reducible refine w_asg ?_
  | with_reducible refine w_gName ?_
  | with_reducible refine w_ret ?_
  | with_reducible refine w_ifS ?_
  | with_reducible refine w_drop ?_
  | with_reducible refine w_next ?_
  | with_reducible refine w_cons ?_
  | with_reducible refine w_nil ?_
  | with_reducible refine w_call ?_
  | with_reducible refine w_cb ?_
  | with_reducible refine w_rI0 ?_
  | with_reducible refine w_addI ?_
  | with_reducible refine w_eqI ?_
  | with_reducible refine w_neI ?_
  | with_reducible refine w_eqS ?_
  | with_reducible refine w_neS ?_
  | with_reducible refine w_eqB ?_
  | with_reducible refine w_neB ?_
  | with_reducible refine w_chain ?_
  | with_reducible refine w_test ?_
  | with_reducible refine w_tB ?_
  | with_reducible refine w_bl ?_
  | ((with_reducible refine' w_mulI ?vv ?_); (case vv => walk_at "side"))
  | ((with_reducible refine' w_rI ?vv ?_); (case vv => walk_at "side"))
  | with_reducible refine w_int1 ?_
  | with_reducible refine w_int1b ?_
  | with_reducible refine w_tup ?_
  | with_reducible refine w_lst ?_
  | with_reducible refine w_un ?_
  | with_reducible refine w_rU ?_
  | with_reducible refine w_not ?_
  | with_reducible refine w_notV ?_
  | with_reducible refine w_ifE ?_
  | with_reducible refine w_nT ?_
  | with_reducible refine w_nF ?_
  | with_reducible refine iteT ?_
  | with_reducible refine iteF ?_
  | ((with_reducible refine' w_ixT ?vv ?ww ?_); (case vv => walk_at "tr"); (case ww => walk_at "ix"))
  | ((with_reducible refine' w_ixL ?vv ?ww ?_); (case vv => walk_at "tr"); (case ww => walk_at "ix"))
  | with_reducible refine w_gSub ?_
  | ((with_reducible refine' w_setL ?vv ?ww ?_); (case vv => walk_at "tr"); (case ww => first | rfl | decide | assumption))
  | ((with_reducible refine' w_lenL ?vv ?_); (case vv => walk_at "tr"))
  | ((with_reducible refine' w_lenT ?vv ?_); (case vv => walk_at "tr"))
  | with_reducible refine w_max2 ?_
  | with_reducible refine w_min2 ?_
  | with_reducible refine w_bm ?_
  | with_reducible refine w_bm0 ?_
  | ((with_reducible refine' w_tyL ?vv ?_); (case vv => walk_at "tr"))
  | ((with_reducible refine' w_append ?vv ?ww ?_); (case vv => walk_at "tr"); (case ww => walk_at "size"))
  | ((with_reducible refine' w_size ?vv ?_); (case vv => walk_at "size"))
  | with_reducible refine w_forL ?_
  | with_reducible refine w_forT ?_
  | with_reducible refine w_forR1 ?_
  | with_reducible refine w_forR2 ?_
  | with_reducible refine w_lcL ?_
  | with_reducible refine w_lcT ?_
  | with_reducible refine w_lcR1 ?_
  | with_reducible refine w_yes ?_
  | with_reducible refine w_sl ?_
  | with_reducible refine w_noPart ?_
  | with_reducible refine w_part ?_
  | with_reducible refine w_int ?_
  | ((with_reducible refine' w_slL ?vv ?_); (case vv => walk_at "tr"))
  | ((with_reducible refine' w_seqL ?vv ?ww ?_); (case vv => walk_at "tr"); (case ww => rfl))
  | ((with_reducible refine' w_seqT ?vv ?ww ?_); (case vv => walk_at "tr"); (case ww => rfl))
  | with_reducible refine w_gNil ?_
  | with_reducible refine w_gCons ?_
  | with_reducible refine w_forZ ?_
  | with_reducible refine w_forE ?_
  | with_reducible refine w_forV ?_
  | with_reducible refine w_lcZ ?_
  | with_reducible refine w_lcE ?_
  | ((with_reducible refine' w_isi (b := true) ?vv ?ww ?_); (case vv => walk_at "ty"); (case ww => decide +kernel))
  | ((with_reducible refine' w_isi (b := false) ?vv ?ww ?_); (case vv => walk_at "ty"); (case ww => decide +kernel))
  | with_reducible refine w_revL ?_
  | with_reducible refine w_pairN ?_
  | with_reducible refine w_pairC ?_
  | with_reducible refine w_dget ?_
  | with_reducible refine w_met ?_
  | ((with_reducible refine' w_metAt ?vv ?ww ?_); (case vv => walk_at "tr"); (case ww => rfl))
  | with_reducible refine w_mkI ?_
  | with_reducible refine w_fld ?_
  | ((with_reducible refine' w_fldAt ?vv ?cc ?nn ?ww ?_); (case vv => walk_at "tr"); (case cc => walk_at "cls"); (case nn => walk_at "na"); (case ww => rfl))
  | with_reducible refine w_sfld ?_
  | ((with_reducible refine' w_sfldAt ?vv ?cc ?nn ?ll ?ee ?_); (case vv => walk_at "tr"); (case cc => walk_at "cls"); (case nn => walk_at "na"); (case ll => simp); (case ee => rfl))
  | ((with_reducible refine' w_tupL ?vv ?_); (case vv => walk_at "tr"))
  | ((with_reducible refine' w_tupT ?vv ?_); (case vv => walk_at "tr"))
  | ((with_reducible refine' w_listL ?vv ?_); (case vv => walk_at "tr"))
  | ((with_reducible refine' w_listT ?vv ?_); (case vv => walk_at "tr"))
  | with_reducible refine w_tyS ?_
  | with_reducible refine w_retN ?_
  | with_reducible refine w_break ?_
  | with_reducible refine w_cont ?_)
local macro_rules | `(tactic| walk_at "w") => `(tactic| first
  | walk_at "v"
  | with_reducible refine w_or ?_
  | with_reducible refine w_and ?_
  | with_reducible refine w_andV ?_
  | with_reducible refine w_orV ?_)
local macro_rules | `(tactic| walk_at "wd") => `(tactic| first
  | walk_at "w"
  | ((with_reducible refine' w_decT ?vv ?_); (case vv => decide +kernel))
  | ((with_reducible refine' w_decF ?vv ?_); (case vv => decide +kernel)))
local macro_rules | `(tactic| walk_at "tz") => `(tactic| (intro S z; (repeat walk_at "w"); exact z))
local macro_rules | `(tactic| walk_at "wf") => `(tactic| first
  | walk_at "wd"
  | ((with_reducible refine' w_decF ?vv ?_); (case vv => with_reducible assumption)))
/-! ### the draws, alike in all laws -/
def spCell (K : PySem.W.Frag) : Sp := fun vs H Q _ => ∃ (a : Addr) (ns : List Int) (k : Int), vs = [.ref a, .int k] ∧ SqL K H a (ns.map V.int) ∧ 0 ≤ k ∧ ∀ n : Int, Q (.int n) H
def spStream : Sp := fun vs H Q _ => ∃ c : Int, vs = [.int c] ∧ ∀ s H', Same H H' → H s = none → Stm H' s → Q (.ref s) H'
def spTake : Sp := fun vs H Q _ => ∃ (s : Addr) (m : Int), vs = [.ref s, .int m] ∧ Stm H s ∧ 0 < m ∧ m < 2 ^ 200 ∧ ∀ d H', 0 ≤ d → d < m → Stm H' s → But s H H' → Q (.int d) H'
theorem len_law_cell {K : PySem.W.Frag} {vs H Q E} (h : spCell K vs H Q E) : vs.length = 2 := by obtain ⟨_, _, _, rfl, _⟩ := h; rfl
theorem len_law_stream {vs H Q E} (h : spStream vs H Q E) : vs.length = 1 := by obtain ⟨_, rfl, _⟩ := h; rfl
theorem len_law_take {vs H Q E} (h : spTake vs H Q E) : vs.length = 2 := by obtain ⟨_, _, rfl, _⟩ := h; rfl
def spLaw (K : PySem.W.Frag) : Sp := fun vs H Q _ => ∃ (a : Addr) (ns : List Int), vs = [.ref a] ∧ SqL K H a (ns.map V.int) ∧ ns.length ≤ 63 ∧ ∀ H', Q (.bl true) H'
theorem len_law {K : PySem.W.Frag} {vs H Q E} (h : spLaw K vs H Q E) : vs.length = 1 := by obtain ⟨_, _, rfl, _⟩ := h; rfl
theorem law_in {K : PySem.W.Frag} {H : Hp} {a : Addr} {ns : List Int} (hl : ns.length ≤ 63) (_ : Only H) (hS : SqL K H a (ns.map V.int)) : spLaw K [.ref a] H (fun v _ => v = .bl true) fun _ _ _ => False :=
  ⟨a, ns, rfl, hS, hl, fun _ => rfl⟩
section
variable {P : Program} {w : World} {K : PySem.W.Frag} {mg : Str → Option Value}
theorem ok_law_cell [c : Facts K mg] : Fn P w K mg "_law_cell" 1 ["script", "k"] ((spCell K)) := by
  obtain ⟨fd, F⟩ := c.d_law_cell
  refine Fn.mk' F c.g_law_cell sc_law_cell (k := 0) (fun vs H Q E h => ?_) (fun _ _ _ _ _ _ us hl => match us, hl with | [_, _], _ => rfl) (fun base cdv A outer s H vs Q E hr h => ?_)
  · exact len_law_cell h
  · have nd := sc_law_cell.nd
    have hu := hu_of hr
    refine ⟨_, (pss_cons (ps_if (pt_cmpR op_lt (pv 1) (pe_callB (call_lenA (K := K) rfl) (by rfl) c.f_len boot_len (pa_cons (pv 0) pa_nil)) (nomark _)) (pss_one (ps_ret (pe_ix (ix_any (K := K) rfl) (pv 0) (pv 1) (fun _ _ => rfl)))) pss_nil)
      (pss_one (ps_ret (pe_op (op_addA (K := K) rfl) (pe_op op_mulA pe_int (pv 1)) pe_int)))), ?_⟩
    try dsimp only [cxOf, Cx.nox, Cx.wish]
    obtain ⟨a, ns, k, rfl, hS, h0, q⟩ := h
    repeat walk_at "w"
    refine ite2 (fun hk => ?_) (fun hk => ?_)
    · rw [decide_eq_true_eq] at hk
      repeat walk_at "w"
      obtain ⟨v, e1, e2, _⟩ := atI_some h0 hk
      obtain ⟨n, _, rfl⟩ := List.mem_map.mp e2
      exact w_ixL hS e1 (q n)
    · repeat walk_at "w"
      exact q _
theorem ok_law_stream [c : Facts K mg] : Fn P w K mg "_law_stream" 1 ["cell"] (spStream) := by
  obtain ⟨fd, F⟩ := c.d_law_stream
  refine Fn.mk' F c.g_law_stream sc_law_stream (k := 0) (fun vs H Q E h => ?_) (fun _ _ _ _ _ _ us hl => match us, hl with | [_], _ => rfl) (fun base cdv A outer s H vs Q E hr h => ?_)
  · exact len_law_stream h
  · have nd := sc_law_stream.nd
    have hu := hu_of hr
    refine ⟨_, (pss_one (ps_ret (pe_lst (pa_cons (pe_op op_mulA (pv 0) (pe_callTy call_int1A (by rfl) c.f_int boot_int (pa_cons (pe_cmpR op_ge (pv 0) (pe_op op_pow pe_int pe_int) (nomark _)) pa_nil))) (pa_cons (pe_op op_mod (pv 0) pe_int) (pa_cons pe_int pa_nil)))))), ?_⟩
    try dsimp only [cxOf, Cx.nox, Cx.wish]
    obtain ⟨n, rfl, q⟩ := h
    repeat walk_at "w"
    exact w_new fun p H1 n1 s1 f1 => q _ _ s1 n1 ⟨_, _, _, f1⟩
theorem ok_law_take [c : Facts K mg] : Fn P w K mg "_law_take" 1 ["stream", "many"] (spTake) := by
  obtain ⟨fd, F⟩ := c.d_law_take
  refine Fn.mk' F c.g_law_take sc_law_take (k := 0) (fun vs H Q E h => ?_) (fun _ _ _ _ _ _ us hl => match us, hl with | [_, _], _ => rfl) (fun base cdv A outer s H vs Q E hr h => ?_)
  · exact len_law_take h
  · have nd := sc_law_take.nd
    have hu := hu_of hr
    refine ⟨_, (pss_cons (ps_if (pt_cmpR op_gt (pe_ix (ix_any (K := K) rfl) (pv 0) pe_int (fun _ _ => rfl)) pe_int (nomark _)) (pss_cons (ps_set (i := 2) nd rfl (Or.inl rfl) (pe_op op_mod (pe_ix (ix_any (K := K) rfl) (pv 0) pe_int (fun _ _ => rfl)) (pv 1)))
      (pss_cons (ps_asg (pe_op op_fdivW (pe_ix (ix_any (K := K) rfl) (pv 0) pe_int (fun _ _ => rfl)) (pv 1)) (pg_sub (pv 0) pe_int set_list))
      (pss_one (ps_ret (pv 2))))) pss_nil)
      (pss_cons (ps_asg (pe_op (op_addA (K := K) rfl) (pe_ix (ix_any (K := K) rfl) (pv 0) pe_int (fun _ _ => rfl)) pe_int) (pg_sub (pv 0) pe_int set_list))
      (pss_cons (ps_set (i := 3) nd rfl (Or.inl rfl) (pe_op op_mod (pe_op (op_addA (K := K) rfl) (pe_op op_mulA (pe_op (op_addA (K := K) rfl) (pe_ix (ix_any (K := K) rfl) (pv 0) pe_int (fun _ _ => rfl)) (pe_op op_mulA pe_int (pe_ix (ix_any (K := K) rfl) (pv 0) pe_int (fun _ _ => rfl)))) pe_int) pe_int) pe_int))
      (pss_cons (ps_set (i := 3) nd rfl (Or.inl rfl) (pe_op op_mod (pe_op op_mulA (pv 3) (pv 3)) pe_int))
      (pss_one (ps_ret (pe_op op_mod (pe_op op_fdivW (pe_op op_mod (pe_op (op_addA (K := K) rfl) (pe_op op_mulA (pv 3) (pv 3)) (pe_op op_mulA pe_int (pe_ix (ix_any (K := K) rfl) (pv 0) pe_int (fun _ _ => rfl)))) pe_int) pe_int) (pv 1)))))))), ?_⟩
    try dsimp only [cxOf, Cx.nox, Cx.wish]
    obtain ⟨s, m, rfl, ⟨a, b, d, hs⟩, hm, hl, q⟩ := h
    repeat walk_at "w"
    refine ite2 (fun hk => ?_) (fun hk => ?_)
    · repeat walk_at "w"
      refine w_chg fun H1 e1 f1 => ?_
      repeat walk_at "w"
      exact q _ _ (Int.emod_nonneg _ (by omega)) (Int.emod_lt_of_pos _ hm) ⟨_, _, _, f1⟩ e1
    · repeat walk_at "w"
      refine w_chg fun H1 e1 f1 => ?_
      repeat walk_at "w"
      exact q _ _ (Int.emod_nonneg _ (by omega)) (Int.emod_lt_of_pos _ hm) ⟨_, _, _, f1⟩ e1
end


end J
namespace J
open PySem PySem.Spec PyProof.Rows L2

local macro_rules | `(tactic| walk_at "ty") => `(tactic| first
  | with_reducible exact ty_int
  | with_reducible exact ty_bl
  | with_reducible exact ty_str
  | with_reducible exact ty_non
  | ((with_reducible refine' ty_lst ?vv); (case vv => walk_at "tr"))
  | ((with_reducible refine' ty_sqT ?vv); (case vv => walk_at "tr"))
  | ((with_reducible refine' ty_dic ?vv); (case vv => walk_at "tr")))
local macro_rules | `(tactic| walk_at "ix") => `(tactic| first | exact at0 | exact at1 | exact at2 | assumption)
local macro_rules | `(tactic| walk_at "size") => `(tactic| first
  | assumption
  | (show _ < sizeLine; rw [sizeLine_eq]; (try simp only [List.length_cons, List.length_nil, List.length_append, List.length_map]); omega)
  | (show _ ≤ sizeLine; rw [sizeLine_eq]; (try simp only [List.length_cons, List.length_nil, List.length_append, List.length_map]); omega))
local macro_rules | `(tactic| walk_at "side") => `(tactic| first
  | assumption
  | ((with_reducible refine cdw ?_ ?_) <;> omega)
  | omega
  | (exact ⟨by omega, by omega⟩)
  | (exact Or.inl ⟨by omega, by omega⟩)
  | (exact Or.inr ⟨by omega, by omega⟩)
  | decide
  | (simp only [List.length_cons, List.length_nil, List.length_append, List.length_map]; omega)
  | (show _ ≤ _; decide))
local macro_rules | `(tactic| walk_at "as") => `(tactic| with_reducible assumption)
local macro_rules | `(tactic| walk_at "tr") => `(tactic| first
  | with_reducible assumption
  | with_reducible exact upd_same
  | ((with_reducible refine' SqL.of ?hh); (case hh => walk_at "as"))
  | ((with_reducible refine' SqT.of ?hh); (case hh => walk_at "as"))
  | ((with_reducible refine' Same.stm ?ee ?gg); (case ee => walk_at "as"); (case gg => walk_at "tr"))
  | ((with_reducible refine' Same.sqT ?ee ?gg); (case ee => walk_at "as"); (case gg => walk_at "tr"))
  | ((with_reducible refine' Same.sqL ?ee ?gg); (case ee => walk_at "as"); (case gg => walk_at "tr"))
  | ((with_reducible refine' Same.at ?ee ?gg); (case ee => walk_at "as"); (case gg => walk_at "tr"))
  | ((with_reducible refine' But.stm ?ee ?ff ?gg); (case ee => walk_at "as"); (case ff => walk_at "ne"); (case gg => walk_at "tr"))
  | ((with_reducible refine' But.tup ?ee ?ff ?gg); (case ee => walk_at "as"); (case ff => walk_at "tr1"); (case gg => walk_at "tr"))
  | ((with_reducible refine' But.sqT ?ee ?ff ?gg); (case ee => walk_at "as"); (case ff => walk_at "tr1"); (case gg => walk_at "tr"))
  | ((with_reducible refine' But.tupL ?ee ?ff ?gg); (case ee => walk_at "as"); (case ff => walk_at "tr1"); (case gg => walk_at "tr"))
  | ((with_reducible refine' But.sqTL ?ee ?ff ?gg); (case ee => walk_at "as"); (case ff => walk_at "tr1"); (case gg => walk_at "tr"))
  | ((with_reducible refine' But.sqL ?ee ?ff ?gg); (case ee => walk_at "as"); (case ff => walk_at "ne"); (case gg => walk_at "tr"))
  | ((with_reducible refine' But.at ?ee ?ff ?gg); (case ee => walk_at "as"); (case ff => walk_at "ne"); (case gg => walk_at "tr")))
local macro_rules | `(tactic| walk_at "ts") => `(tactic| first
  | with_reducible assumption
  | with_reducible exact TS.refl _
  | ((with_reducible refine' TS.trans ?gg (TS.of ?ee)); (case ee => walk_at "as"); (case gg => walk_at "ts"))
  | ((with_reducible refine' TS.trans ?gg (TS.butS ?ee ?ff)); (case ee => walk_at "as"); (case ff => walk_at "tr1"); (case gg => walk_at "ts"))
  | ((with_reducible refine' TS.trans ?gg (TS.butL ?ee ?ff)); (case ee => walk_at "as"); (case ff => walk_at "tr1"); (case gg => walk_at "ts"))
  | ((with_reducible refine' TS.trans ?gg (TS.butI ?ee ?ff)); (case ee => walk_at "as"); (case ff => walk_at "tr1"); (case gg => walk_at "ts")))
local macro_rules | `(tactic| walk_at "sm") => `(tactic| first
  | with_reducible assumption
  | with_reducible exact Same.refl _
  | ((with_reducible refine' Same.trans ?gg ?ee); (case ee => walk_at "as"); (case gg => walk_at "sm"))
  | ((with_reducible refine' But.new ?gg ?nn ?ee); (case ee => walk_at "as"); (case nn => walk_at "fr"); (case gg => walk_at "sm")))
local macro_rules | `(tactic| walk_at "fr") => `(tactic| first
  | with_reducible assumption
  | ((with_reducible refine' Same.back ?ee ?nn); (case nn => walk_at "as"); (case ee => walk_at "sm"))
  | ((with_reducible refine' But.back ?ee ?ff ?nn); (case nn => walk_at "as"); (case ff => walk_at "ne0"); (case ee => walk_at "bu")))
local macro_rules | `(tactic| walk_at "bu") => `(tactic| first
  | with_reducible assumption
  | with_reducible exact But.refl _ _
  | ((with_reducible refine' But.trans ?gg ?ee); (case ee => walk_at "as"); (case gg => walk_at "bu"))
  | ((with_reducible refine' But.trans ?gg (But.of ?ee)); (case ee => walk_at "as"); (case gg => walk_at "bu"))
  | ((with_reducible refine' But.new2 ?gg ?nn ?ee); (case ee => walk_at "as"); (case nn => walk_at "frB"); (case gg => walk_at "bu")))
local macro_rules | `(tactic| walk_at "frB") => `(tactic| first
  | with_reducible assumption
  | ((with_reducible refine' Same.back ?ee ?nn); (case nn => walk_at "as"); (case ee => walk_at "sm"))
  | ((with_reducible refine' But.back' ?ee ?ff ?nn); (case nn => walk_at "as"); (case ee => walk_at "bu"); (case ff => walk_at "tr1")))
local macro_rules | `(tactic| walk_at "tr1") => `(tactic| first
  | with_reducible assumption
  | ((with_reducible refine' Same.stm ?ee ?gg); (case ee => walk_at "as"); (case gg => walk_at "tr1"))
  | ((with_reducible refine' Same.at ?ee ?gg); (case ee => walk_at "as"); (case gg => walk_at "tr1"))
  | ((with_reducible refine' But.at ?ee ?ff ?gg); (case ee => walk_at "as"); (case ff => walk_at "ne0"); (case gg => walk_at "tr1"))
  | ((with_reducible refine' But.stm ?ee ?ff ?gg); (case ee => walk_at "as"); (case ff => walk_at "ne0"); (case gg => walk_at "tr1")))
local macro_rules | `(tactic| walk_at "ne0") => `(tactic| first
  | with_reducible assumption
  | (with_reducible apply Ne.symm; with_reducible assumption))
local macro_rules | `(tactic| walk_at "ne") => `(tactic| first
  | with_reducible assumption
  | (with_reducible apply Ne.symm; with_reducible assumption)
  | ((with_reducible refine' stm_ne ?hh ?nn); (case nn => walk_at "as"); (case hh => walk_at "tr1"))
  | ((with_reducible refine' ne_of_none ?hh ?nn); (case nn => walk_at "as"); (case hh => walk_at "tr1"))
  | ((with_reducible apply Ne.symm); (with_reducible refine' ne_of_none ?hh ?nn); (case nn => walk_at "as"); (case hh => walk_at "tr1")))
local macro_rules | `(tactic| walk_at "v") => `(tactic| first
  | with_reducible refine w_seq ?_
  | ((with_reducible refine' w_var ?vv ?_); (case vv => exact rfl))
  | with_reducible refine w_c ?_
  | with_reducible refine w_op ?_
  | with_reducible refine w_asg ?_
  | with_reducible refine w_gName ?_
  | with_reducible refine w_ret ?_
  | with_reducible refine w_ifS ?_
  | with_reducible refine w_drop ?_
  | with_reducible refine w_next ?_
  | with_reducible refine w_cons ?_
  | with_reducible refine w_nil ?_
  | with_reducible refine w_call ?_
  | with_reducible refine w_cb ?_
  | with_reducible refine w_rI0 ?_
  | with_reducible refine w_addI ?_
  | with_reducible refine w_eqI ?_
  | with_reducible refine w_neI ?_
  | with_reducible refine w_eqS ?_
  | with_reducible refine w_neS ?_
  | with_reducible refine w_eqB ?_
  | with_reducible refine w_neB ?_
  | with_reducible refine w_chain ?_
  | with_reducible refine w_test ?_
  | with_reducible refine w_tB ?_
  | with_reducible refine w_bl ?_
  | ((with_reducible refine' w_mulI ?vv ?_); (case vv => walk_at "side"))
  | ((with_reducible refine' w_rI ?vv ?_); (case vv => walk_at "side"))
  | with_reducible refine w_int1 ?_
  | with_reducible refine w_int1b ?_
  | with_reducible refine w_tup ?_
  | with_reducible refine w_lst ?_
  | with_reducible refine w_un ?_
  | with_reducible refine w_rU ?_
  | with_reducible refine w_not ?_
  | with_reducible refine w_notV ?_
  | with_reducible refine w_ifE ?_
  | with_reducible refine w_nT ?_
  | with_reducible refine w_nF ?_
  | with_reducible refine iteT ?_
  | with_reducible refine iteF ?_
  | ((with_reducible refine' w_ixT ?vv ?ww ?_); (case vv => walk_at "tr"); (case ww => walk_at "ix"))
  | ((with_reducible refine' w_ixL ?vv ?ww ?_); (case vv => walk_at "tr"); (case ww => walk_at "ix"))
  | with_reducible refine w_gSub ?_
  | ((with_reducible refine' w_setL ?vv ?ww ?_); (case vv => walk_at "tr"); (case ww => first | rfl | decide | assumption))
  | ((with_reducible refine' w_lenL ?vv ?_); (case vv => walk_at "tr"))
  | ((with_reducible refine' w_lenT ?vv ?_); (case vv => walk_at "tr"))
  | with_reducible refine w_max2 ?_
  | with_reducible refine w_min2 ?_
  | with_reducible refine w_bm ?_
  | with_reducible refine w_bm0 ?_
  | ((with_reducible refine' w_tyL ?vv ?_); (case vv => walk_at "tr"))
  | ((with_reducible refine' w_append ?vv ?ww ?_); (case vv => walk_at "tr"); (case ww => walk_at "size"))
  | ((with_reducible refine' w_size ?vv ?_); (case vv => walk_at "size"))
  | with_reducible refine w_forL ?_
  | with_reducible refine w_forT ?_
  | with_reducible refine w_forR1 ?_
  | with_reducible refine w_forR2 ?_
  | with_reducible refine w_lcL ?_
  | with_reducible refine w_lcT ?_
  | with_reducible refine w_lcR1 ?_
  | with_reducible refine w_yes ?_
  | with_reducible refine w_sl ?_
  | with_reducible refine w_noPart ?_
  | with_reducible refine w_part ?_
  | with_reducible refine w_int ?_
  | ((with_reducible refine' w_slL ?vv ?_); (case vv => walk_at "tr"))
  | ((with_reducible refine' w_seqL ?vv ?ww ?_); (case vv => walk_at "tr"); (case ww => rfl))
  | ((with_reducible refine' w_seqT ?vv ?ww ?_); (case vv => walk_at "tr"); (case ww => rfl))
  | with_reducible refine w_gNil ?_
  | with_reducible refine w_gCons ?_
  | with_reducible refine w_forZ ?_
  | with_reducible refine w_forE ?_
  | with_reducible refine w_forV ?_
  | with_reducible refine w_lcZ ?_
  | with_reducible refine w_lcE ?_
  | ((with_reducible refine' w_isi (b := true) ?vv ?ww ?_); (case vv => walk_at "ty"); (case ww => decide +kernel))
  | ((with_reducible refine' w_isi (b := false) ?vv ?ww ?_); (case vv => walk_at "ty"); (case ww => decide +kernel))
  | with_reducible refine w_revL ?_
  | with_reducible refine w_pairN ?_
  | with_reducible refine w_pairC ?_
  | with_reducible refine w_dget ?_
  | with_reducible refine w_met ?_
  | ((with_reducible refine' w_metAt ?vv ?ww ?_); (case vv => walk_at "tr"); (case ww => rfl))
  | with_reducible refine w_mkI ?_
  | with_reducible refine w_fld ?_
  | ((with_reducible refine' w_fldAt ?vv ?cc ?nn ?ww ?_); (case vv => walk_at "tr"); (case cc => walk_at "cls"); (case nn => walk_at "na"); (case ww => rfl))
  | with_reducible refine w_sfld ?_
  | ((with_reducible refine' w_sfldAt ?vv ?cc ?nn ?ll ?ee ?_); (case vv => walk_at "tr"); (case cc => walk_at "cls"); (case nn => walk_at "na"); (case ll => simp); (case ee => rfl))
  | ((with_reducible refine' w_tupL ?vv ?_); (case vv => walk_at "tr"))
  | ((with_reducible refine' w_tupT ?vv ?_); (case vv => walk_at "tr"))
  | ((with_reducible refine' w_listL ?vv ?_); (case vv => walk_at "tr"))
  | ((with_reducible refine' w_listT ?vv ?_); (case vv => walk_at "tr"))
  | with_reducible refine w_tyS ?_
  | with_reducible refine w_retN ?_
  | with_reducible refine w_break ?_
  | with_reducible refine w_cont ?_)
local macro_rules | `(tactic| walk_at "w") => `(tactic| first
  | walk_at "v"
  | with_reducible refine w_or ?_
  | with_reducible refine w_and ?_
  | with_reducible refine w_andV ?_
  | with_reducible refine w_orV ?_)
local macro_rules | `(tactic| walk_at "wd") => `(tactic| first
  | walk_at "w"
  | ((with_reducible refine' w_decT ?vv ?_); (case vv => decide +kernel))
  | ((with_reducible refine' w_decF ?vv ?_); (case vv => decide +kernel)))
local macro_rules | `(tactic| walk_at "tz") => `(tactic| (intro S z; (repeat walk_at "w"); exact z))
local macro_rules | `(tactic| walk_at "wf") => `(tactic| first
  | walk_at "wd"
  | ((with_reducible refine' w_decF ?vv ?_); (case vv => with_reducible assumption)))
/-! ### texts by their signs -/
open SX
theorem S_inj_iff {a b : List Nat} : S a = S b ↔ a = b := ⟨S_inj, fun h => by rw [h]⟩
theorem cut_ab {l : List Nat} {a b : Int} (ha : 0 ≤ a) (hb : 0 ≤ b) : cutS (S l) (some a) (some b) = S ((l.drop a.toNat).take (b.toNat - a.toNat)) := by
  unfold cutS
  have e : ∀ {c : Int} {d : Nat}, 0 ≤ c → HT.sIx (S l).length d (some c) = min c.toNat l.length := fun {c d} h => by
    show (if c < 0 then (c + ((S l).length : Int)).toNat else min c.toNat (S l).length) = _
    rw [if_neg (by omega), S_len]
  rw [e ha, e hb]
  congr 1
  show ((l.drop _).take _).toArray = _
  congr 1
  by_cases h : a.toNat ≤ l.length
  · rw [Nat.min_eq_left h]
    by_cases h2 : b.toNat ≤ l.length
    · rw [Nat.min_eq_left h2]
    · rw [Nat.min_eq_right (by omega), List.take_of_length_le (by rw [List.length_drop]; omega), List.take_of_length_le (by rw [List.length_drop]; omega)]
  · have e1 : l.drop a.toNat = [] := List.drop_of_length_le (by omega)
    have e2 : min a.toNat l.length = l.length := Nat.min_eq_right (by omega)
    rw [e1, e2, List.drop_length, List.take_nil, List.take_nil]
theorem cut_b {l : List Nat} {b : Int} (hb : 0 ≤ b) : cutS (S l) none (some b) = S (l.take b.toNat) := by
  unfold cutS
  have e : HT.sIx (S l).length (S l).length (some b) = min b.toNat l.length := by
    show (if b < 0 then (b + ((S l).length : Int)).toNat else min b.toNat (S l).length) = _
    rw [if_neg (by omega), S_len]
  rw [e, HT.sIx_none]
  congr 1
  show ((l.drop 0).take _).toArray = _
  rw [List.drop_zero, Nat.sub_zero]
  congr 1
  by_cases h2 : b.toNat ≤ l.length
  · rw [Nat.min_eq_left h2]
  · rw [Nat.min_eq_right (by omega), List.take_of_length_le (Nat.le_refl _), List.take_of_length_le (by omega)]
theorem in_strs (x : Str) (ys : List Str) : inV (.str x) (ys.map V.str) = decide (x ∈ ys) := by
  induction ys with
  | nil => rfl
  | cons y ys ih =>
    rw [List.map_cons]
    unfold inV at ih ⊢
    rw [List.any_cons, ih]
    show (y == x || decide (x ∈ ys)) = _
    by_cases h : y = x
    · subst h; simp
    · have : (y == x) = false := by
        cases e : y == x with
        | false => rfl
        | true => exact (h (eq_of_beq e)).elim
      rw [this, Bool.false_or]
      have h' : ¬ x = y := fun z => h z.symm
      simp [h']
theorem flat_strs (ys : List Str) : (ys.map V.str).all flatV = true := by
  induction ys with
  | nil => rfl
  | cons y ys ih => rw [List.map_cons, List.all_cons, ih]; rfl
section
variable {K : PySem.W.Frag} {σ : L2.St} {H : Hp} {Q : VK} {nx : L2.St → Hp → Prop} {rt : VK} {bk ct : L2.St → Hp → Prop} {t u : L2.TS} {tt tu : TT}
theorem w_inSL {p : Addr} {x : Str} {ys : List Str} (h : SqL K H p (ys.map V.str)) (k : Q (.bl (decide (x ∈ ys))) H) : rInA K false (.str x) (.ref p) H Q := w_inL h rfl (flat_strs ys) (by rw [in_strs]; exact k)
theorem w_inST {p : Addr} {x : Str} {ys : List Str} (h : SqT K H p (ys.map V.str)) (k : Q (.bl (decide (x ∈ ys))) H) : rInA K false (.str x) (.ref p) H Q := w_inT h rfl (flat_strs ys) (by rw [in_strs]; exact k)
theorem w_in1 {c : Nat} {y : Str} (k : Q (.bl (decide (c ∈ TL.tl y))) H) : rInA K false (.str (S [c])) (.str y) H Q := .inr ⟨_, _, rfl, rfl, by
  rw [show (!(Builtin.Str.occurrences y (S [c]) 0 y.length 1).isEmpty) = decide (c ∈ TL.tl y) from StrLaws.found_one y c]
  exact k⟩
theorem w_ni1 {c : Nat} {y : Str} (k : Q (.bl (!decide (c ∈ TL.tl y))) H) : rInA K true (.str (S [c])) (.str y) H Q := .inr ⟨_, _, rfl, rfl, by
  rw [show (!(Builtin.Str.occurrences y (S [c]) 0 y.length 1).isEmpty) = decide (c ∈ TL.tl y) from StrLaws.found_one y c]
  exact k⟩
theorem w_ixC {l : List Nat} {c : Nat} {n : Int} (h : l.length ≤ sizeLine) (h0 : 0 ≤ n) (ha : l[n.toNat]? = some c) (k : Q (.str (S [c])) H) : rIx K (.str (S l)) (.int n) H Q := w_ixS (by rw [S_len]; exact h) (atI_of h0 ha) k
theorem w_slAB {l : List Nat} {a b : Int} (h : l.length ≤ sizeLine) (ha : 0 ≤ a) (hb : 0 ≤ b) (k : Q (.str (S ((l.drop a.toNat).take (b.toNat - a.toNat)))) H) : rSlAny K (.str (S l)) (some a) (some b) H Q :=
  w_slS (by rw [S_len]; exact h) (by rw [cut_ab ha hb]; exact k)
theorem w_slB {l : List Nat} {b : Int} (h : l.length ≤ sizeLine) (hb : 0 ≤ b) (k : Q (.str (S (l.take b.toNat))) H) : rSlAny K (.str (S l)) none (some b) H Q :=
  w_slS (by rw [S_len]; exact h) (by rw [cut_b hb]; exact k)
theorem w_lenC {l : List Nat} (h : l.length ≤ sizeLine) (k : Q (.int l.length) H) : rLenA K [.str (S l)] H Q := w_lenS (by rw [S_len]; exact h) (by rw [S_len]; exact k)
theorem w_addC {a b : List Nat} (h : a.length + b.length ≤ sizeLine) (k : Q (.str (S (a ++ b))) H) : rAddA K (.str (S a)) (.str (S b)) H Q := w_addS (by rw [S_len, S_len]; exact h) (by rw [S_cat]; exact k)
theorem w_eqC {a b : List Nat} (k : Q (.bl (decide (a = b))) H) : rEqA K (.str (S a)) (.str (S b)) H Q := w_eqS (by rw [show decide (S a = S b) = decide (a = b) by rw [decide_eq_decide]; exact S_inj_iff]; exact k)
theorem w_neC {a b : List Nat} (k : Q (.bl (!decide (a = b))) H) : rNeA K (.str (S a)) (.str (S b)) H Q := w_neS (by rw [show decide (S a = S b) = decide (a = b) by rw [decide_eq_decide]; exact S_inj_iff]; exact k)
theorem w_extend {l b : Addr} {xs zs : List V} (h1 : H l = some (.lst xs)) (h2 : H b = some (.lst zs)) (h : xs.length + zs.length ≤ sizeLine) (k : ChgO l (.lst (xs ++ zs)) H (Q .non)) : rExtend (.ref l) [.ref b] H Q := ⟨l, b, xs, zs, rfl, rfl, h1, h2, h, k⟩
def rJoin (K : PySem.W.Frag) : V → List V → Hp → VK → Prop := fun x xs H Q => ∃ a p, ∃ ys : List Str, x = .str a ∧ xs = [.ref p] ∧ (SqL K H p (ys.map V.str) ∨ SqT K H p (ys.map V.str)) ∧ (ys.map (·.length)).sum + ys.length * a.length ≤ 16777216 ∧ Q (.str (Txt.join a ys)) H
theorem mt_joinA {X : Cx} {K : PySem.W.Frag} (hK : X.K = K) : MtR X "str.join" (rJoin K) := by
  subst hK
  exact mt_join
theorem w_replC {to : TE} {y z : Str} (k : to σ H fun v H1 => ∃ x, v = .str x ∧ x.length + (x.length + 1) * z.length ≤ 16777216 ∧ Q (.str (Txt.replace x y z)) H1) : CwR.tReplC to y z σ H Q := k
theorem w_replS {R : V → Prop} {y z : Str} {l : List Nat} (h : l.length + (l.length + 1) * z.length ≤ 16777216) (k : R (.str (Txt.replace (S l) y z))) : ∃ x, V.str (S l) = .str x ∧ x.length + (x.length + 1) * z.length ≤ 16777216 ∧ R (.str (Txt.replace x y z)) := ⟨S l, rfl, by rw [S_len]; exact h, k⟩
theorem sum_flat (ys : List (List Nat)) : (ys.map (·.length)).sum = ys.flatten.length := by
  rw [List.length_flatten]
theorem w_joinL {p : Addr} {a : List Nat} {ys : List (List Nat)} (h : SqL K H p ((ys.map S).map V.str)) (hz : ys.flatten.length + ys.length * a.length ≤ 16777216) (k : Q (.str (S (TL.joinL a ys))) H) : rJoin K (.str (S a)) [.ref p] H Q :=
  ⟨S a, p, ys.map S, rfl, rfl, .inl h, by rw [lens, List.length_map, sum_flat, S_len]; exact hz, by rw [join_S]; exact k⟩
theorem joinL_nil (ys : List (List Nat)) : TL.joinL [] ys = ys.flatten := by
  induction ys with
  | nil => rfl
  | cons y ys ih =>
    cases ys with
    | nil => simp [TL.joinL]
    | cons z ys => rw [TL.joinL, ih]; rfl
/-- a list of texts -/
def TV (ts : List (List Nat)) : List V := (ts.map S).map V.str
theorem TV_app (a b : List (List Nat)) : TV (a ++ b) = TV a ++ TV b := by unfold TV; rw [List.map_append, List.map_append]
theorem TV_len (a : List (List Nat)) : (TV a).length = a.length := by unfold TV; rw [List.length_map, List.length_map]
/-- while: the word with its measure -/
theorem w_while (Pv : Nat → L2.St → Hp → Prop) (m : Nat) (h0 : Pv m σ H) (hs : ∀ m σ H, Pv m σ H → tt σ H fun b H1 => if b = true then ∃ N : L2.St → Hp → Prop, (∀ σ' H', N σ' H' → ∃ m', m' < m ∧ Pv m' σ' H') ∧ t ⟨N, rt, nx, N⟩ σ H1 else nx σ H1) :
    tWhile tt t ⟨nx, rt, bk, ct⟩ σ H := ⟨Pv, ⟨m, h0⟩, hs⟩
theorem w_whB {m : Nat} {Pv : Nat → L2.St → Hp → Prop} (k : t ⟨fun σ' H' => ∃ m', m' < m ∧ Pv m' σ' H', rt, nx, fun σ' H' => ∃ m', m' < m ∧ Pv m' σ' H'⟩ σ H) : ∃ N : L2.St → Hp → Prop, (∀ σ' H', N σ' H' → ∃ m', m' < m ∧ Pv m' σ' H') ∧ t ⟨N, rt, nx, N⟩ σ H :=
  ⟨_, fun _ _ z => z, k⟩
end
/-! ### replace of written texts: a token is out -/
def PEp (X : Cx) (e : Expr) (t : TE) : Prop :=
  ∀ (pins : List (Addr × Obj)) (s : Shared) (σ : L2.St) (H : Hp) (Q : VK), Inv X pins σ H s → t σ H Q → wpAny (model X.prog X.w) X.A (eval e X.env) (fun v s' => 1 ≤ s'.toks ∧ EP X pins σ Q v s') X.xe s
section
variable {X : Cx} {K : PySem.W.Frag} {o e a b : Expr} {es : List Expr} {to ta' tb : TE} {t : TA} {T : String} {id : String} {name : Str} {apos cpos pos : Pos} {r : V → List V → Hp → VK → Prop}
theorem pet_bmo (pa : PlainAttrs T) (slot : Slot T name id) (hty : typeOf (.builtin id) = pure (.type "method_descriptor")) (hm : MtR X id r) (ho : PET X o to) (ha : PA X (e :: es) t) (hK : X.K = K)
    (hbase : attributeBase o name X.env (eval o X.env) = eval o X.env := by rfl)
    (hfew : ((backTo cpos (starEach (e :: es) X.env)).all (fun x => !x.1) && (backToKw cpos (keywordEach [] X.env)).all (fun x => x.1.isSome)
      && decide ((e :: es).length + ([] : List Keyword).length + (if ([] : List Keyword).isEmpty then 0 else 1) < 30)) = true := by rfl)
    (hline : (apos.endLine == cpos.line) = true := by rfl) (hs : starEach (e :: es) X.env = (false, eval e X.env) :: starEach es X.env := by rfl) (hplain : (backTo cpos (starEach es X.env)).any (·.1) = false := by rfl) :
    PET X (.Call (.Attribute o name apos) (e :: es) [] cpos) (tBM K T r to t) := by
  subst hK
  intro pins s σ H Q h0 I h
  refine wpAny_Call_method_late hbase hfew hline rfl (thn (ho pins s σ H _ h0 I h) fun v s1 ⟨x, H1, I1, r1, ty, q1⟩ => ?_)
  obtain ⟨h1, h2⟩ := tyV_is I1 r1 ty
  refine ⟨T, id, pa, slot, hty, h1, h2, ?_⟩
  have hA := ha.run cpos pins s1 σ H1 _ I1 q1
  rw [hs] at hA ⊢
  refine Calls.callWith_builtin (by show (false || (backTo cpos (starEach es X.env)).any (·.1)) = false; rw [hplain] <;> rfl) (Calls.evalArgs_plain ?_)
  exact thn hA fun us s2 ⟨vs, H2, I2, r2, q2⟩ => hm pins s2 σ H2 x vs v us Q I2 r1 r2 q2
theorem pet_bma (pa : PlainAttrs T) (slot : Slot T name id) (hty : typeOf (.builtin id) = pure (.type "method_descriptor")) (hm : MtR X id r) (ho : PE X o to) (ha : PAT X (e :: es) t) (hK : X.K = K)
    (hbase : attributeBase o name X.env (eval o X.env) = eval o X.env := by rfl)
    (hfew : ((backTo cpos (starEach (e :: es) X.env)).all (fun x => !x.1) && (backToKw cpos (keywordEach [] X.env)).all (fun x => x.1.isSome)
      && decide ((e :: es).length + ([] : List Keyword).length + (if ([] : List Keyword).isEmpty then 0 else 1) < 30)) = true := by rfl)
    (hline : (apos.endLine == cpos.line) = true := by rfl) (hs : starEach (e :: es) X.env = (false, eval e X.env) :: starEach es X.env := by rfl) (hplain : (backTo cpos (starEach es X.env)).any (·.1) = false := by rfl) :
    PET X (.Call (.Attribute o name apos) (e :: es) [] cpos) (tBM K T r to t) := by
  subst hK
  intro pins s σ H Q h0 I h
  refine wpAny_Call_method_late hbase hfew hline rfl (wpAny_mono (PySem.wpAny_toks (ho.run pins s σ H _ I h)) (fun v s1 q => ?_) fun _ _ z => z.2)
  obtain ⟨hk, x, H1, I1, r1, ty, q1⟩ := q
  obtain ⟨h1, h2⟩ := tyV_is I1 r1 ty
  refine ⟨T, id, pa, slot, hty, h1, h2, ?_⟩
  have hA := ha cpos pins s1 σ H1 _ (Nat.le_trans h0 hk) I1 q1
  rw [hs] at hA ⊢
  refine Calls.callWith_builtin (by show (false || (backTo cpos (starEach es X.env)).any (·.1)) = false; rw [hplain] <;> rfl) (Calls.evalArgs_plain ?_)
  exact thn hA fun us s2 ⟨vs, H2, I2, r2, q2⟩ => hm pins s2 σ H2 x vs v us Q I2 r1 r2 q2
theorem pep_bm {z : Str} {j : Nat} {p : Pos} (pa : PlainAttrs T) (slot : Slot T name id) (hty : typeOf (.builtin id) = pure (.type "method_descriptor")) (hm : MtR X id r) (ha : PA X (e :: es) t) (hK : X.K = K)
    (hbase : attributeBase (.Constant (.str z) j p) name X.env (eval (.Constant (.str z) j p) X.env) = eval (.Constant (.str z) j p) X.env := by rfl)
    (hfew : ((backTo cpos (starEach (e :: es) X.env)).all (fun x => !x.1) && (backToKw cpos (keywordEach [] X.env)).all (fun x => x.1.isSome)
      && decide ((e :: es).length + ([] : List Keyword).length + (if ([] : List Keyword).isEmpty then 0 else 1) < 30)) = true := by rfl)
    (hline : (apos.endLine == cpos.line) = true := by rfl) (hs : starEach (e :: es) X.env = (false, eval e X.env) :: starEach es X.env := by rfl) (hplain : (backTo cpos (starEach es X.env)).any (·.1) = false := by rfl) :
    PEp X (.Call (.Attribute (.Constant (.str z) j p) name apos) (e :: es) [] cpos) (tBM K T r (tC (.str z)) t) := by
  subst hK
  intro pins s σ H Q I h
  obtain ⟨ty, q1⟩ : tyV X.K T (.str z) H ∧ t σ H fun xs H2 => r (.str z) xs H2 Q := h
  refine wpAny_Call_method_late hbase hfew hline rfl (Calls.Constant_str ?_)
  have I1 := I.tok (s.toks + 1)
  obtain ⟨h1, h2⟩ := tyV_is (x := .str z) (v := .str z s.toks) I1 ⟨_, rfl⟩ ty
  refine ⟨T, id, pa, slot, hty, h1, h2, ?_⟩
  have hA := ha.run cpos pins _ σ H _ I1 q1
  rw [hs] at hA ⊢
  refine Calls.callWith_builtin (by show (false || (backTo cpos (starEach es X.env)).any (·.1)) = false; rw [hplain] <;> rfl) (Calls.evalArgs_plain ?_)
  refine wpAny_mono (PySem.wpAny_toks hA) (fun us s2 q => ?_) fun _ _ z => z.2
  obtain ⟨hk, vs, H2, I2, r2, q2⟩ := q
  refine wpAny_mono (PySem.wpAny_toks (hm pins s2 σ H2 (.str z) vs _ us Q I2 ⟨_, rfl⟩ r2 q2)) (fun v s3 q => ⟨?_, q.2⟩) fun _ _ z => z.2
  have hk' : s.toks + 1 ≤ s2.toks := hk
  exact Nat.le_trans (by omega) (Nat.le_trans hk' q.1)
theorem pe_cmpT {op : CmpOp} {r : R2} (ho : OpR X (compareOp op) r) (ha : PEp X a ta') (hb : PET X b tb) (hm : behindInMarks op b = false) : PE X (.Compare a [op] [b] pos) (tOp r ta' tb) := by
  refine ⟨fun pins s σ H Q I h => ?_⟩
  refine wpAny_Compare1 (thn (ha pins s σ H _ I h) fun v s1 ⟨hk, x, H1, I1, r1, q1⟩ => ?_) hm
  exact thn (hb pins s1 σ H1 _ hk I1 q1) fun u s2 ⟨y, H2, I2, r2, q2⟩ => ho pins s2 σ H2 x y v u Q I2 r1 r2 q2
end
/-! ### the signs of a text -/
def chV (z : Str) : List V := z.cps.toList.map fun c => V.str ⟨#[c]⟩
theorem vals_ix : ∀ {xs : List V} {us : List Value}, xs.length = us.length → (∀ (j : Nat) (x : V) (u : Value), xs[j]? = some x → us[j]? = some u → RelV x u) → Vals xs us
  | [], [], _, _ => .nil
  | [], _ :: _, h, _ => by simp at h
  | _ :: _, [], h, _ => by simp at h
  | x :: xs, u :: us, h, f => .cons (f 0 x u rfl rfl) (vals_ix (by simpa using h) fun j y w h1 h2 => f (j + 1) y w (by simpa using h1) (by simpa using h2))
theorem vals_ch {z : Str} {acc : Array Value} (h : ItemsOf (SignAt z) acc z.cps.size) : Vals (chV z) acc.toList := by
  refine vals_ix (by unfold chV; rw [List.length_map, Array.length_toList, Array.length_toList]; exact h.1.symm) fun j x u hx hu => ?_
  rw [Array.getElem?_toList] at hu
  obtain ⟨c, t, e1, rfl⟩ := h.2 j u hu
  unfold chV at hx
  rw [List.getElem?_map, Array.getElem?_toList, e1] at hx
  cases Option.some.inj hx
  exact ⟨t, rfl⟩
theorem chV_len (z : Str) : (chV z).length = z.length := by unfold chV; rw [List.length_map]; rfl
def rListTxt : List V → Hp → VK → Prop := fun xs H Q => ∃ z, xs = [.str z] ∧ z.length ≤ sizeLine ∧ NewO (.lst (chV z)) H Q
def rTupTxt : List V → Hp → VK → Prop := fun xs H Q => ∃ z, xs = [.str z] ∧ z.length ≤ sizeLine ∧ NewO (.tup (chV z)) H Q
theorem call_list_txt {X : Cx} (hc : X.calm = true) : CallR X (.type "list") rListTxt := by
  intro pins s σ H xs us Q I r h
  obtain ⟨z, rfl, hz, q⟩ := h
  obtain ⟨u, rfl, rx⟩ := vals1 r
  obtain ⟨t, rfl⟩ := rx
  refine PySem.call_list_str (I.ok.hd hc) z t (fun h' tk acc c' hk e' hi => ?_) hz
  refine ⟨.ref s.heap.objs.size, upd H s.heap.objs.size (.lst (chV z)), I.laid hk (Nat.le_refl _) (show ObjOk X.prog X.w _ _ _ (.lst (chV z)) from ⟨?_, acc.toList, c', vals_ch hi, ?_⟩), rfl, q _ (I.hok.fresh (Nat.le_refl _))⟩
  · rw [chV_len]; exact hz
  · rw [Array.toArray_toList]; exact e'
theorem call_tup_txt {X : Cx} (hc : X.calm = true) : CallR X (.type "tuple") rTupTxt := by
  intro pins s σ H xs us Q I r h
  obtain ⟨z, rfl, hz, q⟩ := h
  obtain ⟨u, rfl, rx⟩ := vals1 r
  obtain ⟨t, rfl⟩ := rx
  refine PySem.call_tuple_str (I.ok.hd hc) z t (fun h' tk acc hk hi => ?_) hz
  have I2 : Inv X pins σ H { s with heap := h', toks := tk } := I.kept hk
  refine ⟨.ref h'.objs.size, upd H h'.objs.size (.tup (chV z)), I2.laid (t' := tk) (fun c o e => Heap.get?_push_of_some _ e) (Nat.le_refl _) (show ObjOk X.prog X.w _ _ _ (.tup (chV z)) from ⟨?_, acc.toList, vals_ch hi, ?_⟩), rfl, q _ (I2.hok.fresh (Nat.le_refl _))⟩
  · rw [chV_len]; exact hz
  · rw [Array.toArray_toList]; exact IsTup.new _ _
section
variable {K : PySem.W.Frag} {σ : L2.St} {H : Hp} {Q : VK} {nx : L2.St → Hp → Prop} {rt : VK} {bk ct : L2.St → Hp → Prop} {te : TE} {g : TG} {tb : L2.TS} {tt : TT} {j : Nat} {vs : List Nat}
theorem w_listTxt {z : Str} (h : z.length ≤ sizeLine) (k : NewO (.lst (chV z)) H Q) : rListTxt [.str z] H Q := ⟨z, rfl, h, k⟩
theorem w_tupTxt {z : Str} (h : z.length ≤ sizeLine) (k : NewO (.tup (chV z)) H Q) : rTupTxt [.str z] H Q := ⟨z, rfl, h, k⟩
theorem w_forS (k : te σ H fun v H1 => ∃ z, v = .str z ∧ WFor (Its z) g tb nx rt σ H1) : tFor (iStr te) g tb ⟨nx, rt, bk, ct⟩ σ H := k
theorem w_lcS {tl : TE} (k : tl σ H fun v H1 => ∃ z, v = .str z ∧ ∀ D, H1 D = none → WLc (Its z) g tt te vs σ D H1 Q) : tLc (iStr tl) g tt te vs σ H Q := k
/-- sign by sign -/
theorem fl_str (l : List Nat) (Pv : Nat → L2.St → Hp → Prop) (h0 : Pv 0 σ H) (hs : ∀ i c σ H, l[i]? = some c → Pv i σ H → g (.str (S [c])) σ H fun σ2 H2 => tb ⟨Pv (i + 1), rt, nx, Pv (i + 1)⟩ σ2 H2) (hd : ∀ σ H, Pv l.length σ H → nx σ H) :
    ∃ z, V.str (S l) = .str z ∧ WFor (Its z) g tb nx rt σ H :=
  ⟨S l, rfl, wfor_it walk_str Pv h0 (fun _ _ _ _ _ => trivial) (fun i v σ H H' hi p ⟨e, c, h1, h2⟩ => by
    subst e h2
    exact hs i c σ _ (by rw [← List.getElem?_toArray]; exact h1) p) hd⟩
end
/-! ### order of texts -/
def rLtS : R2 := fun x y H Q => ∃ i j, x = .str i ∧ y = .str j ∧ Q (.bl (decide (i.cps.toList < j.cps.toList))) H
def rLeS : R2 := fun x y H Q => ∃ i j, x = .str i ∧ y = .str j ∧ Q (.bl (!decide (j.cps.toList < i.cps.toList))) H
theorem op_ltSA {X : Cx} : OpR X (compareOp .Lt) rLtS := op_lt_str
theorem op_leSA {X : Cx} : OpR X (compareOp .LtE) rLeS := op_le_str
theorem lt1 (a b : Nat) : decide ([a] < [b]) = decide (a < b) := by
  rw [decide_eq_decide]
  constructor
  · intro h
    rw [List.cons_lt_cons_iff] at h
    rcases h with h | ⟨_, h⟩
    · exact h
    · exact (List.not_lt_nil _ h).elim
  · intro h
    exact List.cons_lt_cons_iff.mpr (.inl h)
theorem w_le1 {a b : Nat} {H : Hp} {Q : VK} (k : Q (.bl (decide (a ≤ b))) H) : rLeS (.str (S [a])) (.str (S [b])) H Q := ⟨_, _, rfl, rfl, by
  show Q (.bl (!decide ([b] < [a]))) H
  rw [lt1, show (!decide (b < a)) = decide (a ≤ b) by by_cases h : a ≤ b <;> simp [h] <;> omega]
  exact k⟩

end J
namespace J
open PySem PySem.Spec PyProof.Rows L2

local macro_rules | `(tactic| walk_at "ty") => `(tactic| first
  | with_reducible exact ty_int
  | with_reducible exact ty_bl
  | with_reducible exact ty_str
  | with_reducible exact ty_non
  | ((with_reducible refine' ty_lst ?vv); (case vv => walk_at "tr"))
  | ((with_reducible refine' ty_sqT ?vv); (case vv => walk_at "tr"))
  | ((with_reducible refine' ty_dic ?vv); (case vv => walk_at "tr")))
local macro_rules | `(tactic| walk_at "ix") => `(tactic| first | exact at0 | exact at1 | exact at2 | assumption)
local macro_rules | `(tactic| walk_at "size") => `(tactic| first
  | assumption
  | (show _ < sizeLine; rw [sizeLine_eq]; (try simp only [List.length_cons, List.length_nil, List.length_append, List.length_map]); omega)
  | (show _ ≤ sizeLine; rw [sizeLine_eq]; (try simp only [List.length_cons, List.length_nil, List.length_append, List.length_map]); omega))
local macro_rules | `(tactic| walk_at "side") => `(tactic| first
  | assumption
  | ((with_reducible refine cdw ?_ ?_) <;> omega)
  | omega
  | (exact ⟨by omega, by omega⟩)
  | (exact Or.inl ⟨by omega, by omega⟩)
  | (exact Or.inr ⟨by omega, by omega⟩)
  | decide
  | (simp only [List.length_cons, List.length_nil, List.length_append, List.length_map]; omega)
  | (show _ ≤ _; decide))
local macro_rules | `(tactic| walk_at "as") => `(tactic| with_reducible assumption)
local macro_rules | `(tactic| walk_at "tr") => `(tactic| first
  | with_reducible assumption
  | with_reducible exact upd_same
  | ((with_reducible refine' SqL.of ?hh); (case hh => walk_at "as"))
  | ((with_reducible refine' SqT.of ?hh); (case hh => walk_at "as"))
  | ((with_reducible refine' Same.stm ?ee ?gg); (case ee => walk_at "as"); (case gg => walk_at "tr"))
  | ((with_reducible refine' Same.sqT ?ee ?gg); (case ee => walk_at "as"); (case gg => walk_at "tr"))
  | ((with_reducible refine' Same.sqL ?ee ?gg); (case ee => walk_at "as"); (case gg => walk_at "tr"))
  | ((with_reducible refine' Same.at ?ee ?gg); (case ee => walk_at "as"); (case gg => walk_at "tr"))
  | ((with_reducible refine' But.stm ?ee ?ff ?gg); (case ee => walk_at "as"); (case ff => walk_at "ne"); (case gg => walk_at "tr"))
  | ((with_reducible refine' But.tup ?ee ?ff ?gg); (case ee => walk_at "as"); (case ff => walk_at "tr1"); (case gg => walk_at "tr"))
  | ((with_reducible refine' But.sqT ?ee ?ff ?gg); (case ee => walk_at "as"); (case ff => walk_at "tr1"); (case gg => walk_at "tr"))
  | ((with_reducible refine' But.tupL ?ee ?ff ?gg); (case ee => walk_at "as"); (case ff => walk_at "tr1"); (case gg => walk_at "tr"))
  | ((with_reducible refine' But.sqTL ?ee ?ff ?gg); (case ee => walk_at "as"); (case ff => walk_at "tr1"); (case gg => walk_at "tr"))
  | ((with_reducible refine' But.sqL ?ee ?ff ?gg); (case ee => walk_at "as"); (case ff => walk_at "ne"); (case gg => walk_at "tr"))
  | ((with_reducible refine' But.at ?ee ?ff ?gg); (case ee => walk_at "as"); (case ff => walk_at "ne"); (case gg => walk_at "tr")))
local macro_rules | `(tactic| walk_at "ts") => `(tactic| first
  | with_reducible assumption
  | with_reducible exact TS.refl _
  | ((with_reducible refine' TS.trans ?gg (TS.of ?ee)); (case ee => walk_at "as"); (case gg => walk_at "ts"))
  | ((with_reducible refine' TS.trans ?gg (TS.butS ?ee ?ff)); (case ee => walk_at "as"); (case ff => walk_at "tr1"); (case gg => walk_at "ts"))
  | ((with_reducible refine' TS.trans ?gg (TS.butL ?ee ?ff)); (case ee => walk_at "as"); (case ff => walk_at "tr1"); (case gg => walk_at "ts"))
  | ((with_reducible refine' TS.trans ?gg (TS.butI ?ee ?ff)); (case ee => walk_at "as"); (case ff => walk_at "tr1"); (case gg => walk_at "ts")))
local macro_rules | `(tactic| walk_at "sm") => `(tactic| first
  | with_reducible assumption
  | with_reducible exact Same.refl _
  | ((with_reducible refine' Same.trans ?gg ?ee); (case ee => walk_at "as"); (case gg => walk_at "sm"))
  | ((with_reducible refine' But.new ?gg ?nn ?ee); (case ee => walk_at "as"); (case nn => walk_at "fr"); (case gg => walk_at "sm")))
local macro_rules | `(tactic| walk_at "fr") => `(tactic| first
  | with_reducible assumption
  | ((with_reducible refine' Same.back ?ee ?nn); (case nn => walk_at "as"); (case ee => walk_at "sm"))
  | ((with_reducible refine' But.back ?ee ?ff ?nn); (case nn => walk_at "as"); (case ff => walk_at "ne0"); (case ee => walk_at "bu")))
local macro_rules | `(tactic| walk_at "bu") => `(tactic| first
  | with_reducible assumption
  | with_reducible exact But.refl _ _
  | ((with_reducible refine' But.trans ?gg ?ee); (case ee => walk_at "as"); (case gg => walk_at "bu"))
  | ((with_reducible refine' But.trans ?gg (But.of ?ee)); (case ee => walk_at "as"); (case gg => walk_at "bu"))
  | ((with_reducible refine' But.new2 ?gg ?nn ?ee); (case ee => walk_at "as"); (case nn => walk_at "frB"); (case gg => walk_at "bu")))
local macro_rules | `(tactic| walk_at "frB") => `(tactic| first
  | with_reducible assumption
  | ((with_reducible refine' Same.back ?ee ?nn); (case nn => walk_at "as"); (case ee => walk_at "sm"))
  | ((with_reducible refine' But.back' ?ee ?ff ?nn); (case nn => walk_at "as"); (case ee => walk_at "bu"); (case ff => walk_at "tr1")))
local macro_rules | `(tactic| walk_at "tr1") => `(tactic| first
  | with_reducible assumption
  | ((with_reducible refine' Same.stm ?ee ?gg); (case ee => walk_at "as"); (case gg => walk_at "tr1"))
  | ((with_reducible refine' Same.at ?ee ?gg); (case ee => walk_at "as"); (case gg => walk_at "tr1"))
  | ((with_reducible refine' But.at ?ee ?ff ?gg); (case ee => walk_at "as"); (case ff => walk_at "ne0"); (case gg => walk_at "tr1"))
  | ((with_reducible refine' But.stm ?ee ?ff ?gg); (case ee => walk_at "as"); (case ff => walk_at "ne0"); (case gg => walk_at "tr1")))
local macro_rules | `(tactic| walk_at "ne0") => `(tactic| first
  | with_reducible assumption
  | (with_reducible apply Ne.symm; with_reducible assumption))
local macro_rules | `(tactic| walk_at "ne") => `(tactic| first
  | with_reducible assumption
  | (with_reducible apply Ne.symm; with_reducible assumption)
  | ((with_reducible refine' stm_ne ?hh ?nn); (case nn => walk_at "as"); (case hh => walk_at "tr1"))
  | ((with_reducible refine' ne_of_none ?hh ?nn); (case nn => walk_at "as"); (case hh => walk_at "tr1"))
  | ((with_reducible apply Ne.symm); (with_reducible refine' ne_of_none ?hh ?nn); (case nn => walk_at "as"); (case hh => walk_at "tr1")))
local macro_rules | `(tactic| walk_at "v") => `(tactic| first
  | with_reducible refine w_seq ?_
  | ((with_reducible refine' w_var ?vv ?_); (case vv => exact rfl))
  | with_reducible refine w_c ?_
  | with_reducible refine w_op ?_
  | with_reducible refine w_asg ?_
  | with_reducible refine w_gName ?_
  | with_reducible refine w_ret ?_
  | with_reducible refine w_ifS ?_
  | with_reducible refine w_drop ?_
  | with_reducible refine w_next ?_
  | with_reducible refine w_cons ?_
  | with_reducible refine w_nil ?_
  | with_reducible refine w_call ?_
  | with_reducible refine w_cb ?_
  | with_reducible refine w_rI0 ?_
  | with_reducible refine w_addI ?_
  | with_reducible refine w_eqI ?_
  | with_reducible refine w_neI ?_
  | with_reducible refine w_eqS ?_
  | with_reducible refine w_neS ?_
  | with_reducible refine w_eqB ?_
  | with_reducible refine w_neB ?_
  | with_reducible refine w_chain ?_
  | with_reducible refine w_test ?_
  | with_reducible refine w_tB ?_
  | with_reducible refine w_bl ?_
  | ((with_reducible refine' w_mulI ?vv ?_); (case vv => walk_at "side"))
  | ((with_reducible refine' w_rI ?vv ?_); (case vv => walk_at "side"))
  | with_reducible refine w_int1 ?_
  | with_reducible refine w_int1b ?_
  | with_reducible refine w_tup ?_
  | with_reducible refine w_lst ?_
  | with_reducible refine w_un ?_
  | with_reducible refine w_rU ?_
  | with_reducible refine w_not ?_
  | with_reducible refine w_notV ?_
  | with_reducible refine w_ifE ?_
  | with_reducible refine w_nT ?_
  | with_reducible refine w_nF ?_
  | with_reducible refine iteT ?_
  | with_reducible refine iteF ?_
  | ((with_reducible refine' w_ixT ?vv ?ww ?_); (case vv => walk_at "tr"); (case ww => walk_at "ix"))
  | ((with_reducible refine' w_ixL ?vv ?ww ?_); (case vv => walk_at "tr"); (case ww => walk_at "ix"))
  | with_reducible refine w_gSub ?_
  | ((with_reducible refine' w_setL ?vv ?ww ?_); (case vv => walk_at "tr"); (case ww => first | rfl | decide | assumption))
  | ((with_reducible refine' w_lenL ?vv ?_); (case vv => walk_at "tr"))
  | ((with_reducible refine' w_lenT ?vv ?_); (case vv => walk_at "tr"))
  | with_reducible refine w_max2 ?_
  | with_reducible refine w_min2 ?_
  | with_reducible refine w_bm ?_
  | with_reducible refine w_bm0 ?_
  | ((with_reducible refine' w_tyL ?vv ?_); (case vv => walk_at "tr"))
  | ((with_reducible refine' w_append ?vv ?ww ?_); (case vv => walk_at "tr"); (case ww => walk_at "size"))
  | ((with_reducible refine' w_size ?vv ?_); (case vv => walk_at "size"))
  | with_reducible refine w_forL ?_
  | with_reducible refine w_forT ?_
  | with_reducible refine w_forR1 ?_
  | with_reducible refine w_forR2 ?_
  | with_reducible refine w_lcL ?_
  | with_reducible refine w_lcT ?_
  | with_reducible refine w_lcR1 ?_
  | with_reducible refine w_yes ?_
  | with_reducible refine w_sl ?_
  | with_reducible refine w_noPart ?_
  | with_reducible refine w_part ?_
  | with_reducible refine w_int ?_
  | ((with_reducible refine' w_slL ?vv ?_); (case vv => walk_at "tr"))
  | ((with_reducible refine' w_seqL ?vv ?ww ?_); (case vv => walk_at "tr"); (case ww => rfl))
  | ((with_reducible refine' w_seqT ?vv ?ww ?_); (case vv => walk_at "tr"); (case ww => rfl))
  | with_reducible refine w_gNil ?_
  | with_reducible refine w_gCons ?_
  | with_reducible refine w_forZ ?_
  | with_reducible refine w_forE ?_
  | with_reducible refine w_forV ?_
  | with_reducible refine w_lcZ ?_
  | with_reducible refine w_lcE ?_
  | ((with_reducible refine' w_isi (b := true) ?vv ?ww ?_); (case vv => walk_at "ty"); (case ww => decide +kernel))
  | ((with_reducible refine' w_isi (b := false) ?vv ?ww ?_); (case vv => walk_at "ty"); (case ww => decide +kernel))
  | with_reducible refine w_revL ?_
  | with_reducible refine w_pairN ?_
  | with_reducible refine w_pairC ?_
  | with_reducible refine w_dget ?_
  | with_reducible refine w_met ?_
  | ((with_reducible refine' w_metAt ?vv ?ww ?_); (case vv => walk_at "tr"); (case ww => rfl))
  | with_reducible refine w_mkI ?_
  | with_reducible refine w_fld ?_
  | ((with_reducible refine' w_fldAt ?vv ?cc ?nn ?ww ?_); (case vv => walk_at "tr"); (case cc => walk_at "cls"); (case nn => walk_at "na"); (case ww => rfl))
  | with_reducible refine w_sfld ?_
  | ((with_reducible refine' w_sfldAt ?vv ?cc ?nn ?ll ?ee ?_); (case vv => walk_at "tr"); (case cc => walk_at "cls"); (case nn => walk_at "na"); (case ll => simp); (case ee => rfl))
  | ((with_reducible refine' w_tupL ?vv ?_); (case vv => walk_at "tr"))
  | ((with_reducible refine' w_tupT ?vv ?_); (case vv => walk_at "tr"))
  | ((with_reducible refine' w_listL ?vv ?_); (case vv => walk_at "tr"))
  | ((with_reducible refine' w_listT ?vv ?_); (case vv => walk_at "tr"))
  | with_reducible refine w_tyS ?_
  | with_reducible refine w_retN ?_
  | with_reducible refine w_break ?_
  | with_reducible refine w_cont ?_)
local macro_rules | `(tactic| walk_at "w") => `(tactic| first
  | walk_at "v"
  | with_reducible refine w_or ?_
  | with_reducible refine w_and ?_
  | with_reducible refine w_andV ?_
  | with_reducible refine w_orV ?_)
local macro_rules | `(tactic| walk_at "wd") => `(tactic| first
  | walk_at "w"
  | ((with_reducible refine' w_decT ?vv ?_); (case vv => decide +kernel))
  | ((with_reducible refine' w_decF ?vv ?_); (case vv => decide +kernel)))
local macro_rules | `(tactic| walk_at "tz") => `(tactic| (intro S z; (repeat walk_at "w"); exact z))
local macro_rules | `(tactic| walk_at "wf") => `(tactic| first
  | walk_at "wd"
  | ((with_reducible refine' w_decF ?vv ?_); (case vv => with_reducible assumption)))
open SX
def Oth (t : String) : Prop := t = "bool" ∨ t = "NoneType" ∨ t = "list" ∨ t = "tuple" ∨ t = "dict"
/-- a whole number, or a thing of another kind -/
def Th (K : PySem.W.Frag) (H : Hp) (v : V) : Option Int → Prop
  | some n => v = .int n
  | none => (∃ z, v = .str z) ∨ ∃ t, Oth t ∧ TyX K H v (.type t)
def own : List Str := ["word", "cells", "depth", "places", "marks", "gate", "kind", "place", "mark", "number", "row", "set", "if", "else", "top", "next", "go", "call", "back", "stop", "fault", "bell"]
def nameB (l : List Nat) : Bool := decide (1 ≤ l.length ∧ l.length ≤ 8) && (l.all fun c => decide (97 ≤ c ∧ c ≤ 122)) && !decide (S l ∈ own)
def spWhole (K : PySem.W.Frag) : Sp := fun vs H Q _ => ∃ v wh, vs = [v] ∧ Th K H v wh ∧ Q (.bl wh.isSome) H
theorem len_is_whole {K : PySem.W.Frag} {vs H Q E} (h : spWhole K vs H Q E) : vs.length = 1 := by obtain ⟨_, _, rfl, _⟩ := h; rfl
def inB (wh : Option Int) (lo hi : Int) : Bool := match wh with
  | some n => decide (lo ≤ n ∧ n ≤ hi)
  | none => false
def spWithin (K : PySem.W.Frag) : Sp := fun vs H Q _ => ∃ v wh lo hi, vs = [v, .int lo, .int hi] ∧ Th K H v wh ∧ Q (.bl (inB wh lo hi)) H
theorem len_is_within {K : PySem.W.Frag} {vs H Q E} (h : spWithin K vs H Q E) : vs.length = 3 := by obtain ⟨_, _, _, _, rfl, _⟩ := h; rfl
def spIsWord (K : PySem.W.Frag) : Sp := fun vs H Q _ => ∃ v wh w, vs = [v, .int w] ∧ Th K H v wh ∧ 4 ≤ w ∧ w ≤ 24 ∧ Q (.bl (inB wh 0 (2 ^ w.toNat - 1))) H
theorem len_is_word {K : PySem.W.Frag} {vs H Q E} (h : spIsWord K vs H Q E) : vs.length = 2 := by obtain ⟨_, _, _, rfl, _⟩ := h; rfl
def spOwn : Sp := fun vs H Q _ => vs = [] ∧ ∀ p H', H' p = some (.lst (own.map V.str)) → Same H H' → H p = none → Q (.ref p) H'
theorem len_own_words {vs H Q E} (h : spOwn vs H Q E) : vs.length = 0 := by obtain ⟨rfl, _⟩ := h; rfl
theorem len_law_own {vs H Q E} (h : spOwn vs H Q E) : vs.length = 0 := by obtain ⟨rfl, _⟩ := h; rfl
def spName (K : PySem.W.Frag) : Sp := fun vs H Q _ => ∃ v, vs = [v] ∧ ((∃ l, v = .str (S l) ∧ l.length ≤ 1000 ∧ ∀ H', Same H H' → Q (.bl (nameB l)) H') ∨ ∃ t, (t = "int" ∨ Oth t) ∧ TyX K H v (.type t) ∧ Q (.bl false) H)
theorem len_is_name {K : PySem.W.Frag} {vs H Q E} (h : spName K vs H Q E) : vs.length = 1 := by obtain ⟨_, rfl, _⟩ := h; rfl
def spLName : Sp := fun vs H Q _ => ∃ l, vs = [.str (S l)] ∧ l.length ≤ 1000 ∧ (∀ c ∈ l, c < 256) ∧ ∀ H', Same H H' → Q (.bl (nameB l)) H'
theorem len_law_is_name {vs H Q E} (h : spLName vs H Q E) : vs.length = 1 := by obtain ⟨_, rfl, _⟩ := h; rfl
def spTold1 : Sp := fun vs H Q _ => ∃ a b : Bool, vs = [.bl a, .bl b] ∧ Q (.bl (a == b)) H
theorem len_law_told {vs H Q E} (h : spTold1 vs H Q E) : vs.length = 2 := by obtain ⟨_, _, rfl, _⟩ := h; rfl
section
variable {P : Program} {w : World} {K : PySem.W.Frag} {mg : Str → Option Value}
theorem ok_is_whole [c : Facts K mg] : Fn P w K mg "is_whole" 1 ["thing"] ((spWhole K)) := by
  obtain ⟨fd, F⟩ := c.d_is_whole
  refine Fn.mk' F c.g_is_whole sc_is_whole (k := 0) (fun vs H Q E h => ?_) (fun _ _ _ _ _ _ us hl => match us, hl with | [_], _ => rfl) (fun base cdv A outer s H vs Q E hr h => ?_)
  · exact len_is_whole h
  · have nd := sc_is_whole.nd
    have hu := hu_of hr
    refine ⟨_, (pss_one (ps_ret (pe_and (pe_callB (call_isiA (K := K) rfl) (by rfl) c.f_isinstance boot_isinstance (pa_cons (pv 0) (pa_cons (pe_bltn (v := .ty "int") (by rfl) c.f_int boot_int rfl) pa_nil))) (pe_one (pe_not (pe_callB (call_isiA (K := K) rfl) (by rfl) c.f_isinstance boot_isinstance (pa_cons (pv 0) (pa_cons (pe_bltn (v := .ty "bool") (by rfl) c.f_bool boot_bool rfl) pa_nil)))))))), ?_⟩
    try dsimp only [cxOf, Cx.nox, Cx.wish]
    obtain ⟨v, wh, rfl, hv, q⟩ := h
    cases wh with
    | some n =>
      cases hv
      repeat walk_at "w"
      exact q
    | none =>
      rcases hv with ⟨z, rfl⟩ | ⟨t, ho, ht⟩
      · repeat walk_at "w"
        exact q
      · rcases ho with rfl | rfl | rfl | rfl | rfl
        · repeat walk_at "w"
          refine w_isi (b := true) ht (by decide +kernel) ?_
          repeat walk_at "w"
          refine w_isi (b := true) ht (by decide +kernel) ?_
          repeat walk_at "w"
          exact q
        all_goals
          repeat walk_at "w"
          refine w_isi (b := false) ht (by decide +kernel) ?_
          repeat walk_at "w"
          exact q
theorem ok_is_within [c : Facts K mg] (G_is_whole : Fn P w K mg "is_whole" 1 ["thing"] ((spWhole K))) : Fn P w K mg "is_within" 2 ["thing", "low", "high"] ((spWithin K)) := by
  obtain ⟨fd, F⟩ := c.d_is_within
  refine Fn.mk' F c.g_is_within sc_is_within (k := 1) (fun vs H Q E h => ?_) (fun _ _ _ _ _ _ us hl => match us, hl with | [_, _, _], _ => rfl) (fun base cdv A outer s H vs Q E hr h => ?_)
  · exact len_is_within h
  · have nd := sc_is_within.nd
    have hu := hu_of hr
    have hr_is_whole : Room 1 _ := hr.mono (by omega)
    refine ⟨_, (pss_one (ps_ret (pe_and (pe_fn G_is_whole hr_is_whole (by rfl) (pa_cons (pv 0) pa_nil)) (pe_one (pe_chain op_le op_le (pv 1) (pv 0) (pv 2)))))), ?_⟩
    try dsimp only [cxOf, Cx.nox, Cx.wish]
    obtain ⟨v, wh, lo, hi, rfl, hv, q⟩ := h
    repeat walk_at "w"
    refine ⟨v, wh, rfl, hv, ?_⟩
    cases wh with
    | some n =>
      cases hv
      repeat walk_at "w"
      refine ite2 (fun _ => ?_) (fun h => (h rfl).elim)
      repeat walk_at "w"
      refine ite2 (fun h1 => ?_) (fun h1 => ?_)
      · rw [decide_eq_true_eq] at h1
        repeat walk_at "w"
        rw [show inB (some n) lo hi = decide (n ≤ hi) by unfold inB; simp [h1]] at q
        exact q
      · rw [decide_eq_true_eq] at h1
        rw [show inB (some n) lo hi = false by unfold inB; simp [h1]] at q
        exact q
    | none =>
      repeat walk_at "w"
      exact q
theorem ok_is_word [c : Facts K mg] (G_is_within : Fn P w K mg "is_within" 2 ["thing", "low", "high"] ((spWithin K))) : Fn P w K mg "is_word" 3 ["thing", "width"] ((spIsWord K)) := by
  obtain ⟨fd, F⟩ := c.d_is_word
  refine Fn.mk' F c.g_is_word sc_is_word (k := 2) (fun vs H Q E h => ?_) (fun _ _ _ _ _ _ us hl => match us, hl with | [_, _], _ => rfl) (fun base cdv A outer s H vs Q E hr h => ?_)
  · exact len_is_word h
  · have nd := sc_is_word.nd
    have hu := hu_of hr
    have hr_is_within : Room 2 _ := hr.mono (by omega)
    refine ⟨_, (pss_one (ps_ret (pe_fn G_is_within hr_is_within (by rfl) (pa_cons (pv 0) (pa_cons pe_int (pa_cons (pe_op op_sub (pe_op op_shl pe_int (pv 1)) pe_int) pa_nil)))))), ?_⟩
    try dsimp only [cxOf, Cx.nox, Cx.wish]
    obtain ⟨v, wh, wd, rfl, hv, h4, h24, q⟩ := h
    repeat walk_at "w"
    refine ⟨v, wh, _, _, rfl, hv, ?_⟩
    rw [Int.one_mul]
    exact q
theorem ok_own_words [c : Facts K mg] : Fn P w K mg "own_words" 1 [] (spOwn) := by
  obtain ⟨fd, F⟩ := c.d_own_words
  refine Fn.mk' F c.g_own_words sc_own_words (k := 0) (fun vs H Q E h => ?_) (fun _ _ _ _ _ _ us hl => match us, hl with | [], _ => rfl) (fun base cdv A outer s H vs Q E hr h => ?_)
  · exact len_own_words h
  · have nd := sc_own_words.nd
    have hu := hu_of hr
    refine ⟨_, (pss_one (ps_ret (pe_bm PySem.F.plainAttrs_str PySem.F.slot_str_split PySem.F.type_str_split mt_splitA (pe_gS (by rfl) c.g_OWN) (pa_cons pe_str pa_nil)))), ?_⟩
    try dsimp only [cxOf, Cx.nox, Cx.wish]
    obtain ⟨rfl, q⟩ := h
    repeat walk_at "w"
    refine w_split (ys := own) (by decide +kernel) (by decide +kernel) (by decide +kernel) ?_
    exact w_new fun p H1 n1 s1 f1 => q p H1 f1 s1 n1
theorem ok_law_own [c : Facts K mg] : Fn P w K mg "_law_own" 1 [] (spOwn) := by
  obtain ⟨fd, F⟩ := c.d_law_own
  refine Fn.mk' F c.g_law_own sc_law_own (k := 0) (fun vs H Q E h => ?_) (fun _ _ _ _ _ _ us hl => match us, hl with | [], _ => rfl) (fun base cdv A outer s H vs Q E hr h => ?_)
  · exact len_law_own h
  · have nd := sc_law_own.nd
    have hu := hu_of hr
    refine ⟨_, (pss_cons (ps_set (i := 0) nd rfl (Or.inl rfl) pe_str)
      (pss_one (ps_ret (pe_bm PySem.F.plainAttrs_str PySem.F.slot_str_split PySem.F.type_str_split mt_splitA (pe_op (op_addA (K := K) rfl) (pv 0) pe_str) (pa_cons pe_str pa_nil))))), ?_⟩
    try dsimp only [cxOf, Cx.nox, Cx.wish]
    obtain ⟨rfl, q⟩ := h
    repeat walk_at "w"
    refine w_addS (by decide +kernel) ?_
    repeat walk_at "w"
    refine w_split (ys := own) (by decide +kernel) (by decide +kernel) (by decide +kernel) ?_
    exact w_new fun p H1 n1 s1 f1 => q p H1 f1 s1 n1
theorem ok_law_told [c : Facts K mg] : Fn P w K mg "_law_told" 1 ["found", "due"] (spTold1) := by
  obtain ⟨fd, F⟩ := c.d_law_told
  refine Fn.mk' F c.g_law_told sc_law_told (k := 0) (fun vs H Q E h => ?_) (fun _ _ _ _ _ _ us hl => match us, hl with | [_, _], _ => rfl) (fun base cdv A outer s H vs Q E hr h => ?_)
  · exact len_law_told h
  · have nd := sc_law_told.nd
    have hu := hu_of hr
    refine ⟨_, (pss_one (ps_ret (pe_and (pe_callB (call_isiA (K := K) rfl) (by rfl) c.f_isinstance boot_isinstance (pa_cons (pv 0) (pa_cons (pe_bltn (v := .ty "bool") (by rfl) c.f_bool boot_bool rfl) pa_nil))) (pe_one (pe_cmpR (op_eqA (K := K) rfl hr.units) (pv 0) (pv 1) (nomark _)))))), ?_⟩
    try dsimp only [cxOf, Cx.nox, Cx.wish]
    obtain ⟨a, b, rfl, q⟩ := h
    repeat walk_at "w"
    exact q
theorem ok_is_name [c : Facts K mg] (G_own_words : Fn P w K mg "own_words" 1 [] (spOwn)) : Fn P w K mg "is_name" 2 ["thing"] ((spName K)) := by
  obtain ⟨fd, F⟩ := c.d_is_name
  refine Fn.mk' F c.g_is_name sc_is_name (k := 1) (fun vs H Q E h => ?_) (fun _ _ _ _ _ _ us hl => match us, hl with | [_], _ => rfl) (fun base cdv A outer s H vs Q E hr h => ?_)
  · exact len_is_name h
  · have nd := sc_is_name.nd
    have hu := hu_of hr
    have hr_own_words : Room 1 _ := hr.mono (by omega)
    refine ⟨_, (pss_cons (ps_if (PW.pt (pw_or (pt_not (pt_val (pe_callB (call_isiA (K := K) rfl) (by rfl) c.f_isinstance boot_isinstance (pa_cons (pv 0) (pa_cons (pe_bltn (v := .ty "str") (by rfl) c.f_str boot_str rfl) pa_nil))))) (pw_or1 (pt_not (pt_chain op_le op_le pe_int (pe_callB (call_lenA (K := K) rfl) (by rfl) c.f_len boot_len (pa_cons (pv 0) pa_nil)) (pe_gI (by rfl) c.g_LONGEST)))))) (pss_one (ps_ret pe_bl)) pss_nil)
      (pss_cons (ps_for PassesOwn.never rfl (pi_str (pv 0)) (pg_name (i := 1) nd rfl (Or.inl rfl)) (pss_one (ps_if (pt_cmpR (op_notInA (K := K) rfl) (pv 1) (pe_gS (by rfl) c.g_LETTERS) (by rfl)) (pss_one (ps_ret pe_bl)) pss_nil)))
      (pss_one (ps_ret (pe_cmpR (op_notInA (K := K) rfl) (pv 0) (pe_fn0 G_own_words hr_own_words (by rfl)) (by rfl)))))), ?_⟩
    try dsimp only [cxOf, Cx.nox, Cx.wish]
    obtain ⟨v, rfl, hv⟩ := h
    rcases hv with ⟨l, rfl, hl, q⟩ | ⟨t, ho, ht, q⟩
    · have hz : sizeLine = 16777216 := sizeLine_eq
      repeat walk_at "v"
      refine w_orP False (¬ (1 ≤ l.length ∧ l.length ≤ 8)) (fun S' z => ?_) (fun S' z => ?_) (fun b hb => ?_)
      · repeat walk_at "w"
        simpa using z
      · repeat walk_at "w"
        refine w_lenC (by omega) ?_
        repeat walk_at "w"
        refine ite2 (fun h1 => ?_) (fun h1 => ?_)
        · rw [decide_eq_true_eq] at h1
          repeat walk_at "w"
          rw [show (!decide ((l.length : Int) ≤ 8)) = decide (¬ (1 ≤ l.length ∧ l.length ≤ 8)) by
            by_cases g : l.length ≤ 8
            · rw [decide_eq_true (show (l.length : Int) ≤ 8 by omega), decide_eq_false (show ¬ ¬ (1 ≤ l.length ∧ l.length ≤ 8) by omega)]; rfl
            · rw [decide_eq_false (show ¬ (l.length : Int) ≤ 8 by omega), decide_eq_true (show ¬ (1 ≤ l.length ∧ l.length ≤ 8) by omega)]; rfl]
          exact z
        · rw [decide_eq_true_eq] at h1
          repeat walk_at "w"
          rw [decide_eq_true (show ¬ (1 ≤ l.length ∧ l.length ≤ 8) by omega)] at z
          exact z
      · refine ite2 (fun hk => ?_) (fun hk => ?_)
        · have g := (hb.mp hk).resolve_left id
          repeat walk_at "w"
          rw [show nameB l = false by unfold nameB; rw [decide_eq_false g]; rfl] at q
          exact q _ (Same.refl _)
        · have g : 1 ≤ l.length ∧ l.length ≤ 8 := by
            by_cases g : 1 ≤ l.length ∧ l.length ≤ 8
            · exact g
            · exact (hk (hb.mpr (.inr g))).elim
          repeat walk_at "w"
          refine w_forS ?_
          repeat walk_at "w"
          refine fl_str l (fun i σ H' => H' = H ∧ (∀ c ∈ l.take i, 97 ≤ c ∧ c ≤ 122) ∧ ∃ o, σ = [some (.str (S l)), o]) ⟨rfl, by simp, _, rfl⟩ (fun i c σ H' hi hp => ?_) (fun σ H' hp => ?_)
          · obtain ⟨rfl, hc, o, rfl⟩ := hp
            repeat walk_at "w"
            refine w_ni1 ?_
            repeat walk_at "w"
            have e : (!decide (c ∈ TL.tl "abcdefghijklmnopqrstuvwxyz")) = decide (¬ (97 ≤ c ∧ c ≤ 122)) := by
              rw [show TL.tl "abcdefghijklmnopqrstuvwxyz" = (List.range 26).map (· + 97) by decide +kernel]
              have : c ∈ (List.range 26).map (· + 97) ↔ 97 ≤ c ∧ c ≤ 122 := by
                rw [List.mem_map]
                constructor
                · rintro ⟨a, ha, rfl⟩
                  rw [List.mem_range] at ha
                  omega
                · intro h
                  exact ⟨c - 97, List.mem_range.mpr (by omega), by omega⟩
              by_cases h : 97 ≤ c ∧ c ≤ 122 <;> simp [this, h]
            rw [e]
            refine ite2 (fun h1 => ?_) (fun h1 => ?_)
            · rw [decide_eq_true_eq] at h1
              repeat walk_at "w"
              rw [show nameB l = false by
                unfold nameB
                rw [show (l.all fun c => decide (97 ≤ c ∧ c ≤ 122)) = false by
                  rw [List.all_eq_false]
                  exact ⟨c, List.mem_of_getElem? hi, by simpa using h1⟩]
                simp] at q
              exact q _ (Same.refl _)
            · rw [decide_eq_true_eq] at h1
              repeat walk_at "w"
              refine ⟨rfl, fun x hx => ?_, _, rfl⟩
              obtain ⟨hil, rfl⟩ := List.getElem?_eq_some_iff.mp hi
              rw [List.take_succ_eq_append_getElem hil] at hx
              rcases List.mem_append.mp hx with g | g
              · exact hc x g
              · rw [List.mem_singleton.mp g]
                by_cases h : 97 ≤ l[i] ∧ l[i] ≤ 122
                · exact h
                · exact (h1 h).elim
          · obtain ⟨rfl, hc, o, rfl⟩ := hp
            rw [List.take_length] at hc
            repeat walk_at "w"
            refine ⟨rfl, fun p H1 hp s1 n1 => ?_⟩
            refine w_niL (SqL.of hp) rfl (flat_strs own) ?_
            rw [in_strs, show (!decide (S l ∈ own)) = nameB l by
              unfold nameB
              rw [decide_eq_true g, show (l.all fun c => decide (97 ≤ c ∧ c ≤ 122)) = true by
                rw [List.all_eq_true]
                intro c h
                exact decide_eq_true (hc c h)]
              rfl]
            exact q _ s1
    · have nm : ∀ A B C : L2.St → Hp → Prop, True := fun _ _ _ => trivial
      rcases ho with rfl | rfl | rfl | rfl | rfl | rfl
      all_goals
        repeat walk_at "w"
        refine w_isi (b := false) ht (by decide +kernel) ?_
        repeat walk_at "w"
        exact q
end

end J
namespace J
open PySem PySem.Spec PyProof.Rows L2

local macro_rules | `(tactic| walk_at "ty") => `(tactic| first
  | with_reducible exact ty_int
  | with_reducible exact ty_bl
  | with_reducible exact ty_str
  | with_reducible exact ty_non
  | ((with_reducible refine' ty_lst ?vv); (case vv => walk_at "tr"))
  | ((with_reducible refine' ty_sqT ?vv); (case vv => walk_at "tr"))
  | ((with_reducible refine' ty_dic ?vv); (case vv => walk_at "tr")))
local macro_rules | `(tactic| walk_at "ix") => `(tactic| first | exact at0 | exact at1 | exact at2 | assumption)
local macro_rules | `(tactic| walk_at "size") => `(tactic| first
  | assumption
  | (show _ < sizeLine; rw [sizeLine_eq]; (try simp only [List.length_cons, List.length_nil, List.length_append, List.length_map]); omega)
  | (show _ ≤ sizeLine; rw [sizeLine_eq]; (try simp only [List.length_cons, List.length_nil, List.length_append, List.length_map]); omega))
local macro_rules | `(tactic| walk_at "side") => `(tactic| first
  | assumption
  | ((with_reducible refine cdw ?_ ?_) <;> omega)
  | omega
  | (exact ⟨by omega, by omega⟩)
  | (exact Or.inl ⟨by omega, by omega⟩)
  | (exact Or.inr ⟨by omega, by omega⟩)
  | decide
  | (simp only [List.length_cons, List.length_nil, List.length_append, List.length_map]; omega)
  | (show _ ≤ _; decide))
local macro_rules | `(tactic| walk_at "as") => `(tactic| with_reducible assumption)
local macro_rules | `(tactic| walk_at "tr") => `(tactic| first
  | with_reducible assumption
  | with_reducible exact upd_same
  | ((with_reducible refine' SqL.of ?hh); (case hh => walk_at "as"))
  | ((with_reducible refine' SqT.of ?hh); (case hh => walk_at "as"))
  | ((with_reducible refine' Same.stm ?ee ?gg); (case ee => walk_at "as"); (case gg => walk_at "tr"))
  | ((with_reducible refine' Same.sqT ?ee ?gg); (case ee => walk_at "as"); (case gg => walk_at "tr"))
  | ((with_reducible refine' Same.sqL ?ee ?gg); (case ee => walk_at "as"); (case gg => walk_at "tr"))
  | ((with_reducible refine' Same.at ?ee ?gg); (case ee => walk_at "as"); (case gg => walk_at "tr"))
  | ((with_reducible refine' But.stm ?ee ?ff ?gg); (case ee => walk_at "as"); (case ff => walk_at "ne"); (case gg => walk_at "tr"))
  | ((with_reducible refine' But.tup ?ee ?ff ?gg); (case ee => walk_at "as"); (case ff => walk_at "tr1"); (case gg => walk_at "tr"))
  | ((with_reducible refine' But.sqT ?ee ?ff ?gg); (case ee => walk_at "as"); (case ff => walk_at "tr1"); (case gg => walk_at "tr"))
  | ((with_reducible refine' But.tupL ?ee ?ff ?gg); (case ee => walk_at "as"); (case ff => walk_at "tr1"); (case gg => walk_at "tr"))
  | ((with_reducible refine' But.sqTL ?ee ?ff ?gg); (case ee => walk_at "as"); (case ff => walk_at "tr1"); (case gg => walk_at "tr"))
  | ((with_reducible refine' But.sqL ?ee ?ff ?gg); (case ee => walk_at "as"); (case ff => walk_at "ne"); (case gg => walk_at "tr"))
  | ((with_reducible refine' But.at ?ee ?ff ?gg); (case ee => walk_at "as"); (case ff => walk_at "ne"); (case gg => walk_at "tr")))
local macro_rules | `(tactic| walk_at "ts") => `(tactic| first
  | with_reducible assumption
  | with_reducible exact TS.refl _
  | ((with_reducible refine' TS.trans ?gg (TS.of ?ee)); (case ee => walk_at "as"); (case gg => walk_at "ts"))
  | ((with_reducible refine' TS.trans ?gg (TS.butS ?ee ?ff)); (case ee => walk_at "as"); (case ff => walk_at "tr1"); (case gg => walk_at "ts"))
  | ((with_reducible refine' TS.trans ?gg (TS.butL ?ee ?ff)); (case ee => walk_at "as"); (case ff => walk_at "tr1"); (case gg => walk_at "ts"))
  | ((with_reducible refine' TS.trans ?gg (TS.butI ?ee ?ff)); (case ee => walk_at "as"); (case ff => walk_at "tr1"); (case gg => walk_at "ts")))
local macro_rules | `(tactic| walk_at "sm") => `(tactic| first
  | with_reducible assumption
  | with_reducible exact Same.refl _
  | ((with_reducible refine' Same.trans ?gg ?ee); (case ee => walk_at "as"); (case gg => walk_at "sm"))
  | ((with_reducible refine' But.new ?gg ?nn ?ee); (case ee => walk_at "as"); (case nn => walk_at "fr"); (case gg => walk_at "sm")))
local macro_rules | `(tactic| walk_at "fr") => `(tactic| first
  | with_reducible assumption
  | ((with_reducible refine' Same.back ?ee ?nn); (case nn => walk_at "as"); (case ee => walk_at "sm"))
  | ((with_reducible refine' But.back ?ee ?ff ?nn); (case nn => walk_at "as"); (case ff => walk_at "ne0"); (case ee => walk_at "bu")))
local macro_rules | `(tactic| walk_at "bu") => `(tactic| first
  | with_reducible assumption
  | with_reducible exact But.refl _ _
  | ((with_reducible refine' But.trans ?gg ?ee); (case ee => walk_at "as"); (case gg => walk_at "bu"))
  | ((with_reducible refine' But.trans ?gg (But.of ?ee)); (case ee => walk_at "as"); (case gg => walk_at "bu"))
  | ((with_reducible refine' But.new2 ?gg ?nn ?ee); (case ee => walk_at "as"); (case nn => walk_at "frB"); (case gg => walk_at "bu")))
local macro_rules | `(tactic| walk_at "frB") => `(tactic| first
  | with_reducible assumption
  | ((with_reducible refine' Same.back ?ee ?nn); (case nn => walk_at "as"); (case ee => walk_at "sm"))
  | ((with_reducible refine' But.back' ?ee ?ff ?nn); (case nn => walk_at "as"); (case ee => walk_at "bu"); (case ff => walk_at "tr1")))
local macro_rules | `(tactic| walk_at "tr1") => `(tactic| first
  | with_reducible assumption
  | ((with_reducible refine' Same.stm ?ee ?gg); (case ee => walk_at "as"); (case gg => walk_at "tr1"))
  | ((with_reducible refine' Same.at ?ee ?gg); (case ee => walk_at "as"); (case gg => walk_at "tr1"))
  | ((with_reducible refine' But.at ?ee ?ff ?gg); (case ee => walk_at "as"); (case ff => walk_at "ne0"); (case gg => walk_at "tr1"))
  | ((with_reducible refine' But.stm ?ee ?ff ?gg); (case ee => walk_at "as"); (case ff => walk_at "ne0"); (case gg => walk_at "tr1")))
local macro_rules | `(tactic| walk_at "ne0") => `(tactic| first
  | with_reducible assumption
  | (with_reducible apply Ne.symm; with_reducible assumption))
local macro_rules | `(tactic| walk_at "ne") => `(tactic| first
  | with_reducible assumption
  | (with_reducible apply Ne.symm; with_reducible assumption)
  | ((with_reducible refine' stm_ne ?hh ?nn); (case nn => walk_at "as"); (case hh => walk_at "tr1"))
  | ((with_reducible refine' ne_of_none ?hh ?nn); (case nn => walk_at "as"); (case hh => walk_at "tr1"))
  | ((with_reducible apply Ne.symm); (with_reducible refine' ne_of_none ?hh ?nn); (case nn => walk_at "as"); (case hh => walk_at "tr1")))
local macro_rules | `(tactic| walk_at "v") => `(tactic| first
  | with_reducible refine w_seq ?_
  | ((with_reducible refine' w_var ?vv ?_); (case vv => exact rfl))
  | with_reducible refine w_c ?_
  | with_reducible refine w_op ?_
  | with_reducible refine w_asg ?_
  | with_reducible refine w_gName ?_
  | with_reducible refine w_ret ?_
  | with_reducible refine w_ifS ?_
  | with_reducible refine w_drop ?_
  | with_reducible refine w_next ?_
  | with_reducible refine w_cons ?_
  | with_reducible refine w_nil ?_
  | with_reducible refine w_call ?_
  | with_reducible refine w_cb ?_
  | with_reducible refine w_rI0 ?_
  | with_reducible refine w_addI ?_
  | with_reducible refine w_eqI ?_
  | with_reducible refine w_neI ?_
  | with_reducible refine w_eqS ?_
  | with_reducible refine w_neS ?_
  | with_reducible refine w_eqB ?_
  | with_reducible refine w_neB ?_
  | with_reducible refine w_chain ?_
  | with_reducible refine w_test ?_
  | with_reducible refine w_tB ?_
  | with_reducible refine w_bl ?_
  | ((with_reducible refine' w_mulI ?vv ?_); (case vv => walk_at "side"))
  | ((with_reducible refine' w_rI ?vv ?_); (case vv => walk_at "side"))
  | with_reducible refine w_int1 ?_
  | with_reducible refine w_int1b ?_
  | with_reducible refine w_tup ?_
  | with_reducible refine w_lst ?_
  | with_reducible refine w_un ?_
  | with_reducible refine w_rU ?_
  | with_reducible refine w_not ?_
  | with_reducible refine w_notV ?_
  | with_reducible refine w_ifE ?_
  | with_reducible refine w_nT ?_
  | with_reducible refine w_nF ?_
  | with_reducible refine iteT ?_
  | with_reducible refine iteF ?_
  | ((with_reducible refine' w_ixT ?vv ?ww ?_); (case vv => walk_at "tr"); (case ww => walk_at "ix"))
  | ((with_reducible refine' w_ixL ?vv ?ww ?_); (case vv => walk_at "tr"); (case ww => walk_at "ix"))
  | with_reducible refine w_gSub ?_
  | ((with_reducible refine' w_setL ?vv ?ww ?_); (case vv => walk_at "tr"); (case ww => first | rfl | decide | assumption))
  | ((with_reducible refine' w_lenL ?vv ?_); (case vv => walk_at "tr"))
  | ((with_reducible refine' w_lenT ?vv ?_); (case vv => walk_at "tr"))
  | with_reducible refine w_max2 ?_
  | with_reducible refine w_min2 ?_
  | with_reducible refine w_bm ?_
  | with_reducible refine w_bm0 ?_
  | ((with_reducible refine' w_tyL ?vv ?_); (case vv => walk_at "tr"))
  | ((with_reducible refine' w_append ?vv ?ww ?_); (case vv => walk_at "tr"); (case ww => walk_at "size"))
  | ((with_reducible refine' w_size ?vv ?_); (case vv => walk_at "size"))
  | with_reducible refine w_forL ?_
  | with_reducible refine w_forT ?_
  | with_reducible refine w_forR1 ?_
  | with_reducible refine w_forR2 ?_
  | with_reducible refine w_lcL ?_
  | with_reducible refine w_lcT ?_
  | with_reducible refine w_lcR1 ?_
  | with_reducible refine w_yes ?_
  | with_reducible refine w_sl ?_
  | with_reducible refine w_noPart ?_
  | with_reducible refine w_part ?_
  | with_reducible refine w_int ?_
  | ((with_reducible refine' w_slL ?vv ?_); (case vv => walk_at "tr"))
  | ((with_reducible refine' w_seqL ?vv ?ww ?_); (case vv => walk_at "tr"); (case ww => rfl))
  | ((with_reducible refine' w_seqT ?vv ?ww ?_); (case vv => walk_at "tr"); (case ww => rfl))
  | with_reducible refine w_gNil ?_
  | with_reducible refine w_gCons ?_
  | with_reducible refine w_forZ ?_
  | with_reducible refine w_forE ?_
  | with_reducible refine w_forV ?_
  | with_reducible refine w_lcZ ?_
  | with_reducible refine w_lcE ?_
  | ((with_reducible refine' w_isi (b := true) ?vv ?ww ?_); (case vv => walk_at "ty"); (case ww => decide +kernel))
  | ((with_reducible refine' w_isi (b := false) ?vv ?ww ?_); (case vv => walk_at "ty"); (case ww => decide +kernel))
  | with_reducible refine w_revL ?_
  | with_reducible refine w_pairN ?_
  | with_reducible refine w_pairC ?_
  | with_reducible refine w_dget ?_
  | with_reducible refine w_met ?_
  | ((with_reducible refine' w_metAt ?vv ?ww ?_); (case vv => walk_at "tr"); (case ww => rfl))
  | with_reducible refine w_mkI ?_
  | with_reducible refine w_fld ?_
  | ((with_reducible refine' w_fldAt ?vv ?cc ?nn ?ww ?_); (case vv => walk_at "tr"); (case cc => walk_at "cls"); (case nn => walk_at "na"); (case ww => rfl))
  | with_reducible refine w_sfld ?_
  | ((with_reducible refine' w_sfldAt ?vv ?cc ?nn ?ll ?ee ?_); (case vv => walk_at "tr"); (case cc => walk_at "cls"); (case nn => walk_at "na"); (case ll => simp); (case ee => rfl))
  | ((with_reducible refine' w_tupL ?vv ?_); (case vv => walk_at "tr"))
  | ((with_reducible refine' w_tupT ?vv ?_); (case vv => walk_at "tr"))
  | ((with_reducible refine' w_listL ?vv ?_); (case vv => walk_at "tr"))
  | ((with_reducible refine' w_listT ?vv ?_); (case vv => walk_at "tr"))
  | with_reducible refine w_tyS ?_
  | with_reducible refine w_retN ?_
  | with_reducible refine w_break ?_
  | with_reducible refine w_cont ?_)
local macro_rules | `(tactic| walk_at "w") => `(tactic| first
  | walk_at "v"
  | with_reducible refine w_or ?_
  | with_reducible refine w_and ?_
  | with_reducible refine w_andV ?_
  | with_reducible refine w_orV ?_)
local macro_rules | `(tactic| walk_at "wd") => `(tactic| first
  | walk_at "w"
  | ((with_reducible refine' w_decT ?vv ?_); (case vv => decide +kernel))
  | ((with_reducible refine' w_decF ?vv ?_); (case vv => decide +kernel)))
local macro_rules | `(tactic| walk_at "tz") => `(tactic| (intro S z; (repeat walk_at "w"); exact z))
local macro_rules | `(tactic| walk_at "wf") => `(tactic| first
  | walk_at "wd"
  | ((with_reducible refine' w_decF ?vv ?_); (case vv => with_reducible assumption)))
open SX
section
variable {K : PySem.W.Frag} {σ : L2.St} {H : Hp} {Q : VK} {te : TE} {tt : TT} {j : Nat}
/-- [e for c in text if ..] -/
theorem lc_S (l : List Nat) (Pv : Addr → Nat → List V → Hp → Prop) (h0 : ∀ D H', H D = none → Same H H' → H' D = some (.lst []) → Pv D 0 [] H')
    (hs : ∀ D, H D = none → ∀ i c ys H', l[i]? = some c → ys.length ≤ i → H' D = some (.lst ys) → Pv D i ys H' → tt ((wipe σ [j]).set j (some (.str (S [c])))) H' fun b H3 => if b = true then te ((wipe σ [j]).set j (some (.str (S [c])))) H3 fun y H4 => LcEnd D (Pv D) i y H4 else LcSkip D (Pv D) i H3)
    (hd : ∀ D, H D = none → ∀ ys H', ys.length ≤ l.length → H' D = some (.lst ys) → Pv D l.length ys H' → Q (.ref D) H') :
    ∃ z, V.str (S l) = .str z ∧ ∀ D, H D = none → WLc (Its z) (gName j) tt te [j] σ D H Q :=
  ⟨S l, rfl, wlc_it walk_str Pv h0 (fun _ _ _ _ _ _ _ _ => trivial) (fun D hD i v ys H0 H' hi hl hy hp ⟨e, c, h1, h2⟩ => by
    subst e h2
    exact ⟨wipe1 _ _ _, hs D hD i c ys _ (by rw [← List.getElem?_toArray]; exact h1) hl hy hp⟩) hd⟩
end

end J
namespace J
open PySem PySem.Spec PyProof.Rows L2

local macro_rules | `(tactic| walk_at "ty") => `(tactic| first
  | with_reducible exact ty_int
  | with_reducible exact ty_bl
  | with_reducible exact ty_str
  | with_reducible exact ty_non
  | ((with_reducible refine' ty_lst ?vv); (case vv => walk_at "tr"))
  | ((with_reducible refine' ty_sqT ?vv); (case vv => walk_at "tr"))
  | ((with_reducible refine' ty_dic ?vv); (case vv => walk_at "tr")))
local macro_rules | `(tactic| walk_at "ix") => `(tactic| first | exact at0 | exact at1 | exact at2 | assumption)
local macro_rules | `(tactic| walk_at "size") => `(tactic| first
  | assumption
  | (show _ < sizeLine; rw [sizeLine_eq]; (try simp only [List.length_cons, List.length_nil, List.length_append, List.length_map]); omega)
  | (show _ ≤ sizeLine; rw [sizeLine_eq]; (try simp only [List.length_cons, List.length_nil, List.length_append, List.length_map]); omega))
local macro_rules | `(tactic| walk_at "side") => `(tactic| first
  | assumption
  | ((with_reducible refine cdw ?_ ?_) <;> omega)
  | omega
  | (exact ⟨by omega, by omega⟩)
  | (exact Or.inl ⟨by omega, by omega⟩)
  | (exact Or.inr ⟨by omega, by omega⟩)
  | decide
  | (simp only [List.length_cons, List.length_nil, List.length_append, List.length_map]; omega)
  | (show _ ≤ _; decide))
local macro_rules | `(tactic| walk_at "as") => `(tactic| with_reducible assumption)
local macro_rules | `(tactic| walk_at "tr") => `(tactic| first
  | with_reducible assumption
  | with_reducible exact upd_same
  | ((with_reducible refine' SqL.of ?hh); (case hh => walk_at "as"))
  | ((with_reducible refine' SqT.of ?hh); (case hh => walk_at "as"))
  | ((with_reducible refine' Same.stm ?ee ?gg); (case ee => walk_at "as"); (case gg => walk_at "tr"))
  | ((with_reducible refine' Same.sqT ?ee ?gg); (case ee => walk_at "as"); (case gg => walk_at "tr"))
  | ((with_reducible refine' Same.sqL ?ee ?gg); (case ee => walk_at "as"); (case gg => walk_at "tr"))
  | ((with_reducible refine' Same.at ?ee ?gg); (case ee => walk_at "as"); (case gg => walk_at "tr"))
  | ((with_reducible refine' But.stm ?ee ?ff ?gg); (case ee => walk_at "as"); (case ff => walk_at "ne"); (case gg => walk_at "tr"))
  | ((with_reducible refine' But.tup ?ee ?ff ?gg); (case ee => walk_at "as"); (case ff => walk_at "tr1"); (case gg => walk_at "tr"))
  | ((with_reducible refine' But.sqT ?ee ?ff ?gg); (case ee => walk_at "as"); (case ff => walk_at "tr1"); (case gg => walk_at "tr"))
  | ((with_reducible refine' But.tupL ?ee ?ff ?gg); (case ee => walk_at "as"); (case ff => walk_at "tr1"); (case gg => walk_at "tr"))
  | ((with_reducible refine' But.sqTL ?ee ?ff ?gg); (case ee => walk_at "as"); (case ff => walk_at "tr1"); (case gg => walk_at "tr"))
  | ((with_reducible refine' But.sqL ?ee ?ff ?gg); (case ee => walk_at "as"); (case ff => walk_at "ne"); (case gg => walk_at "tr"))
  | ((with_reducible refine' But.at ?ee ?ff ?gg); (case ee => walk_at "as"); (case ff => walk_at "ne"); (case gg => walk_at "tr")))
local macro_rules | `(tactic| walk_at "ts") => `(tactic| first
  | with_reducible assumption
  | with_reducible exact TS.refl _
  | ((with_reducible refine' TS.trans ?gg (TS.of ?ee)); (case ee => walk_at "as"); (case gg => walk_at "ts"))
  | ((with_reducible refine' TS.trans ?gg (TS.butS ?ee ?ff)); (case ee => walk_at "as"); (case ff => walk_at "tr1"); (case gg => walk_at "ts"))
  | ((with_reducible refine' TS.trans ?gg (TS.butL ?ee ?ff)); (case ee => walk_at "as"); (case ff => walk_at "tr1"); (case gg => walk_at "ts"))
  | ((with_reducible refine' TS.trans ?gg (TS.butI ?ee ?ff)); (case ee => walk_at "as"); (case ff => walk_at "tr1"); (case gg => walk_at "ts")))
local macro_rules | `(tactic| walk_at "sm") => `(tactic| first
  | with_reducible assumption
  | with_reducible exact Same.refl _
  | ((with_reducible refine' Same.trans ?gg ?ee); (case ee => walk_at "as"); (case gg => walk_at "sm"))
  | ((with_reducible refine' But.new ?gg ?nn ?ee); (case ee => walk_at "as"); (case nn => walk_at "fr"); (case gg => walk_at "sm")))
local macro_rules | `(tactic| walk_at "fr") => `(tactic| first
  | with_reducible assumption
  | ((with_reducible refine' Same.back ?ee ?nn); (case nn => walk_at "as"); (case ee => walk_at "sm"))
  | ((with_reducible refine' But.back ?ee ?ff ?nn); (case nn => walk_at "as"); (case ff => walk_at "ne0"); (case ee => walk_at "bu")))
local macro_rules | `(tactic| walk_at "bu") => `(tactic| first
  | with_reducible assumption
  | with_reducible exact But.refl _ _
  | ((with_reducible refine' But.trans ?gg ?ee); (case ee => walk_at "as"); (case gg => walk_at "bu"))
  | ((with_reducible refine' But.trans ?gg (But.of ?ee)); (case ee => walk_at "as"); (case gg => walk_at "bu"))
  | ((with_reducible refine' But.new2 ?gg ?nn ?ee); (case ee => walk_at "as"); (case nn => walk_at "frB"); (case gg => walk_at "bu")))
local macro_rules | `(tactic| walk_at "frB") => `(tactic| first
  | with_reducible assumption
  | ((with_reducible refine' Same.back ?ee ?nn); (case nn => walk_at "as"); (case ee => walk_at "sm"))
  | ((with_reducible refine' But.back' ?ee ?ff ?nn); (case nn => walk_at "as"); (case ee => walk_at "bu"); (case ff => walk_at "tr1")))
local macro_rules | `(tactic| walk_at "tr1") => `(tactic| first
  | with_reducible assumption
  | ((with_reducible refine' Same.stm ?ee ?gg); (case ee => walk_at "as"); (case gg => walk_at "tr1"))
  | ((with_reducible refine' Same.at ?ee ?gg); (case ee => walk_at "as"); (case gg => walk_at "tr1"))
  | ((with_reducible refine' But.at ?ee ?ff ?gg); (case ee => walk_at "as"); (case ff => walk_at "ne0"); (case gg => walk_at "tr1"))
  | ((with_reducible refine' But.stm ?ee ?ff ?gg); (case ee => walk_at "as"); (case ff => walk_at "ne0"); (case gg => walk_at "tr1")))
local macro_rules | `(tactic| walk_at "ne0") => `(tactic| first
  | with_reducible assumption
  | (with_reducible apply Ne.symm; with_reducible assumption))
local macro_rules | `(tactic| walk_at "ne") => `(tactic| first
  | with_reducible assumption
  | (with_reducible apply Ne.symm; with_reducible assumption)
  | ((with_reducible refine' stm_ne ?hh ?nn); (case nn => walk_at "as"); (case hh => walk_at "tr1"))
  | ((with_reducible refine' ne_of_none ?hh ?nn); (case nn => walk_at "as"); (case hh => walk_at "tr1"))
  | ((with_reducible apply Ne.symm); (with_reducible refine' ne_of_none ?hh ?nn); (case nn => walk_at "as"); (case hh => walk_at "tr1")))
local macro_rules | `(tactic| walk_at "v") => `(tactic| first
  | with_reducible refine w_seq ?_
  | ((with_reducible refine' w_var ?vv ?_); (case vv => exact rfl))
  | with_reducible refine w_c ?_
  | with_reducible refine w_op ?_
  | with_reducible refine w_asg ?_
  | with_reducible refine w_gName ?_
  | with_reducible refine w_ret ?_
  | with_reducible refine w_ifS ?_
  | with_reducible refine w_drop ?_
  | with_reducible refine w_next ?_
  | with_reducible refine w_cons ?_
  | with_reducible refine w_nil ?_
  | with_reducible refine w_call ?_
  | with_reducible refine w_cb ?_
  | with_reducible refine w_rI0 ?_
  | with_reducible refine w_addI ?_
  | with_reducible refine w_eqI ?_
  | with_reducible refine w_neI ?_
  | with_reducible refine w_eqS ?_
  | with_reducible refine w_neS ?_
  | with_reducible refine w_eqB ?_
  | with_reducible refine w_neB ?_
  | with_reducible refine w_chain ?_
  | with_reducible refine w_test ?_
  | with_reducible refine w_tB ?_
  | with_reducible refine w_bl ?_
  | ((with_reducible refine' w_mulI ?vv ?_); (case vv => walk_at "side"))
  | ((with_reducible refine' w_rI ?vv ?_); (case vv => walk_at "side"))
  | with_reducible refine w_int1 ?_
  | with_reducible refine w_int1b ?_
  | with_reducible refine w_tup ?_
  | with_reducible refine w_lst ?_
  | with_reducible refine w_un ?_
  | with_reducible refine w_rU ?_
  | with_reducible refine w_not ?_
  | with_reducible refine w_notV ?_
  | with_reducible refine w_ifE ?_
  | with_reducible refine w_nT ?_
  | with_reducible refine w_nF ?_
  | with_reducible refine iteT ?_
  | with_reducible refine iteF ?_
  | ((with_reducible refine' w_ixT ?vv ?ww ?_); (case vv => walk_at "tr"); (case ww => walk_at "ix"))
  | ((with_reducible refine' w_ixL ?vv ?ww ?_); (case vv => walk_at "tr"); (case ww => walk_at "ix"))
  | with_reducible refine w_gSub ?_
  | ((with_reducible refine' w_setL ?vv ?ww ?_); (case vv => walk_at "tr"); (case ww => first | rfl | decide | assumption))
  | ((with_reducible refine' w_lenL ?vv ?_); (case vv => walk_at "tr"))
  | ((with_reducible refine' w_lenT ?vv ?_); (case vv => walk_at "tr"))
  | with_reducible refine w_max2 ?_
  | with_reducible refine w_min2 ?_
  | with_reducible refine w_bm ?_
  | with_reducible refine w_bm0 ?_
  | ((with_reducible refine' w_tyL ?vv ?_); (case vv => walk_at "tr"))
  | ((with_reducible refine' w_append ?vv ?ww ?_); (case vv => walk_at "tr"); (case ww => walk_at "size"))
  | ((with_reducible refine' w_size ?vv ?_); (case vv => walk_at "size"))
  | with_reducible refine w_forL ?_
  | with_reducible refine w_forT ?_
  | with_reducible refine w_forR1 ?_
  | with_reducible refine w_forR2 ?_
  | with_reducible refine w_lcL ?_
  | with_reducible refine w_lcT ?_
  | with_reducible refine w_lcR1 ?_
  | with_reducible refine w_yes ?_
  | with_reducible refine w_sl ?_
  | with_reducible refine w_noPart ?_
  | with_reducible refine w_part ?_
  | with_reducible refine w_int ?_
  | ((with_reducible refine' w_slL ?vv ?_); (case vv => walk_at "tr"))
  | ((with_reducible refine' w_seqL ?vv ?ww ?_); (case vv => walk_at "tr"); (case ww => rfl))
  | ((with_reducible refine' w_seqT ?vv ?ww ?_); (case vv => walk_at "tr"); (case ww => rfl))
  | with_reducible refine w_gNil ?_
  | with_reducible refine w_gCons ?_
  | with_reducible refine w_forZ ?_
  | with_reducible refine w_forE ?_
  | with_reducible refine w_forV ?_
  | with_reducible refine w_lcZ ?_
  | with_reducible refine w_lcE ?_
  | ((with_reducible refine' w_isi (b := true) ?vv ?ww ?_); (case vv => walk_at "ty"); (case ww => decide +kernel))
  | ((with_reducible refine' w_isi (b := false) ?vv ?ww ?_); (case vv => walk_at "ty"); (case ww => decide +kernel))
  | with_reducible refine w_revL ?_
  | with_reducible refine w_pairN ?_
  | with_reducible refine w_pairC ?_
  | with_reducible refine w_dget ?_
  | with_reducible refine w_met ?_
  | ((with_reducible refine' w_metAt ?vv ?ww ?_); (case vv => walk_at "tr"); (case ww => rfl))
  | with_reducible refine w_mkI ?_
  | with_reducible refine w_fld ?_
  | ((with_reducible refine' w_fldAt ?vv ?cc ?nn ?ww ?_); (case vv => walk_at "tr"); (case cc => walk_at "cls"); (case nn => walk_at "na"); (case ww => rfl))
  | with_reducible refine w_sfld ?_
  | ((with_reducible refine' w_sfldAt ?vv ?cc ?nn ?ll ?ee ?_); (case vv => walk_at "tr"); (case cc => walk_at "cls"); (case nn => walk_at "na"); (case ll => simp); (case ee => rfl))
  | ((with_reducible refine' w_tupL ?vv ?_); (case vv => walk_at "tr"))
  | ((with_reducible refine' w_tupT ?vv ?_); (case vv => walk_at "tr"))
  | ((with_reducible refine' w_listL ?vv ?_); (case vv => walk_at "tr"))
  | ((with_reducible refine' w_listT ?vv ?_); (case vv => walk_at "tr"))
  | with_reducible refine w_tyS ?_
  | with_reducible refine w_retN ?_
  | with_reducible refine w_break ?_
  | with_reducible refine w_cont ?_)
local macro_rules | `(tactic| walk_at "w") => `(tactic| first
  | walk_at "v"
  | with_reducible refine w_or ?_
  | with_reducible refine w_and ?_
  | with_reducible refine w_andV ?_
  | with_reducible refine w_orV ?_)
local macro_rules | `(tactic| walk_at "wd") => `(tactic| first
  | walk_at "w"
  | ((with_reducible refine' w_decT ?vv ?_); (case vv => decide +kernel))
  | ((with_reducible refine' w_decF ?vv ?_); (case vv => decide +kernel)))
local macro_rules | `(tactic| walk_at "tz") => `(tactic| (intro S z; (repeat walk_at "w"); exact z))
local macro_rules | `(tactic| walk_at "wf") => `(tactic| first
  | walk_at "wd"
  | ((with_reducible refine' w_decF ?vv ?_); (case vv => with_reducible assumption)))
open SX
theorem S_of' (z : Str) (l : List Nat) (h : TL.tl z = l) : z = S l := by rw [← h]
theorem flat_one (l : List Nat) : (l.map (fun c => [c])).flatten = l := by
  induction l with
  | nil => rfl
  | cons c l ih => rw [List.map_cons, List.flatten_cons, ih]; rfl
theorem filt_strOk {l : List Nat} (hc : ∀ c ∈ l, c < 256) : (l.map fun c => S [c]).all PyData.strOk = true := by
  rw [List.all_eq_true]
  intro z hz
  obtain ⟨c, h, rfl⟩ := List.mem_map.mp hz
  have := hc c h
  unfold PyData.strOk
  rw [← Array.all_toList, List.all_eq_true]
  intro d hd
  have : d = c := by simpa using hd
  rw [decide_eq_true_eq]
  omega
section
variable {P : Program} {w : World} {K : PySem.W.Frag} {mg : Str → Option Value}
theorem ok_law_is_name [c : Facts K mg] (G__law_own : Fn P w K mg "_law_own" 1 [] (spOwn)) : Fn P w K mg "_law_is_name" 2 ["text"] (spLName) := by
  obtain ⟨fd, F⟩ := c.d_law_is_name
  refine Fn.mk' F c.g_law_is_name sc_law_is_name (k := 1) (fun vs H Q E h => ?_) (fun _ _ _ _ _ _ us hl => match us, hl with | [_], _ => rfl) (fun base cdv A outer s H vs Q E hr h => ?_)
  · exact len_law_is_name h
  · have nd := sc_law_is_name.nd
    have hu := hu_of hr
    have hr__law_own : Room 1 _ := hr.mono (by omega)
    refine ⟨_, (pss_cons (ps_if (PW.pt (pw_or (pt_cmpR (op_inA (K := K) rfl) (pv 0) (pe_fn0 G__law_own hr__law_own (by rfl)) (by rfl)) (pw_or1 (pt_not (pt_chain op_le op_le pe_int (pe_callB (call_lenA (K := K) rfl) (by rfl) c.f_len boot_len (pa_cons (pv 0) pa_nil)) pe_int))))) (pss_one (ps_ret pe_bl)) pss_nil)
      (pss_one (ps_ret (pe_cmpR (op_eqA (K := K) rfl hr.units) (pe_lc (own := [("sign", 1)]) rfl nd (pi_str (pv 0)) (blkOk_by (N := N_law_is_name) (sc := defScope s_law_is_name) (by decide +kernel)) (fun _ _ _ _ _ => (pg_name (i := 1) nd rfl (Or.inl rfl))) (fun _ _ _ _ _ => pts_one (pt_not (pt_chain op_leSA op_leSA pe_str (pv 1) pe_str))) (fun _ _ _ _ _ => (pv 1))) (pe_lst pa_nil) (nomark _))))), ?_⟩
    try dsimp only [cxOf, Cx.nox, Cx.wish]
    obtain ⟨l, rfl, hl, hc, q⟩ := h
    have hz : sizeLine = 16777216 := sizeLine_eq
    repeat walk_at "v"
    refine w_or ?_
    repeat walk_at "w"
    refine ⟨rfl, fun p H1 hp s1 n1 => ?_⟩
    refine w_inSL (SqL.of hp) ?_
    repeat walk_at "w"
    refine ite2 (fun h1 => ?_) (fun h1 => ?_)
    · rw [decide_eq_true_eq] at h1
      repeat walk_at "w"
      rw [show nameB l = false by unfold nameB; simp [h1]] at q
      exact q _ s1
    · rw [decide_eq_true_eq] at h1
      repeat walk_at "w"
      refine w_lenC (by omega) ?_
      repeat walk_at "w"
      have fin : ¬ (1 ≤ l.length ∧ l.length ≤ 8) → nameB l = false := fun g => by unfold nameB; rw [decide_eq_false g]; rfl
      refine ite2 (fun h2 => ?_) (fun h2 => ?_)
      · rw [decide_eq_true_eq] at h2
        repeat walk_at "w"
        refine ite2 (fun h3 => ?_) (fun h3 => ?_)
        · repeat walk_at "w"
          rw [fin (by simp at h3; omega)] at q
          exact q _ s1
        · have g : 1 ≤ l.length ∧ l.length ≤ 8 := by simp at h3; omega
          repeat walk_at "w"
          refine w_lcS ?_
          repeat walk_at "w"
          refine lc_S l (fun D i ys H' => Same H1 H' ∧ ys = ((l.take i).filter (fun c => !decide (97 ≤ c ∧ c ≤ 122)) |>.map fun c => S [c]).map V.str) (fun D H' hD e f => ⟨e, rfl⟩) (fun D hD i c ys H' hi hl2 hy hp => ?_) (fun D hD ys H' hl2 hy hp => ?_)
          · obtain ⟨e, rfl⟩ := hp
            have tk1 : l.take (i + 1) = l.take i ++ [c] := by
              obtain ⟨hil, rfl⟩ := List.getElem?_eq_some_iff.mp hi
              exact List.take_succ_eq_append_getElem hil
            have hil := (List.getElem?_eq_some_iff.mp hi).1
            repeat walk_at "w"
            rw [S_of' "a" [97] (by decide +kernel), S_of' "z" [122] (by decide +kernel)]
            refine w_le1 ?_
            repeat walk_at "w"
            have cont : ∀ b : Bool, b = decide (97 ≤ c ∧ c ≤ 122) → (if (!b) = true then tVar 1 ((wipe (L2.start N_law_is_name [V.str (S l)]) [1]).set 1 (some (.str (S [c])))) H' fun y H4 => LcEnd D (fun i ys H' => Same H1 H' ∧ ys = ((l.take i).filter (fun c => !decide (97 ≤ c ∧ c ≤ 122)) |>.map fun c => S [c]).map V.str) i y H4 else LcSkip D (fun i ys H' => Same H1 H' ∧ ys = ((l.take i).filter (fun c => !decide (97 ≤ c ∧ c ≤ 122)) |>.map fun c => S [c]).map V.str) i H') := fun b hb => by
              subst hb
              refine ite2 (fun h4 => ?_) (fun h4 => ?_)
              · repeat walk_at "w"
                refine lc_end hy hl2 (by rw [hz]; omega) fun H'' e2 f2 => ⟨But.new e hD e2, ?_⟩
                rw [tk1, List.filter_append, show List.filter (fun c => !decide (97 ≤ c ∧ c ≤ 122)) [c] = [c] by rw [List.filter_cons, if_pos h4]; rfl, List.map_append, List.map_append]; rfl
              · refine lc_skip hy hl2 ⟨e, ?_⟩
                rw [tk1, List.filter_append, show List.filter (fun c => !decide (97 ≤ c ∧ c ≤ 122)) [c] = [] by rw [List.filter_cons, if_neg h4]; rfl, List.append_nil]
            refine ite2 (fun h4 => ?_) (fun h4 => ?_)
            · rw [decide_eq_true_eq] at h4
              repeat walk_at "w"
              refine w_le1 ?_
              repeat walk_at "w"
              exact cont _ (by rw [decide_eq_decide]; omega)
            · rw [decide_eq_true_eq] at h4
              repeat walk_at "w"
              have h4' : (!decide (97 ≤ c ∧ c ≤ 122)) = true := by rw [decide_eq_false (by omega)]; rfl
              refine lc_end hy hl2 (by rw [hz]; omega) fun H'' e2 f2 => ⟨But.new e hD e2, ?_⟩
              rw [tk1, List.filter_append, show List.filter (fun c => !decide (97 ≤ c ∧ c ≤ 122)) [c] = [c] by rw [List.filter_cons, if_pos h4']; rfl, List.map_append, List.map_append]; rfl
          · obtain ⟨e, rfl⟩ := hp
            rw [List.take_length] at hy
            repeat walk_at "w"
            refine w_new fun p2 H2 n2 s2 f2 => ?_
            refine w_eqSL (ms := []) (SqL.of (s2 _ _ hy)) (SqL.of f2) (filt_strOk fun c hc' => hc c (List.mem_filter.mp hc').1) rfl ?_
            have e4 : decide (((l.filter (fun c => !decide (97 ≤ c ∧ c ≤ 122))).map fun c => S [c]) = []) = nameB l := by
              unfold nameB
              rw [decide_eq_true g, decide_eq_false h1, Bool.true_and, Bool.not_false, Bool.and_true, Bool.eq_iff_iff, decide_eq_true_eq, List.map_eq_nil_iff, List.filter_eq_nil_iff, List.all_eq_true]
              simp
            rw [e4]
            exact q _ ((s1.trans e).trans s2)
      · rw [decide_eq_true_eq] at h2
        repeat walk_at "w"
        rw [fin (by omega)] at q
        exact q _ s1
end
def spLetters : Sp := fun vs H Q _ => ∃ s : Addr, vs = [.ref s] ∧ Stm H s ∧ ∀ l H', l.length ≤ 10 → (∀ c ∈ l, c < 256) → Stm H' s → But s H H' → Q (.str (S l)) H'
theorem len_law_letters {vs H Q E} (h : spLetters vs H Q E) : vs.length = 1 := by obtain ⟨_, rfl, _⟩ := h; rfl
def spText1 : Sp := fun vs H Q _ => ∃ s : Addr, vs = [.ref s] ∧ Stm H s ∧ ∀ l H', l.length ≤ 100 → (∀ c ∈ l, c < 256) → Stm H' s → But s H H' → Q (.str (S l)) H'
theorem len_law_text {vs H Q E} (h : spText1 vs H Q E) : vs.length = 1 := by obtain ⟨_, rfl, _⟩ := h; rfl
def spNumber : Sp := fun vs H Q _ => ∃ (s : Addr) (w lo hi : Int), vs = [.ref s, .int w, .int lo, .int hi] ∧ Stm H s ∧ 4 ≤ w ∧ w ≤ 24 ∧ ∀ n H', Stm H' s → But s H H' → Q (.int n) H'
theorem len_law_number {vs H Q E} (h : spNumber vs H Q E) : vs.length = 4 := by obtain ⟨_, _, _, _, rfl, _⟩ := h; rfl
section
variable {P : Program} {w : World} {K : PySem.W.Frag} {mg : Str → Option Value}
theorem ok_law_letters [c : Facts K mg] (G__law_take : Fn P w K mg "_law_take" 1 ["stream", "many"] (spTake)) : Fn P w K mg "_law_letters" 2 ["stream"] (spLetters) := by
  obtain ⟨fd, F⟩ := c.d_law_letters
  refine Fn.mk' F c.g_law_letters sc_law_letters (k := 1) (fun vs H Q E h => ?_) (fun _ _ _ _ _ _ us hl => match us, hl with | [_], _ => rfl) (fun base cdv A outer s H vs Q E hr h => ?_)
  · exact len_law_letters h
  · have nd := sc_law_letters.nd
    have hu := hu_of hr
    have hr__law_take : Room 1 _ := hr.mono (by omega)
    refine ⟨_, (pss_cons (ps_set (i := 1) nd rfl (Or.inr rfl) pe_str)
      (pss_one (ps_ret (pe_bm PySem.F.plainAttrs_str PySem.F.slot_str_join PySem.F.type_str_join (mt_joinA (K := K) rfl) pe_str (pa_cons (pe_lc (own := [("k", 2)]) rfl nd (pi_range1 (by rfl) c.f_range (pa_cons (pe_fn G__law_take hr__law_take (by rfl) (pa_cons (pv 0) (pa_cons pe_int pa_nil))) pa_nil)) (blkOk_by (N := N_law_letters) (sc := defScope s_law_letters) (by decide +kernel)) (fun _ _ _ _ _ => (pg_name (i := 2) nd rfl (Or.inl rfl))) (fun _ _ _ _ _ => pts_nil) (fun _ _ _ _ _ => (pe_ix (ix_any (K := K) rfl) (pv 1) (pe_fn G__law_take hr__law_take (by rfl) (pa_cons (pv 0) (pa_cons pe_int pa_nil))) (fun _ _ => rfl)))) pa_nil))))), ?_⟩
    try dsimp only [cxOf, Cx.nox, Cx.wish]
    obtain ⟨s, rfl, hs, q⟩ := h
    have hz : sizeLine = 16777216 := sizeLine_eq
    repeat walk_at "w"
    refine ⟨s, 11, rfl, hs, by decide, by decide, fun m H6 m0 m1 hs6 e6 => ?_⟩
    repeat walk_at "w"
    refine lc_R1 (fun D i ys H' => Stm H' s ∧ But s H6 H' ∧ ∃ l : List Nat, ys = TV (l.map (fun c => [c])) ∧ l.length = i ∧ ∀ c ∈ l, c < 256) (by omega) (by omega) (fun D H' hD e f => ⟨e.stm hs6, But.of e, [], rfl, rfl, fun c h => (List.not_mem_nil h).elim⟩)
      (fun D hD i ys H' hi hl hy hp => ?_) (fun D hD ys H' hl hy hp => ?_)
    · obtain ⟨hs', b', l, rfl, hl2, hl3⟩ := hp
      have nDs : D ≠ s := stm_ne hs6 hD
      repeat walk_at "w"
      refine ⟨s, 26, rfl, hs', by decide, by decide, fun d H7 d0 d1 hs7 e7 => ?_⟩
      rw [S_of' "abcdefghijklmnopqrstuvwxyz" ((List.range 26).map (· + 97)) (by decide +kernel)]
      refine w_ixC (c := d.toNat + 97) (by decide +kernel) d0 (by
        rw [List.getElem?_map, List.getElem?_range (by omega)]; rfl) ?_
      refine lc_end (e7 _ _ nDs hy) (by rw [TV_len, List.length_map]; omega) (by rw [hz, TV_len, List.length_map]; omega) fun H8 e8 f8 => ⟨e8.stm nDs.symm hs7, But.new2 (b'.trans e7) hD e8, l ++ [d.toNat + 97], ?_, by rw [List.length_append, hl2]; rfl, fun c hc => ?_⟩
      · rw [List.map_append, TV_app]; rfl
      · rcases List.mem_append.mp hc with g | g
        · exact hl3 c g
        · rw [List.mem_singleton.mp g]; omega
    · obtain ⟨hs', b', l, rfl, hl2, hl3⟩ := hp
      rw [S_of' "" [] rfl]
      refine w_joinL (ys := l.map (fun c => [c])) (SqL.of hy) (by rw [flat_one]; simp; omega) ?_
      rw [joinL_nil, flat_one]
      exact q l H' (by omega) hl3 hs' (e6.trans b')
theorem ok_law_number [c : Facts K mg] (G__law_take : Fn P w K mg "_law_take" 1 ["stream", "many"] (spTake)) : Fn P w K mg "_law_number" 2 ["stream", "width", "low", "high"] (spNumber) := by
  obtain ⟨fd, F⟩ := c.d_law_number
  refine Fn.mk' F c.g_law_number sc_law_number (k := 1) (fun vs H Q E h => ?_) (fun _ _ _ _ _ _ us hl => match us, hl with | [_, _, _, _], _ => rfl) (fun base cdv A outer s H vs Q E hr h => ?_)
  · exact len_law_number h
  · have nd := sc_law_number.nd
    have hu := hu_of hr
    have hr__law_take : Room 1 _ := hr.mono (by omega)
    refine ⟨_, (pss_cons (ps_set (i := 4) nd rfl (Or.inl rfl) (pe_ix (ix_any (K := K) rfl) (pe_lst (pa_cons pe_int (pa_cons (pe_op op_shl pe_int (pv 1)) (pa_cons (pv 2) (pa_cons (pv 3) (pa_cons (pe_op op_shl pe_int (pe_op op_sub (pv 1) pe_int)) (pa_cons (pe_op op_sub (pe_op op_pow pe_int pe_int) pe_int) pa_nil))))))) (pe_fn G__law_take hr__law_take (by rfl) (pa_cons (pv 0) (pa_cons pe_int pa_nil))) (fun _ _ => rfl)))
      (pss_one (ps_ret (pe_op op_sub (pe_op (op_addA (K := K) rfl) (pv 4) (pe_fn G__law_take hr__law_take (by rfl) (pa_cons (pv 0) (pa_cons pe_int pa_nil)))) pe_int)))), ?_⟩
    try dsimp only [cxOf, Cx.nox, Cx.wish]
    obtain ⟨s, wd, lo, hi, rfl, hs, h4, h24, q⟩ := h
    repeat walk_at "w"
    refine w_new fun p1 H1 n1 s1 f1 => ?_
    repeat walk_at "w"
    refine ⟨s, 6, rfl, s1.stm hs, by decide, by decide, fun i H2 i0 i1 hs2 e2 => ?_⟩
    have f2 := e2 _ _ (stm_ne hs n1) f1
    obtain ⟨v, g1, g2, _⟩ := atI_some i0 (show i < (([_, _, _, _, _, _] : List V).length : Int) from i1)
    refine w_ixL (SqL.of f2) g1 ?_
    obtain ⟨n, rfl⟩ : ∃ n, v = .int n := by
      simp only [List.mem_cons, List.not_mem_nil, or_false] at g2
      rcases g2 with rfl | rfl | rfl | rfl | rfl | rfl <;> exact ⟨_, rfl⟩
    repeat walk_at "w"
    refine ⟨s, 5, rfl, hs2, by decide, by decide, fun j H3 j0 j1 hs3 e3 => ?_⟩
    repeat walk_at "w"
    exact q _ _ hs3 ((But.of s1).trans (e2.trans e3))
end

end J
namespace J
open PySem PySem.Spec PyProof.Rows L2

local macro_rules | `(tactic| walk_at "ty") => `(tactic| first
  | with_reducible exact ty_int
  | with_reducible exact ty_bl
  | with_reducible exact ty_str
  | with_reducible exact ty_non
  | ((with_reducible refine' ty_lst ?vv); (case vv => walk_at "tr"))
  | ((with_reducible refine' ty_sqT ?vv); (case vv => walk_at "tr"))
  | ((with_reducible refine' ty_dic ?vv); (case vv => walk_at "tr")))
local macro_rules | `(tactic| walk_at "ix") => `(tactic| first | exact at0 | exact at1 | exact at2 | assumption)
local macro_rules | `(tactic| walk_at "size") => `(tactic| first
  | assumption
  | (show _ < sizeLine; rw [sizeLine_eq]; (try simp only [List.length_cons, List.length_nil, List.length_append, List.length_map]); omega)
  | (show _ ≤ sizeLine; rw [sizeLine_eq]; (try simp only [List.length_cons, List.length_nil, List.length_append, List.length_map]); omega))
local macro_rules | `(tactic| walk_at "side") => `(tactic| first
  | assumption
  | ((with_reducible refine cdw ?_ ?_) <;> omega)
  | omega
  | (exact ⟨by omega, by omega⟩)
  | (exact Or.inl ⟨by omega, by omega⟩)
  | (exact Or.inr ⟨by omega, by omega⟩)
  | decide
  | (simp only [List.length_cons, List.length_nil, List.length_append, List.length_map]; omega)
  | (show _ ≤ _; decide))
local macro_rules | `(tactic| walk_at "as") => `(tactic| with_reducible assumption)
local macro_rules | `(tactic| walk_at "tr") => `(tactic| first
  | with_reducible assumption
  | with_reducible exact upd_same
  | ((with_reducible refine' SqL.of ?hh); (case hh => walk_at "as"))
  | ((with_reducible refine' SqT.of ?hh); (case hh => walk_at "as"))
  | ((with_reducible refine' Same.stm ?ee ?gg); (case ee => walk_at "as"); (case gg => walk_at "tr"))
  | ((with_reducible refine' Same.sqT ?ee ?gg); (case ee => walk_at "as"); (case gg => walk_at "tr"))
  | ((with_reducible refine' Same.sqL ?ee ?gg); (case ee => walk_at "as"); (case gg => walk_at "tr"))
  | ((with_reducible refine' Same.at ?ee ?gg); (case ee => walk_at "as"); (case gg => walk_at "tr"))
  | ((with_reducible refine' But.stm ?ee ?ff ?gg); (case ee => walk_at "as"); (case ff => walk_at "ne"); (case gg => walk_at "tr"))
  | ((with_reducible refine' But.tup ?ee ?ff ?gg); (case ee => walk_at "as"); (case ff => walk_at "tr1"); (case gg => walk_at "tr"))
  | ((with_reducible refine' But.sqT ?ee ?ff ?gg); (case ee => walk_at "as"); (case ff => walk_at "tr1"); (case gg => walk_at "tr"))
  | ((with_reducible refine' But.tupL ?ee ?ff ?gg); (case ee => walk_at "as"); (case ff => walk_at "tr1"); (case gg => walk_at "tr"))
  | ((with_reducible refine' But.sqTL ?ee ?ff ?gg); (case ee => walk_at "as"); (case ff => walk_at "tr1"); (case gg => walk_at "tr"))
  | ((with_reducible refine' But.sqL ?ee ?ff ?gg); (case ee => walk_at "as"); (case ff => walk_at "ne"); (case gg => walk_at "tr"))
  | ((with_reducible refine' But.at ?ee ?ff ?gg); (case ee => walk_at "as"); (case ff => walk_at "ne"); (case gg => walk_at "tr")))
local macro_rules | `(tactic| walk_at "ts") => `(tactic| first
  | with_reducible assumption
  | with_reducible exact TS.refl _
  | ((with_reducible refine' TS.trans ?gg (TS.of ?ee)); (case ee => walk_at "as"); (case gg => walk_at "ts"))
  | ((with_reducible refine' TS.trans ?gg (TS.butS ?ee ?ff)); (case ee => walk_at "as"); (case ff => walk_at "tr1"); (case gg => walk_at "ts"))
  | ((with_reducible refine' TS.trans ?gg (TS.butL ?ee ?ff)); (case ee => walk_at "as"); (case ff => walk_at "tr1"); (case gg => walk_at "ts"))
  | ((with_reducible refine' TS.trans ?gg (TS.butI ?ee ?ff)); (case ee => walk_at "as"); (case ff => walk_at "tr1"); (case gg => walk_at "ts")))
local macro_rules | `(tactic| walk_at "sm") => `(tactic| first
  | with_reducible assumption
  | with_reducible exact Same.refl _
  | ((with_reducible refine' Same.trans ?gg ?ee); (case ee => walk_at "as"); (case gg => walk_at "sm"))
  | ((with_reducible refine' But.new ?gg ?nn ?ee); (case ee => walk_at "as"); (case nn => walk_at "fr"); (case gg => walk_at "sm")))
local macro_rules | `(tactic| walk_at "fr") => `(tactic| first
  | with_reducible assumption
  | ((with_reducible refine' Same.back ?ee ?nn); (case nn => walk_at "as"); (case ee => walk_at "sm"))
  | ((with_reducible refine' But.back ?ee ?ff ?nn); (case nn => walk_at "as"); (case ff => walk_at "ne0"); (case ee => walk_at "bu")))
local macro_rules | `(tactic| walk_at "bu") => `(tactic| first
  | with_reducible assumption
  | with_reducible exact But.refl _ _
  | ((with_reducible refine' But.trans ?gg ?ee); (case ee => walk_at "as"); (case gg => walk_at "bu"))
  | ((with_reducible refine' But.trans ?gg (But.of ?ee)); (case ee => walk_at "as"); (case gg => walk_at "bu"))
  | ((with_reducible refine' But.new2 ?gg ?nn ?ee); (case ee => walk_at "as"); (case nn => walk_at "frB"); (case gg => walk_at "bu")))
local macro_rules | `(tactic| walk_at "frB") => `(tactic| first
  | with_reducible assumption
  | ((with_reducible refine' Same.back ?ee ?nn); (case nn => walk_at "as"); (case ee => walk_at "sm"))
  | ((with_reducible refine' But.back' ?ee ?ff ?nn); (case nn => walk_at "as"); (case ee => walk_at "bu"); (case ff => walk_at "tr1")))
local macro_rules | `(tactic| walk_at "tr1") => `(tactic| first
  | with_reducible assumption
  | ((with_reducible refine' Same.stm ?ee ?gg); (case ee => walk_at "as"); (case gg => walk_at "tr1"))
  | ((with_reducible refine' Same.at ?ee ?gg); (case ee => walk_at "as"); (case gg => walk_at "tr1"))
  | ((with_reducible refine' But.at ?ee ?ff ?gg); (case ee => walk_at "as"); (case ff => walk_at "ne0"); (case gg => walk_at "tr1"))
  | ((with_reducible refine' But.stm ?ee ?ff ?gg); (case ee => walk_at "as"); (case ff => walk_at "ne0"); (case gg => walk_at "tr1")))
local macro_rules | `(tactic| walk_at "ne0") => `(tactic| first
  | with_reducible assumption
  | (with_reducible apply Ne.symm; with_reducible assumption))
local macro_rules | `(tactic| walk_at "ne") => `(tactic| first
  | with_reducible assumption
  | (with_reducible apply Ne.symm; with_reducible assumption)
  | ((with_reducible refine' stm_ne ?hh ?nn); (case nn => walk_at "as"); (case hh => walk_at "tr1"))
  | ((with_reducible refine' ne_of_none ?hh ?nn); (case nn => walk_at "as"); (case hh => walk_at "tr1"))
  | ((with_reducible apply Ne.symm); (with_reducible refine' ne_of_none ?hh ?nn); (case nn => walk_at "as"); (case hh => walk_at "tr1")))
local macro_rules | `(tactic| walk_at "v") => `(tactic| first
  | with_reducible refine w_seq ?_
  | ((with_reducible refine' w_var ?vv ?_); (case vv => exact rfl))
  | with_reducible refine w_c ?_
  | with_reducible refine w_op ?_
  | with_reducible refine w_asg ?_
  | with_reducible refine w_gName ?_
  | with_reducible refine w_ret ?_
  | with_reducible refine w_ifS ?_
  | with_reducible refine w_drop ?_
  | with_reducible refine w_next ?_
  | with_reducible refine w_cons ?_
  | with_reducible refine w_nil ?_
  | with_reducible refine w_call ?_
  | with_reducible refine w_cb ?_
  | with_reducible refine w_rI0 ?_
  | with_reducible refine w_addI ?_
  | with_reducible refine w_eqI ?_
  | with_reducible refine w_neI ?_
  | with_reducible refine w_eqS ?_
  | with_reducible refine w_neS ?_
  | with_reducible refine w_eqB ?_
  | with_reducible refine w_neB ?_
  | with_reducible refine w_chain ?_
  | with_reducible refine w_test ?_
  | with_reducible refine w_tB ?_
  | with_reducible refine w_bl ?_
  | ((with_reducible refine' w_mulI ?vv ?_); (case vv => walk_at "side"))
  | ((with_reducible refine' w_rI ?vv ?_); (case vv => walk_at "side"))
  | with_reducible refine w_int1 ?_
  | with_reducible refine w_int1b ?_
  | with_reducible refine w_tup ?_
  | with_reducible refine w_lst ?_
  | with_reducible refine w_un ?_
  | with_reducible refine w_rU ?_
  | with_reducible refine w_not ?_
  | with_reducible refine w_notV ?_
  | with_reducible refine w_ifE ?_
  | with_reducible refine w_nT ?_
  | with_reducible refine w_nF ?_
  | with_reducible refine iteT ?_
  | with_reducible refine iteF ?_
  | ((with_reducible refine' w_ixT ?vv ?ww ?_); (case vv => walk_at "tr"); (case ww => walk_at "ix"))
  | ((with_reducible refine' w_ixL ?vv ?ww ?_); (case vv => walk_at "tr"); (case ww => walk_at "ix"))
  | with_reducible refine w_gSub ?_
  | ((with_reducible refine' w_setL ?vv ?ww ?_); (case vv => walk_at "tr"); (case ww => first | rfl | decide | assumption))
  | ((with_reducible refine' w_lenL ?vv ?_); (case vv => walk_at "tr"))
  | ((with_reducible refine' w_lenT ?vv ?_); (case vv => walk_at "tr"))
  | with_reducible refine w_max2 ?_
  | with_reducible refine w_min2 ?_
  | with_reducible refine w_bm ?_
  | with_reducible refine w_bm0 ?_
  | ((with_reducible refine' w_tyL ?vv ?_); (case vv => walk_at "tr"))
  | ((with_reducible refine' w_append ?vv ?ww ?_); (case vv => walk_at "tr"); (case ww => walk_at "size"))
  | ((with_reducible refine' w_size ?vv ?_); (case vv => walk_at "size"))
  | with_reducible refine w_forL ?_
  | with_reducible refine w_forT ?_
  | with_reducible refine w_forR1 ?_
  | with_reducible refine w_forR2 ?_
  | with_reducible refine w_lcL ?_
  | with_reducible refine w_lcT ?_
  | with_reducible refine w_lcR1 ?_
  | with_reducible refine w_yes ?_
  | with_reducible refine w_sl ?_
  | with_reducible refine w_noPart ?_
  | with_reducible refine w_part ?_
  | with_reducible refine w_int ?_
  | ((with_reducible refine' w_slL ?vv ?_); (case vv => walk_at "tr"))
  | ((with_reducible refine' w_seqL ?vv ?ww ?_); (case vv => walk_at "tr"); (case ww => rfl))
  | ((with_reducible refine' w_seqT ?vv ?ww ?_); (case vv => walk_at "tr"); (case ww => rfl))
  | with_reducible refine w_gNil ?_
  | with_reducible refine w_gCons ?_
  | with_reducible refine w_forZ ?_
  | with_reducible refine w_forE ?_
  | with_reducible refine w_forV ?_
  | with_reducible refine w_lcZ ?_
  | with_reducible refine w_lcE ?_
  | ((with_reducible refine' w_isi (b := true) ?vv ?ww ?_); (case vv => walk_at "ty"); (case ww => decide +kernel))
  | ((with_reducible refine' w_isi (b := false) ?vv ?ww ?_); (case vv => walk_at "ty"); (case ww => decide +kernel))
  | with_reducible refine w_revL ?_
  | with_reducible refine w_pairN ?_
  | with_reducible refine w_pairC ?_
  | with_reducible refine w_dget ?_
  | with_reducible refine w_met ?_
  | ((with_reducible refine' w_metAt ?vv ?ww ?_); (case vv => walk_at "tr"); (case ww => rfl))
  | with_reducible refine w_mkI ?_
  | with_reducible refine w_fld ?_
  | ((with_reducible refine' w_fldAt ?vv ?cc ?nn ?ww ?_); (case vv => walk_at "tr"); (case cc => walk_at "cls"); (case nn => walk_at "na"); (case ww => rfl))
  | with_reducible refine w_sfld ?_
  | ((with_reducible refine' w_sfldAt ?vv ?cc ?nn ?ll ?ee ?_); (case vv => walk_at "tr"); (case cc => walk_at "cls"); (case nn => walk_at "na"); (case ll => simp); (case ee => rfl))
  | ((with_reducible refine' w_tupL ?vv ?_); (case vv => walk_at "tr"))
  | ((with_reducible refine' w_tupT ?vv ?_); (case vv => walk_at "tr"))
  | ((with_reducible refine' w_listL ?vv ?_); (case vv => walk_at "tr"))
  | ((with_reducible refine' w_listT ?vv ?_); (case vv => walk_at "tr"))
  | with_reducible refine w_tyS ?_
  | with_reducible refine w_retN ?_
  | with_reducible refine w_break ?_
  | with_reducible refine w_cont ?_)
local macro_rules | `(tactic| walk_at "w") => `(tactic| first
  | walk_at "v"
  | with_reducible refine w_or ?_
  | with_reducible refine w_and ?_
  | with_reducible refine w_andV ?_
  | with_reducible refine w_orV ?_)
local macro_rules | `(tactic| walk_at "wd") => `(tactic| first
  | walk_at "w"
  | ((with_reducible refine' w_decT ?vv ?_); (case vv => decide +kernel))
  | ((with_reducible refine' w_decF ?vv ?_); (case vv => decide +kernel)))
local macro_rules | `(tactic| walk_at "tz") => `(tactic| (intro S z; (repeat walk_at "w"); exact z))
local macro_rules | `(tactic| walk_at "wf") => `(tactic| first
  | walk_at "wd"
  | ((with_reducible refine' w_decF ?vv ?_); (case vv => with_reducible assumption)))
open SX
/-- what a drawn thing may be -/
def Thg (K : PySem.W.Frag) (H : Hp) (number : Int) (v : V) : Prop := v = .int number ∨ (∃ l, v = .str (S l) ∧ l.length ≤ 1000 ∧ nameB l = false) ∨ ∃ t, Oth t ∧ TyX K H v (.type t)
def spThing (K : PySem.W.Frag) : Sp := fun vs H Q _ => ∃ (s : Addr) (n : Int), vs = [.ref s, .int n] ∧ Stm H s ∧ ∀ v H', Thg K H' n v → Stm H' s → But s H H' → Q v H'
theorem len_law_thing {K : PySem.W.Frag} {vs H Q E} (h : spThing K vs H Q E) : vs.length = 2 := by obtain ⟨_, _, rfl, _⟩ := h; rfl
theorem w_dnew {σ : L2.St} {H : Hp} {Q : VK} (k : NewO (.dK []) H Q) : tDNewK σ H Q := k
theorem digits_name {m : Int} (h0 : 0 ≤ m) (h1 : m < 10 ^ 9) : ∃ l, Str.ofString (toString m) = S l ∧ l.length ≤ 1000 ∧ nameB l = false := by
  obtain ⟨n, rfl⟩ : ∃ n : Nat, m = n := ⟨m.toNat, by omega⟩
  refine ⟨TL.numL n, num_S n, Nat.le_trans (TL.numL_len (k := 9) (by decide) (by omega)) (by decide), ?_⟩
  have e : ((TL.numL n).all fun c => decide (97 ≤ c ∧ c ≤ 122)) = false := by
    rw [List.all_eq_false]
    obtain ⟨c, r, hc⟩ := List.exists_cons_of_ne_nil (TL.numL_ne n)
    refine ⟨c, by rw [hc]; exact List.mem_cons_self, ?_⟩
    have := TL.numL_free (n := n) (s := c)
    have hm : c ∈ TL.numL n := by rw [hc]; exact List.mem_cons_self
    rw [decide_eq_true_eq]
    intro z
    exact this (.inr (by omega)) hm
  unfold nameB
  rw [e]; simp
section
variable {P : Program} {w : World} {K : PySem.W.Frag} {mg : Str → Option Value}
theorem ok_law_thing [c : Facts K mg] (G__law_take : Fn P w K mg "_law_take" 1 ["stream", "many"] (spTake)) : Fn P w K mg "_law_thing" 2 ["stream", "number"] ((spThing K)) := by
  obtain ⟨fd, F⟩ := c.d_law_thing
  refine Fn.mk' F c.g_law_thing sc_law_thing (k := 1) (fun vs H Q E h => ?_) (fun _ _ _ _ _ _ us hl => match us, hl with | [_, _], _ => rfl) (fun base cdv A outer s H vs Q E hr h => ?_)
  · exact len_law_thing h
  · have nd := sc_law_thing.nd
    have hu := hu_of hr
    have hr__law_take : Room 1 _ := hr.mono (by omega)
    refine ⟨_, (pss_cons (ps_set (i := 2) nd rfl (Or.inl rfl) (pe_lst (pa_cons (pv 1) (pa_cons (pv 1) (pa_cons (pv 1) (pa_cons (pv 1) (pa_cons pe_bl (pa_cons pe_bl (pa_cons pe_non (pa_cons pe_str (pa_cons (pe_callTy call_strA (by rfl) c.f_str boot_str (pa_cons (pe_op op_mod (pv 1) (pe_op op_pow pe_int pe_int)) pa_nil)) (pa_cons (pe_lst (pa_cons (pv 1) pa_nil)) (pa_cons (pe_tup (pa_cons (pv 1) pa_nil)) pa_nil)))))))))))))
      (pss_one (ps_ret (pe_ix (ix_any (K := K) rfl) (pe_op (op_addA (K := K) rfl) (pv 2) (pe_lst (pa_cons pe_dnewK (pa_cons (pe_disp (pps_cons (pv 1) (pv 1) pps_nil) rfl rfl (by simp) (by decide)) (pa_cons (pe_lst pa_nil) (pa_cons (pe_tup pa_nil) pa_nil)))))) (pe_fn G__law_take hr__law_take (by rfl) (pa_cons (pv 0) (pa_cons pe_int pa_nil))) (fun _ _ => rfl))))), ?_⟩
    try dsimp only [cxOf, Cx.nox, Cx.wish]
    obtain ⟨s, n, rfl, hs, q⟩ := h
    have hz : sizeLine = 16777216 := sizeLine_eq
    repeat walk_at "w"
    have m0 : 0 ≤ n % (10 : Int) ^ (9 : Int).toNat := Int.emod_nonneg _ (by decide)
    have m1 : n % (10 : Int) ^ (9 : Int).toNat < 10 ^ 9 := Int.emod_lt_of_pos _ (by decide)
    refine w_strI ?_ ?_
    · have e : (n % (10 : Int) ^ (9 : Int).toNat).natAbs < 2 ^ 30 := by
        have : (10 : Int) ^ 9 < 2 ^ 30 := by decide
        omega
      by_cases z : (n % (10 : Int) ^ (9 : Int).toNat).natAbs = 0
      · rw [z]; decide
      · have := (Nat.log2_lt z).mpr e
        omega
    repeat walk_at "w"
    refine w_new fun p1 H1 n1 s1 f1 => ?_
    repeat walk_at "w"
    refine w_new fun p2 H2 n2 s2 f2 => ?_
    repeat walk_at "w"
    refine w_new fun p3 H3 n3 s3 f3 => ?_
    repeat walk_at "w"
    refine w_dnew ?_
    refine w_new fun p4 H4 n4 s4 f4 => ?_
    repeat walk_at "w"
    refine w_disp fun p5 H5 n5 s5 f5 => ?_
    repeat walk_at "w"
    refine ⟨f5, [(.inl n, .int n)], rfl, by simp, ?_⟩
    refine w_chg fun H6 e6 f6 => ?_
    repeat walk_at "w"
    refine w_new fun p7 H7 n7 s7 f7 => ?_
    repeat walk_at "w"
    refine w_new fun p8 H8 n8 s8 f8 => ?_
    repeat walk_at "w"
    refine w_new fun p9 H9 n9 s9 f9 => ?_
    have s46 : Same H4 H6 := But.new s5 n5 e6
    have s69 : Same H6 H9 := s7.trans (s8.trans s9)
    have s39 : Same H3 H9 := s4.trans (s46.trans s69)
    refine w_addL (s39 _ _ f3) f9 (by rw [hz]; simp) ?_
    refine w_new fun pa Ha na sa fa => ?_
    have hsa : Stm Ha s := sa.stm (s39.stm (s3.stm (s2.stm (s1.stm hs))))
    repeat walk_at "w"
    refine ⟨s, 15, rfl, hsa, by decide, by decide, fun i Hb i0 i1 hsb eb => ?_⟩
    have nas : pa ≠ s := stm_ne (s39.stm (s3.stm (s2.stm (s1.stm hs)))) na
    obtain ⟨v, g1, g2, _⟩ := atI_some (xs := [V.int n, V.int n, V.int n, V.int n, V.bl true, V.bl false, V.non, V.str "", V.str (Str.ofString (toString (n % (10 : Int) ^ (9 : Int).toNat))), V.ref p1, V.ref p2] ++ [V.ref p4, V.ref p5, V.ref p7, V.ref p8]) i0 (by simp; omega)
    refine w_ixL (SqL.of (eb _ _ nas fa)) g1 ?_
    refine q v Hb ?_ hsb ((But.of ((s1.trans (s2.trans s3)).trans (s39.trans sa))).trans eb)
    have key : ∀ (p : Addr) (o : HO), (∀ a b c, o ≠ .lst [.int a, .int b, .int c]) → Ha p = some o → Hb p = some o := fun p o no h => eb _ _ (fun z => by
      obtain ⟨a, b, c, g⟩ := hsa
      rw [z, g] at h
      exact no a b c (Option.some.inj h).symm) h
    have hs3a : Same H3 Ha := s39.trans sa
    rcases List.mem_append.mp g2 with g2 | g2
    · simp only [List.mem_cons, List.not_mem_nil, or_false] at g2
      rcases g2 with rfl | rfl | rfl | rfl | rfl | rfl | rfl | rfl | rfl | rfl | rfl
      · exact .inl rfl
      · exact .inl rfl
      · exact .inl rfl
      · exact .inl rfl
      · exact .inr (.inr ⟨"bool", .inl rfl, ty_bl⟩)
      · exact .inr (.inr ⟨"bool", .inl rfl, ty_bl⟩)
      · exact .inr (.inr ⟨"NoneType", .inr (.inl rfl), ty_non⟩)
      · exact .inr (.inl ⟨[], rfl, by simp, by decide +kernel⟩)
      · obtain ⟨l, e, l1, l2⟩ := digits_name m0 m1
        exact .inr (.inl ⟨l, by rw [← e], l1, l2⟩)
      · exact .inr (.inr ⟨"list", .inr (.inr (.inl rfl)), ty_lst (key _ _ (fun a b c z => by cases z) (hs3a _ _ (s3 _ _ (s2 _ _ f1))))⟩)
      · exact .inr (.inr ⟨"tuple", .inr (.inr (.inr (.inl rfl))), ty_tup (key _ _ (fun a b c z => by cases z) (hs3a _ _ (s3 _ _ f2)))⟩)
    · simp only [List.mem_cons, List.not_mem_nil, or_false] at g2
      rcases g2 with rfl | rfl | rfl | rfl
      · exact .inr (.inr ⟨"dict", .inr (.inr (.inr (.inr rfl))), ty_dic (key _ _ (fun a b c z => by cases z) (sa _ _ (s69 _ _ (s46 _ _ f4))))⟩)
      · exact .inr (.inr ⟨"dict", .inr (.inr (.inr (.inr rfl))), ty_dic (key _ _ (fun a b c z => by cases z) (sa _ _ (s69 _ _ f6)))⟩)
      · exact .inr (.inr ⟨"list", .inr (.inr (.inl rfl)), ty_lst (key _ _ (fun a b c z => by cases z) (sa _ _ (s9 _ _ (s8 _ _ f7))))⟩)
      · exact .inr (.inr ⟨"tuple", .inr (.inr (.inr (.inl rfl))), ty_tup (key _ _ (fun a b c z => by cases z) (sa _ _ (s9 _ _ f8)))⟩)
end

end J
namespace J
open PySem PySem.Spec PyProof.Rows L2

local macro_rules | `(tactic| walk_at "ty") => `(tactic| first
  | with_reducible exact ty_int
  | with_reducible exact ty_bl
  | with_reducible exact ty_str
  | with_reducible exact ty_non
  | ((with_reducible refine' ty_lst ?vv); (case vv => walk_at "tr"))
  | ((with_reducible refine' ty_sqT ?vv); (case vv => walk_at "tr"))
  | ((with_reducible refine' ty_dic ?vv); (case vv => walk_at "tr")))
local macro_rules | `(tactic| walk_at "ix") => `(tactic| first | exact at0 | exact at1 | exact at2 | assumption)
local macro_rules | `(tactic| walk_at "size") => `(tactic| first
  | assumption
  | (show _ < sizeLine; rw [sizeLine_eq]; (try simp only [List.length_cons, List.length_nil, List.length_append, List.length_map]); omega)
  | (show _ ≤ sizeLine; rw [sizeLine_eq]; (try simp only [List.length_cons, List.length_nil, List.length_append, List.length_map]); omega))
local macro_rules | `(tactic| walk_at "side") => `(tactic| first
  | assumption
  | ((with_reducible refine cdw ?_ ?_) <;> omega)
  | omega
  | (exact ⟨by omega, by omega⟩)
  | (exact Or.inl ⟨by omega, by omega⟩)
  | (exact Or.inr ⟨by omega, by omega⟩)
  | decide
  | (simp only [List.length_cons, List.length_nil, List.length_append, List.length_map]; omega)
  | (show _ ≤ _; decide))
local macro_rules | `(tactic| walk_at "as") => `(tactic| with_reducible assumption)
local macro_rules | `(tactic| walk_at "tr") => `(tactic| first
  | with_reducible assumption
  | with_reducible exact upd_same
  | ((with_reducible refine' SqL.of ?hh); (case hh => walk_at "as"))
  | ((with_reducible refine' SqT.of ?hh); (case hh => walk_at "as"))
  | ((with_reducible refine' Same.stm ?ee ?gg); (case ee => walk_at "as"); (case gg => walk_at "tr"))
  | ((with_reducible refine' Same.sqT ?ee ?gg); (case ee => walk_at "as"); (case gg => walk_at "tr"))
  | ((with_reducible refine' Same.sqL ?ee ?gg); (case ee => walk_at "as"); (case gg => walk_at "tr"))
  | ((with_reducible refine' Same.at ?ee ?gg); (case ee => walk_at "as"); (case gg => walk_at "tr"))
  | ((with_reducible refine' But.stm ?ee ?ff ?gg); (case ee => walk_at "as"); (case ff => walk_at "ne"); (case gg => walk_at "tr"))
  | ((with_reducible refine' But.tup ?ee ?ff ?gg); (case ee => walk_at "as"); (case ff => walk_at "tr1"); (case gg => walk_at "tr"))
  | ((with_reducible refine' But.sqT ?ee ?ff ?gg); (case ee => walk_at "as"); (case ff => walk_at "tr1"); (case gg => walk_at "tr"))
  | ((with_reducible refine' But.tupL ?ee ?ff ?gg); (case ee => walk_at "as"); (case ff => walk_at "tr1"); (case gg => walk_at "tr"))
  | ((with_reducible refine' But.sqTL ?ee ?ff ?gg); (case ee => walk_at "as"); (case ff => walk_at "tr1"); (case gg => walk_at "tr"))
  | ((with_reducible refine' But.sqL ?ee ?ff ?gg); (case ee => walk_at "as"); (case ff => walk_at "ne"); (case gg => walk_at "tr"))
  | ((with_reducible refine' But.at ?ee ?ff ?gg); (case ee => walk_at "as"); (case ff => walk_at "ne"); (case gg => walk_at "tr")))
local macro_rules | `(tactic| walk_at "ts") => `(tactic| first
  | with_reducible assumption
  | with_reducible exact TS.refl _
  | ((with_reducible refine' TS.trans ?gg (TS.of ?ee)); (case ee => walk_at "as"); (case gg => walk_at "ts"))
  | ((with_reducible refine' TS.trans ?gg (TS.butS ?ee ?ff)); (case ee => walk_at "as"); (case ff => walk_at "tr1"); (case gg => walk_at "ts"))
  | ((with_reducible refine' TS.trans ?gg (TS.butL ?ee ?ff)); (case ee => walk_at "as"); (case ff => walk_at "tr1"); (case gg => walk_at "ts"))
  | ((with_reducible refine' TS.trans ?gg (TS.butI ?ee ?ff)); (case ee => walk_at "as"); (case ff => walk_at "tr1"); (case gg => walk_at "ts")))
local macro_rules | `(tactic| walk_at "sm") => `(tactic| first
  | with_reducible assumption
  | with_reducible exact Same.refl _
  | ((with_reducible refine' Same.trans ?gg ?ee); (case ee => walk_at "as"); (case gg => walk_at "sm"))
  | ((with_reducible refine' But.new ?gg ?nn ?ee); (case ee => walk_at "as"); (case nn => walk_at "fr"); (case gg => walk_at "sm")))
local macro_rules | `(tactic| walk_at "fr") => `(tactic| first
  | with_reducible assumption
  | ((with_reducible refine' Same.back ?ee ?nn); (case nn => walk_at "as"); (case ee => walk_at "sm"))
  | ((with_reducible refine' But.back ?ee ?ff ?nn); (case nn => walk_at "as"); (case ff => walk_at "ne0"); (case ee => walk_at "bu")))
local macro_rules | `(tactic| walk_at "bu") => `(tactic| first
  | with_reducible assumption
  | with_reducible exact But.refl _ _
  | ((with_reducible refine' But.trans ?gg ?ee); (case ee => walk_at "as"); (case gg => walk_at "bu"))
  | ((with_reducible refine' But.trans ?gg (But.of ?ee)); (case ee => walk_at "as"); (case gg => walk_at "bu"))
  | ((with_reducible refine' But.new2 ?gg ?nn ?ee); (case ee => walk_at "as"); (case nn => walk_at "frB"); (case gg => walk_at "bu")))
local macro_rules | `(tactic| walk_at "frB") => `(tactic| first
  | with_reducible assumption
  | ((with_reducible refine' Same.back ?ee ?nn); (case nn => walk_at "as"); (case ee => walk_at "sm"))
  | ((with_reducible refine' But.back' ?ee ?ff ?nn); (case nn => walk_at "as"); (case ee => walk_at "bu"); (case ff => walk_at "tr1")))
local macro_rules | `(tactic| walk_at "tr1") => `(tactic| first
  | with_reducible assumption
  | ((with_reducible refine' Same.stm ?ee ?gg); (case ee => walk_at "as"); (case gg => walk_at "tr1"))
  | ((with_reducible refine' Same.at ?ee ?gg); (case ee => walk_at "as"); (case gg => walk_at "tr1"))
  | ((with_reducible refine' But.at ?ee ?ff ?gg); (case ee => walk_at "as"); (case ff => walk_at "ne0"); (case gg => walk_at "tr1"))
  | ((with_reducible refine' But.stm ?ee ?ff ?gg); (case ee => walk_at "as"); (case ff => walk_at "ne0"); (case gg => walk_at "tr1")))
local macro_rules | `(tactic| walk_at "ne0") => `(tactic| first
  | with_reducible assumption
  | (with_reducible apply Ne.symm; with_reducible assumption))
local macro_rules | `(tactic| walk_at "ne") => `(tactic| first
  | with_reducible assumption
  | (with_reducible apply Ne.symm; with_reducible assumption)
  | ((with_reducible refine' stm_ne ?hh ?nn); (case nn => walk_at "as"); (case hh => walk_at "tr1"))
  | ((with_reducible refine' ne_of_none ?hh ?nn); (case nn => walk_at "as"); (case hh => walk_at "tr1"))
  | ((with_reducible apply Ne.symm); (with_reducible refine' ne_of_none ?hh ?nn); (case nn => walk_at "as"); (case hh => walk_at "tr1")))
local macro_rules | `(tactic| walk_at "v") => `(tactic| first
  | with_reducible refine w_seq ?_
  | ((with_reducible refine' w_var ?vv ?_); (case vv => exact rfl))
  | with_reducible refine w_c ?_
  | with_reducible refine w_op ?_
  | with_reducible refine w_asg ?_
  | with_reducible refine w_gName ?_
  | with_reducible refine w_ret ?_
  | with_reducible refine w_ifS ?_
  | with_reducible refine w_drop ?_
  | with_reducible refine w_next ?_
  | with_reducible refine w_cons ?_
  | with_reducible refine w_nil ?_
  | with_reducible refine w_call ?_
  | with_reducible refine w_cb ?_
  | with_reducible refine w_rI0 ?_
  | with_reducible refine w_addI ?_
  | with_reducible refine w_eqI ?_
  | with_reducible refine w_neI ?_
  | with_reducible refine w_eqS ?_
  | with_reducible refine w_neS ?_
  | with_reducible refine w_eqB ?_
  | with_reducible refine w_neB ?_
  | with_reducible refine w_chain ?_
  | with_reducible refine w_test ?_
  | with_reducible refine w_tB ?_
  | with_reducible refine w_bl ?_
  | ((with_reducible refine' w_mulI ?vv ?_); (case vv => walk_at "side"))
  | ((with_reducible refine' w_rI ?vv ?_); (case vv => walk_at "side"))
  | with_reducible refine w_int1 ?_
  | with_reducible refine w_int1b ?_
  | with_reducible refine w_tup ?_
  | with_reducible refine w_lst ?_
  | with_reducible refine w_un ?_
  | with_reducible refine w_rU ?_
  | with_reducible refine w_not ?_
  | with_reducible refine w_notV ?_
  | with_reducible refine w_ifE ?_
  | with_reducible refine w_nT ?_
  | with_reducible refine w_nF ?_
  | with_reducible refine iteT ?_
  | with_reducible refine iteF ?_
  | ((with_reducible refine' w_ixT ?vv ?ww ?_); (case vv => walk_at "tr"); (case ww => walk_at "ix"))
  | ((with_reducible refine' w_ixL ?vv ?ww ?_); (case vv => walk_at "tr"); (case ww => walk_at "ix"))
  | with_reducible refine w_gSub ?_
  | ((with_reducible refine' w_setL ?vv ?ww ?_); (case vv => walk_at "tr"); (case ww => first | rfl | decide | assumption))
  | ((with_reducible refine' w_lenL ?vv ?_); (case vv => walk_at "tr"))
  | ((with_reducible refine' w_lenT ?vv ?_); (case vv => walk_at "tr"))
  | with_reducible refine w_max2 ?_
  | with_reducible refine w_min2 ?_
  | with_reducible refine w_bm ?_
  | with_reducible refine w_bm0 ?_
  | ((with_reducible refine' w_tyL ?vv ?_); (case vv => walk_at "tr"))
  | ((with_reducible refine' w_append ?vv ?ww ?_); (case vv => walk_at "tr"); (case ww => walk_at "size"))
  | ((with_reducible refine' w_size ?vv ?_); (case vv => walk_at "size"))
  | with_reducible refine w_forL ?_
  | with_reducible refine w_forT ?_
  | with_reducible refine w_forR1 ?_
  | with_reducible refine w_forR2 ?_
  | with_reducible refine w_lcL ?_
  | with_reducible refine w_lcT ?_
  | with_reducible refine w_lcR1 ?_
  | with_reducible refine w_yes ?_
  | with_reducible refine w_sl ?_
  | with_reducible refine w_noPart ?_
  | with_reducible refine w_part ?_
  | with_reducible refine w_int ?_
  | ((with_reducible refine' w_slL ?vv ?_); (case vv => walk_at "tr"))
  | ((with_reducible refine' w_seqL ?vv ?ww ?_); (case vv => walk_at "tr"); (case ww => rfl))
  | ((with_reducible refine' w_seqT ?vv ?ww ?_); (case vv => walk_at "tr"); (case ww => rfl))
  | with_reducible refine w_gNil ?_
  | with_reducible refine w_gCons ?_
  | with_reducible refine w_forZ ?_
  | with_reducible refine w_forE ?_
  | with_reducible refine w_forV ?_
  | with_reducible refine w_lcZ ?_
  | with_reducible refine w_lcE ?_
  | ((with_reducible refine' w_isi (b := true) ?vv ?ww ?_); (case vv => walk_at "ty"); (case ww => decide +kernel))
  | ((with_reducible refine' w_isi (b := false) ?vv ?ww ?_); (case vv => walk_at "ty"); (case ww => decide +kernel))
  | with_reducible refine w_revL ?_
  | with_reducible refine w_pairN ?_
  | with_reducible refine w_pairC ?_
  | with_reducible refine w_dget ?_
  | with_reducible refine w_met ?_
  | ((with_reducible refine' w_metAt ?vv ?ww ?_); (case vv => walk_at "tr"); (case ww => rfl))
  | with_reducible refine w_mkI ?_
  | with_reducible refine w_fld ?_
  | ((with_reducible refine' w_fldAt ?vv ?cc ?nn ?ww ?_); (case vv => walk_at "tr"); (case cc => walk_at "cls"); (case nn => walk_at "na"); (case ww => rfl))
  | with_reducible refine w_sfld ?_
  | ((with_reducible refine' w_sfldAt ?vv ?cc ?nn ?ll ?ee ?_); (case vv => walk_at "tr"); (case cc => walk_at "cls"); (case nn => walk_at "na"); (case ll => simp); (case ee => rfl))
  | ((with_reducible refine' w_tupL ?vv ?_); (case vv => walk_at "tr"))
  | ((with_reducible refine' w_tupT ?vv ?_); (case vv => walk_at "tr"))
  | ((with_reducible refine' w_listL ?vv ?_); (case vv => walk_at "tr"))
  | ((with_reducible refine' w_listT ?vv ?_); (case vv => walk_at "tr"))
  | with_reducible refine w_tyS ?_
  | with_reducible refine w_retN ?_
  | with_reducible refine w_break ?_
  | with_reducible refine w_cont ?_)
local macro_rules | `(tactic| walk_at "w") => `(tactic| first
  | walk_at "v"
  | with_reducible refine w_or ?_
  | with_reducible refine w_and ?_
  | with_reducible refine w_andV ?_
  | with_reducible refine w_orV ?_)
local macro_rules | `(tactic| walk_at "wd") => `(tactic| first
  | walk_at "w"
  | ((with_reducible refine' w_decT ?vv ?_); (case vv => decide +kernel))
  | ((with_reducible refine' w_decF ?vv ?_); (case vv => decide +kernel)))
local macro_rules | `(tactic| walk_at "tz") => `(tactic| (intro S z; (repeat walk_at "w"); exact z))
local macro_rules | `(tactic| walk_at "wf") => `(tactic| first
  | walk_at "wd"
  | ((with_reducible refine' w_decF ?vv ?_); (case vv => with_reducible assumption)))
open SX
theorem cut_any (l : List Nat) (lo hi : Option Int) : ∃ m, cutS (S l) lo hi = S m ∧ m.length ≤ l.length ∧ ∀ c ∈ m, c ∈ l := by
  refine ⟨_, rfl, ?_, fun c hc => List.mem_of_mem_drop (List.mem_of_mem_take hc)⟩
  rw [List.length_take, List.length_drop]
  show min _ (l.length - _) ≤ _
  omega
theorem w_slAny {K : PySem.W.Frag} {H : Hp} {Q : VK} {l : List Nat} {lo hi : Option Int} (h : l.length ≤ sizeLine) (k : ∀ m, m.length ≤ l.length → (∀ c ∈ m, c ∈ l) → Q (.str (S m)) H) : rSlAny K (.str (S l)) lo hi H Q := by
  obtain ⟨m, e, h1, h2⟩ := cut_any l lo hi
  exact w_slS (by rw [S_len]; exact h) (by rw [e]; exact k m h1 h2)
def fineW (z : Str) : Bool := (TL.tl z).all (· < 256) && decide ((TL.tl z).length ≤ 6)
theorem own_fine {z : Str} (h : z ∈ own) : ∃ u, z = S u ∧ (∀ c ∈ u, c < 256) ∧ u.length ≤ 6 := by
  have e : own.all fineW = true := by decide +kernel
  have f := List.all_eq_true.mp e z h
  unfold fineW at f
  rw [Bool.and_eq_true, decide_eq_true_eq] at f
  exact ⟨TL.tl z, (TL.mk_tl z).symm, fun c hc => by simpa using List.all_eq_true.mp f.1 c hc, f.2⟩
theorem str_at {K : PySem.W.Frag} {H : Hp} {Q : VK} {p : Addr} {ys : List Str} {i : Int} (h : SqL K H p (ys.map V.str)) (h0 : 0 ≤ i) (h1 : i < ys.length) (k : ∀ y ∈ ys, Q (.str y) H) : rIx K (.ref p) (.int i) H Q := by
  obtain ⟨v, e1, e2, _⟩ := atI_some (xs := ys.map V.str) h0 (by rw [List.length_map]; exact h1)
  obtain ⟨y, hy, rfl⟩ := List.mem_map.mp e2
  exact w_ixL h e1 (k y hy)
theorem w_ixAny {K : PySem.W.Frag} {H : Hp} {Q : VK} {l : List Nat} {d : Int} (h : l.length ≤ sizeLine) (h0 : 0 ≤ d) (h1 : d < l.length) (k : ∀ c ∈ l, Q (.str (S [c])) H) : rIx K (.str (S l)) (.int d) H Q :=
  w_ixC h h0 (List.getElem?_eq_getElem (show d.toNat < l.length by omega)) (k _ (List.getElem_mem _))
theorem w_ixLit {K : PySem.W.Frag} {H : Hp} {Q : VK} {z : Str} {d : Int} (h : (decide ((TL.tl z).length ≤ 100) && (TL.tl z).all (· < 256)) = true) (h0 : 0 ≤ d) (h1 : d < ((TL.tl z).length : Int)) (k : ∀ c, c < 256 → Q (.str (S [c])) H) : rIx K (.str z) (.int d) H Q := by
  rw [Bool.and_eq_true, decide_eq_true_eq] at h
  have hz : sizeLine = 16777216 := sizeLine_eq
  rw [show z = S (TL.tl z) from (TL.mk_tl z).symm]
  exact w_ixAny (by omega) h0 h1 fun c hc => k c (by simpa using List.all_eq_true.mp h.2 c hc)
theorem w_cutN {σ : L2.St} {H : Hp} {nx : L2.St → Hp → Prop} {rt : VK} {bk ct : L2.St → Hp → Prop} {T : L2.TS} (Φ : L2.St → Hp → Prop) (hN : ∀ σ' H', Φ σ' H' → nx σ' H') (k : ∀ N : L2.St → Hp → Prop, (∀ σ' H', Φ σ' H' → N σ' H') → T ⟨N, rt, bk, ct⟩ σ H) : T ⟨nx, rt, bk, ct⟩ σ H := k nx hN
section
variable {P : Program} {w : World} {K : PySem.W.Frag} {mg : Str → Option Value}
theorem ok_law_text [c : Facts K mg] (G__law_letters : Fn P w K mg "_law_letters" 2 ["stream"] (spLetters)) (G__law_own : Fn P w K mg "_law_own" 1 [] (spOwn)) (G__law_take : Fn P w K mg "_law_take" 1 ["stream", "many"] (spTake)) : Fn P w K mg "_law_text" 3 ["stream"] (spText1) := by
  obtain ⟨fd, F⟩ := c.d_law_text
  refine Fn.mk' F c.g_law_text sc_law_text (k := 2) (fun vs H Q E h => ?_) (fun _ _ _ _ _ _ us hl => match us, hl with | [_], _ => rfl) (fun base cdv A outer s H vs Q E hr h => ?_)
  · exact len_law_text h
  · have nd := sc_law_text.nd
    have hu := hu_of hr
    have hr__law_letters : Room 2 _ := hr.mono (by omega)
    have hr__law_own : Room 1 _ := hr.mono (by omega)
    have hr__law_take : Room 1 _ := hr.mono (by omega)
    refine ⟨_, (pss_cons (ps_set (i := 1) nd rfl (Or.inl rfl) (pe_ix (ix_any (K := K) rfl) (pe_fn0 G__law_own hr__law_own (by rfl)) (pe_fn G__law_take hr__law_take (by rfl) (pa_cons (pv 0) (pa_cons pe_int pa_nil))) (fun _ _ => rfl)))
      (pss_cons (ps_set (i := 2) nd rfl (Or.inl rfl) (pe_ix (ix_any (K := K) rfl) pe_str (pe_fn G__law_take hr__law_take (by rfl) (pa_cons (pv 0) (pa_cons pe_int pa_nil))) (fun _ _ => rfl)))
      (pss_cons (ps_set (i := 3) nd rfl (Or.inl rfl) (pe_fn G__law_take hr__law_take (by rfl) (pa_cons (pv 0) (pa_cons pe_int pa_nil))))
      (pss_cons (ps_set (i := 4) nd rfl (Or.inl rfl) (pe_ix (ix_any (K := K) rfl) (pe_fn0 G__law_own hr__law_own (by rfl)) (pe_fn G__law_take hr__law_take (by rfl) (pa_cons (pv 0) (pa_cons pe_int pa_nil))) (fun _ _ => rfl)))
      (pss_cons (ps_set (i := 5) nd rfl (Or.inl rfl) (pe_ix (ix_any (K := K) rfl) (pe_lst (pa_cons (pv 1) (pa_cons (pe_op (op_addA (K := K) rfl) (pv 1) (pv 2)) (pa_cons (pe_op (op_addA (K := K) rfl) (pv 2) (pv 1)) (pa_cons (pe_slice (sl_any (K := K) rfl) (pv 1) (po_some pe_int) po_none) (pa_cons (pe_slice (sl_any (K := K) rfl) (pv 1) po_none (po_some (pe_un un_neg pe_int))) (pa_cons (pe_op (op_addA (K := K) rfl) (pv 1) (pv 4)) (pa_cons (pv 2) pa_nil)))))))) (pe_callB (call_min2A rfl) (by rfl) c.f_min boot_min (pa_cons (pv 3) (pa_cons pe_int pa_nil))) (fun _ _ => rfl)))
      (pss_cons (ps_if (pt_cmpR (op_eqA (K := K) rfl hr.units) (pv 3) pe_int (nomark _)) (pss_one (ps_set (i := 5) nd rfl (Or.inl rfl) (pe_fn G__law_letters hr__law_letters (by rfl) (pa_cons (pv 0) pa_nil)))) pss_nil)
      (pss_cons (ps_if (pt_cmpR (op_eqA (K := K) rfl hr.units) (pe_fn G__law_take hr__law_take (by rfl) (pa_cons (pv 0) (pa_cons pe_int pa_nil))) pe_int (nomark _)) (pss_cons (ps_set (i := 6) nd rfl (Or.inl rfl) (pe_fn G__law_take hr__law_take (by rfl) (pa_cons (pv 0) (pa_cons (pe_op (op_addA (K := K) rfl) (pe_callB (call_lenA (K := K) rfl) (by rfl) c.f_len boot_len (pa_cons (pv 5) pa_nil)) pe_int) pa_nil))))
      (pss_one (ps_set (i := 5) nd rfl (Or.inl rfl) (pe_op (op_addA (K := K) rfl) (pe_op (op_addA (K := K) rfl) (pe_slice (sl_any (K := K) rfl) (pv 5) po_none (po_some (pv 6))) (pe_ix (ix_any (K := K) rfl) pe_str (pe_fn G__law_take hr__law_take (by rfl) (pa_cons (pv 0) (pa_cons pe_int pa_nil))) (fun _ _ => rfl))) (pe_slice (sl_any (K := K) rfl) (pv 5) (po_some (pv 6)) po_none))))) pss_nil)
      (pss_one (ps_ret (pv 5)))))))))), ?_⟩
    try dsimp only [cxOf, Cx.nox, Cx.wish]
    obtain ⟨s, rfl, hs, q⟩ := h
    have hz : sizeLine = 16777216 := sizeLine_eq
    repeat walk_at "w"
    refine ⟨rfl, fun p1 H1 f1 s1 n1 => ?_⟩
    have hs1 := s1.stm hs
    repeat walk_at "w"
    refine ⟨s, 22, rfl, hs1, by decide, by decide, fun i H2 i0 i1 hs2 e2 => ?_⟩
    have np1 : p1 ≠ s := stm_ne hs n1
    refine str_at (ys := own) (SqL.of (e2 _ _ np1 f1)) i0 i1 fun wo hwo => ?_
    obtain ⟨u, rfl, u1, u2⟩ := own_fine hwo
    repeat walk_at "w"
    refine ⟨s, 26, rfl, hs2, by decide, by decide, fun d H3 d0 d1 hs3 e3 => ?_⟩
    rw [S_of' "abcdefghijklmnopqrstuvwxyz" ((List.range 26).map (· + 97)) (by decide +kernel)]
    refine w_ixAny (by decide +kernel) d0 d1 fun c hc => ?_
    have hc2 : c < 256 := by
      obtain ⟨a, ha, rfl⟩ := List.mem_map.mp hc
      rw [List.mem_range] at ha
      omega
    repeat walk_at "w"
    refine ⟨s, 8, rfl, hs3, by decide, by decide, fun way H4 y0 y1 hs4 e4 => ?_⟩
    repeat walk_at "w"
    refine ⟨rfl, fun p5 H5 f5 s5 n5 => ?_⟩
    have hs5 := s5.stm hs4
    repeat walk_at "w"
    refine ⟨s, 22, rfl, hs5, by decide, by decide, fun j H6 j0 j1 hs6 e6 => ?_⟩
    refine str_at (ys := own) (SqL.of (e6 _ _ (stm_ne hs4 n5) f5)) j0 j1 fun wo hwo => ?_
    obtain ⟨u', rfl, u1', u2'⟩ := own_fine hwo
    repeat walk_at "w"
    refine w_addC (by rw [hz]; (try simp only [List.length_cons, List.length_nil]); omega) ?_
    repeat walk_at "w"
    refine w_addC (by rw [hz]; (try simp only [List.length_cons, List.length_nil]); omega) ?_
    repeat walk_at "w"
    refine w_slAny (by omega) fun a a1 a2 => ?_
    repeat walk_at "w"
    refine w_slAny (by omega) fun b b1 b2 => ?_
    repeat walk_at "w"
    refine w_addC (by rw [hz]; (try simp only [List.length_cons, List.length_nil]); omega) ?_
    repeat walk_at "w"
    refine w_new fun p7 H7 n7 s7 f7 => ?_
    have hs7 := s7.stm hs6
    repeat walk_at "w"
    refine str_at (ys := [S u, S (u ++ [c]), S ([c] ++ u), S a, S b, S (u ++ u'), S [c]]) (SqL.of f7) (by omega) (by show min way 6 < 7; omega) fun tx htx => ?_
    obtain ⟨l, rfl, l1, l2⟩ : ∃ l, tx = S l ∧ l.length ≤ 12 ∧ ∀ c ∈ l, c < 256 := by
      simp only [List.mem_cons, List.not_mem_nil, or_false] at htx
      rcases htx with rfl | rfl | rfl | rfl | rfl | rfl | rfl
      · exact ⟨_, rfl, by omega, u1⟩
      · exact ⟨_, rfl, by simp; omega, fun x hx => by rcases List.mem_append.mp hx with g | g; exact u1 x g; rw [List.mem_singleton.mp g]; exact hc2⟩
      · exact ⟨_, rfl, by simp; omega, fun x hx => by rcases List.mem_append.mp hx with g | g; rw [List.mem_singleton.mp g]; exact hc2; exact u1 x g⟩
      · exact ⟨_, rfl, by omega, fun x hx => u1 x (a2 x hx)⟩
      · exact ⟨_, rfl, by omega, fun x hx => u1 x (b2 x hx)⟩
      · exact ⟨_, rfl, by simp; omega, fun x hx => by rcases List.mem_append.mp hx with g | g; exact u1 x g; exact u1' x g⟩
      · exact ⟨_, rfl, by simp, fun x hx => by rw [List.mem_singleton.mp hx]; exact hc2⟩
    have b7 : But s H H7 := (((But.of s1).trans e2).trans e3).trans ((e4.trans (But.of s5)).trans (e6.trans (But.of s7)))
    refine w_gName ?_
    refine w_seq ?_
    refine w_cutN (fun σ' H' => ∃ l at', σ' = [some (.ref s), some (.str (S u)), some (.str (S [c])), some (.int way), some (.str (S u')), some (.str (S l)), at'] ∧ l.length ≤ 12 ∧ (∀ c ∈ l, c < 256) ∧ Stm H' s ∧ But s H H') (fun σ' H' hp => ?_) (fun N hN => ?_)
    · obtain ⟨l, at', rfl, l1, l2, hs', b'⟩ := hp
      refine w_seq ?_
      refine w_cutN (fun σ' H' => ∃ l at', σ' = [some (.ref s), some (.str (S u)), some (.str (S [c])), some (.int way), some (.str (S u')), some (.str (S l)), at'] ∧ l.length ≤ 30 ∧ (∀ c ∈ l, c < 256) ∧ Stm H' s ∧ But s H H') (fun σ' H' hp => ?_) (fun N hN => ?_)
      · obtain ⟨l, at', rfl, l1, l2, hs', b'⟩ := hp
        repeat walk_at "w"
        exact q l _ (by omega) l2 hs' b'
      · repeat walk_at "w"
        refine ⟨s, 4, rfl, hs', by decide, by decide, fun r H8 r0 r1 hs8 e8 => ?_⟩
        repeat walk_at "w"
        refine ite2 (fun hk => ?_) (fun hk => ?_)
        · repeat walk_at "w"
          refine w_lenC (by omega) ?_
          repeat walk_at "w"
          refine ⟨s, _, rfl, hs8, by omega, by omega, fun at1 H9 a0 a1' hs9 e9 => ?_⟩
          repeat walk_at "w"
          refine w_slAny (by omega) fun m m1 m2 => ?_
          repeat walk_at "w"
          refine ⟨s, 13, rfl, hs9, by decide, by decide, fun d2 H10 g0 g1 hs10 e10 => ?_⟩
          refine w_ixLit (by decide +kernel) g0 (by rw [show (13 : Int) = ((13 : Nat) : Int) from rfl] at g1; exact Int.lt_of_lt_of_le g1 (by decide +kernel)) fun x hx2 => ?_
          refine w_addC (by rw [hz]; (try simp only [List.length_cons, List.length_nil]); omega) ?_
          repeat walk_at "w"
          refine w_slAny (by omega) fun m' m1' m2' => ?_
          refine w_addC (by rw [hz]; simp only [List.length_append, List.length_cons, List.length_nil]; omega) ?_
          repeat walk_at "w"
          refine hN _ _ ⟨m ++ [x] ++ m', _, rfl, by simp only [List.length_append, List.length_cons, List.length_nil]; omega, fun y hy => ?_, hs10, b'.trans (e8.trans (e9.trans e10))⟩
          rcases List.mem_append.mp hy with g | g
          · rcases List.mem_append.mp g with g | g
            · exact l2 y (m2 y g)
            · rw [List.mem_singleton.mp g]; exact hx2
          · exact l2 y (m2' y g)
        · repeat walk_at "w"
          exact hN _ _ ⟨l, _, rfl, by omega, l2, hs8, b'.trans e8⟩
    · repeat walk_at "w"
      refine ite2 (fun hk => ?_) (fun hk => ?_)
      · repeat walk_at "w"
        refine ⟨s, rfl, hs7, fun m H8 m1 m2 hs8 e8 => ?_⟩
        repeat walk_at "w"
        exact hN _ _ ⟨m, _, rfl, by omega, m2, hs8, b7.trans e8⟩
      · repeat walk_at "w"
        exact hN _ _ ⟨l, _, rfl, l1, l2, hs7, b7⟩
end

end J
namespace J
open PySem PySem.Spec PyProof.Rows L2

local macro_rules | `(tactic| walk_at "ty") => `(tactic| first
  | with_reducible exact ty_int
  | with_reducible exact ty_bl
  | with_reducible exact ty_str
  | with_reducible exact ty_non
  | ((with_reducible refine' ty_lst ?vv); (case vv => walk_at "tr"))
  | ((with_reducible refine' ty_sqT ?vv); (case vv => walk_at "tr"))
  | ((with_reducible refine' ty_dic ?vv); (case vv => walk_at "tr")))
local macro_rules | `(tactic| walk_at "ix") => `(tactic| first | exact at0 | exact at1 | exact at2 | assumption)
local macro_rules | `(tactic| walk_at "size") => `(tactic| first
  | assumption
  | (show _ < sizeLine; rw [sizeLine_eq]; (try simp only [List.length_cons, List.length_nil, List.length_append, List.length_map]); omega)
  | (show _ ≤ sizeLine; rw [sizeLine_eq]; (try simp only [List.length_cons, List.length_nil, List.length_append, List.length_map]); omega))
local macro_rules | `(tactic| walk_at "side") => `(tactic| first
  | assumption
  | ((with_reducible refine cdw ?_ ?_) <;> omega)
  | omega
  | (exact ⟨by omega, by omega⟩)
  | (exact Or.inl ⟨by omega, by omega⟩)
  | (exact Or.inr ⟨by omega, by omega⟩)
  | decide
  | (simp only [List.length_cons, List.length_nil, List.length_append, List.length_map]; omega)
  | (show _ ≤ _; decide))
local macro_rules | `(tactic| walk_at "as") => `(tactic| with_reducible assumption)
local macro_rules | `(tactic| walk_at "tr") => `(tactic| first
  | with_reducible assumption
  | with_reducible exact upd_same
  | ((with_reducible refine' SqL.of ?hh); (case hh => walk_at "as"))
  | ((with_reducible refine' SqT.of ?hh); (case hh => walk_at "as"))
  | ((with_reducible refine' Same.stm ?ee ?gg); (case ee => walk_at "as"); (case gg => walk_at "tr"))
  | ((with_reducible refine' Same.sqT ?ee ?gg); (case ee => walk_at "as"); (case gg => walk_at "tr"))
  | ((with_reducible refine' Same.sqL ?ee ?gg); (case ee => walk_at "as"); (case gg => walk_at "tr"))
  | ((with_reducible refine' Same.at ?ee ?gg); (case ee => walk_at "as"); (case gg => walk_at "tr"))
  | ((with_reducible refine' But.stm ?ee ?ff ?gg); (case ee => walk_at "as"); (case ff => walk_at "ne"); (case gg => walk_at "tr"))
  | ((with_reducible refine' But.tup ?ee ?ff ?gg); (case ee => walk_at "as"); (case ff => walk_at "tr1"); (case gg => walk_at "tr"))
  | ((with_reducible refine' But.sqT ?ee ?ff ?gg); (case ee => walk_at "as"); (case ff => walk_at "tr1"); (case gg => walk_at "tr"))
  | ((with_reducible refine' But.tupL ?ee ?ff ?gg); (case ee => walk_at "as"); (case ff => walk_at "tr1"); (case gg => walk_at "tr"))
  | ((with_reducible refine' But.sqTL ?ee ?ff ?gg); (case ee => walk_at "as"); (case ff => walk_at "tr1"); (case gg => walk_at "tr"))
  | ((with_reducible refine' But.sqL ?ee ?ff ?gg); (case ee => walk_at "as"); (case ff => walk_at "ne"); (case gg => walk_at "tr"))
  | ((with_reducible refine' But.at ?ee ?ff ?gg); (case ee => walk_at "as"); (case ff => walk_at "ne"); (case gg => walk_at "tr")))
local macro_rules | `(tactic| walk_at "ts") => `(tactic| first
  | with_reducible assumption
  | with_reducible exact TS.refl _
  | ((with_reducible refine' TS.trans ?gg (TS.of ?ee)); (case ee => walk_at "as"); (case gg => walk_at "ts"))
  | ((with_reducible refine' TS.trans ?gg (TS.butS ?ee ?ff)); (case ee => walk_at "as"); (case ff => walk_at "tr1"); (case gg => walk_at "ts"))
  | ((with_reducible refine' TS.trans ?gg (TS.butL ?ee ?ff)); (case ee => walk_at "as"); (case ff => walk_at "tr1"); (case gg => walk_at "ts"))
  | ((with_reducible refine' TS.trans ?gg (TS.butI ?ee ?ff)); (case ee => walk_at "as"); (case ff => walk_at "tr1"); (case gg => walk_at "ts")))
local macro_rules | `(tactic| walk_at "sm") => `(tactic| first
  | with_reducible assumption
  | with_reducible exact Same.refl _
  | ((with_reducible refine' Same.trans ?gg ?ee); (case ee => walk_at "as"); (case gg => walk_at "sm"))
  | ((with_reducible refine' But.new ?gg ?nn ?ee); (case ee => walk_at "as"); (case nn => walk_at "fr"); (case gg => walk_at "sm")))
local macro_rules | `(tactic| walk_at "fr") => `(tactic| first
  | with_reducible assumption
  | ((with_reducible refine' Same.back ?ee ?nn); (case nn => walk_at "as"); (case ee => walk_at "sm"))
  | ((with_reducible refine' But.back ?ee ?ff ?nn); (case nn => walk_at "as"); (case ff => walk_at "ne0"); (case ee => walk_at "bu")))
local macro_rules | `(tactic| walk_at "bu") => `(tactic| first
  | with_reducible assumption
  | with_reducible exact But.refl _ _
  | ((with_reducible refine' But.trans ?gg ?ee); (case ee => walk_at "as"); (case gg => walk_at "bu"))
  | ((with_reducible refine' But.trans ?gg (But.of ?ee)); (case ee => walk_at "as"); (case gg => walk_at "bu"))
  | ((with_reducible refine' But.new2 ?gg ?nn ?ee); (case ee => walk_at "as"); (case nn => walk_at "frB"); (case gg => walk_at "bu")))
local macro_rules | `(tactic| walk_at "frB") => `(tactic| first
  | with_reducible assumption
  | ((with_reducible refine' Same.back ?ee ?nn); (case nn => walk_at "as"); (case ee => walk_at "sm"))
  | ((with_reducible refine' But.back' ?ee ?ff ?nn); (case nn => walk_at "as"); (case ee => walk_at "bu"); (case ff => walk_at "tr1")))
local macro_rules | `(tactic| walk_at "tr1") => `(tactic| first
  | with_reducible assumption
  | ((with_reducible refine' Same.stm ?ee ?gg); (case ee => walk_at "as"); (case gg => walk_at "tr1"))
  | ((with_reducible refine' Same.at ?ee ?gg); (case ee => walk_at "as"); (case gg => walk_at "tr1"))
  | ((with_reducible refine' But.at ?ee ?ff ?gg); (case ee => walk_at "as"); (case ff => walk_at "ne0"); (case gg => walk_at "tr1"))
  | ((with_reducible refine' But.stm ?ee ?ff ?gg); (case ee => walk_at "as"); (case ff => walk_at "ne0"); (case gg => walk_at "tr1")))
local macro_rules | `(tactic| walk_at "ne0") => `(tactic| first
  | with_reducible assumption
  | (with_reducible apply Ne.symm; with_reducible assumption))
local macro_rules | `(tactic| walk_at "ne") => `(tactic| first
  | with_reducible assumption
  | (with_reducible apply Ne.symm; with_reducible assumption)
  | ((with_reducible refine' stm_ne ?hh ?nn); (case nn => walk_at "as"); (case hh => walk_at "tr1"))
  | ((with_reducible refine' ne_of_none ?hh ?nn); (case nn => walk_at "as"); (case hh => walk_at "tr1"))
  | ((with_reducible apply Ne.symm); (with_reducible refine' ne_of_none ?hh ?nn); (case nn => walk_at "as"); (case hh => walk_at "tr1")))
local macro_rules | `(tactic| walk_at "v") => `(tactic| first
  | with_reducible refine w_seq ?_
  | ((with_reducible refine' w_var ?vv ?_); (case vv => exact rfl))
  | with_reducible refine w_c ?_
  | with_reducible refine w_op ?_
  | with_reducible refine w_asg ?_
  | with_reducible refine w_gName ?_
  | with_reducible refine w_ret ?_
  | with_reducible refine w_ifS ?_
  | with_reducible refine w_drop ?_
  | with_reducible refine w_next ?_
  | with_reducible refine w_cons ?_
  | with_reducible refine w_nil ?_
  | with_reducible refine w_call ?_
  | with_reducible refine w_cb ?_
  | with_reducible refine w_rI0 ?_
  | with_reducible refine w_addI ?_
  | with_reducible refine w_eqI ?_
  | with_reducible refine w_neI ?_
  | with_reducible refine w_eqS ?_
  | with_reducible refine w_neS ?_
  | with_reducible refine w_eqB ?_
  | with_reducible refine w_neB ?_
  | with_reducible refine w_chain ?_
  | with_reducible refine w_test ?_
  | with_reducible refine w_tB ?_
  | with_reducible refine w_bl ?_
  | ((with_reducible refine' w_mulI ?vv ?_); (case vv => walk_at "side"))
  | ((with_reducible refine' w_rI ?vv ?_); (case vv => walk_at "side"))
  | with_reducible refine w_int1 ?_
  | with_reducible refine w_int1b ?_
  | with_reducible refine w_tup ?_
  | with_reducible refine w_lst ?_
  | with_reducible refine w_un ?_
  | with_reducible refine w_rU ?_
  | with_reducible refine w_not ?_
  | with_reducible refine w_notV ?_
  | with_reducible refine w_ifE ?_
  | with_reducible refine w_nT ?_
  | with_reducible refine w_nF ?_
  | with_reducible refine iteT ?_
  | with_reducible refine iteF ?_
  | ((with_reducible refine' w_ixT ?vv ?ww ?_); (case vv => walk_at "tr"); (case ww => walk_at "ix"))
  | ((with_reducible refine' w_ixL ?vv ?ww ?_); (case vv => walk_at "tr"); (case ww => walk_at "ix"))
  | with_reducible refine w_gSub ?_
  | ((with_reducible refine' w_setL ?vv ?ww ?_); (case vv => walk_at "tr"); (case ww => first | rfl | decide | assumption))
  | ((with_reducible refine' w_lenL ?vv ?_); (case vv => walk_at "tr"))
  | ((with_reducible refine' w_lenT ?vv ?_); (case vv => walk_at "tr"))
  | with_reducible refine w_max2 ?_
  | with_reducible refine w_min2 ?_
  | with_reducible refine w_bm ?_
  | with_reducible refine w_bm0 ?_
  | ((with_reducible refine' w_tyL ?vv ?_); (case vv => walk_at "tr"))
  | ((with_reducible refine' w_append ?vv ?ww ?_); (case vv => walk_at "tr"); (case ww => walk_at "size"))
  | ((with_reducible refine' w_size ?vv ?_); (case vv => walk_at "size"))
  | with_reducible refine w_forL ?_
  | with_reducible refine w_forT ?_
  | with_reducible refine w_forR1 ?_
  | with_reducible refine w_forR2 ?_
  | with_reducible refine w_lcL ?_
  | with_reducible refine w_lcT ?_
  | with_reducible refine w_lcR1 ?_
  | with_reducible refine w_yes ?_
  | with_reducible refine w_sl ?_
  | with_reducible refine w_noPart ?_
  | with_reducible refine w_part ?_
  | with_reducible refine w_int ?_
  | ((with_reducible refine' w_slL ?vv ?_); (case vv => walk_at "tr"))
  | ((with_reducible refine' w_seqL ?vv ?ww ?_); (case vv => walk_at "tr"); (case ww => rfl))
  | ((with_reducible refine' w_seqT ?vv ?ww ?_); (case vv => walk_at "tr"); (case ww => rfl))
  | with_reducible refine w_gNil ?_
  | with_reducible refine w_gCons ?_
  | with_reducible refine w_forZ ?_
  | with_reducible refine w_forE ?_
  | with_reducible refine w_forV ?_
  | with_reducible refine w_lcZ ?_
  | with_reducible refine w_lcE ?_
  | ((with_reducible refine' w_isi (b := true) ?vv ?ww ?_); (case vv => walk_at "ty"); (case ww => decide +kernel))
  | ((with_reducible refine' w_isi (b := false) ?vv ?ww ?_); (case vv => walk_at "ty"); (case ww => decide +kernel))
  | with_reducible refine w_revL ?_
  | with_reducible refine w_pairN ?_
  | with_reducible refine w_pairC ?_
  | with_reducible refine w_dget ?_
  | with_reducible refine w_met ?_
  | ((with_reducible refine' w_metAt ?vv ?ww ?_); (case vv => walk_at "tr"); (case ww => rfl))
  | with_reducible refine w_mkI ?_
  | with_reducible refine w_fld ?_
  | ((with_reducible refine' w_fldAt ?vv ?cc ?nn ?ww ?_); (case vv => walk_at "tr"); (case cc => walk_at "cls"); (case nn => walk_at "na"); (case ww => rfl))
  | with_reducible refine w_sfld ?_
  | ((with_reducible refine' w_sfldAt ?vv ?cc ?nn ?ll ?ee ?_); (case vv => walk_at "tr"); (case cc => walk_at "cls"); (case nn => walk_at "na"); (case ll => simp); (case ee => rfl))
  | ((with_reducible refine' w_tupL ?vv ?_); (case vv => walk_at "tr"))
  | ((with_reducible refine' w_tupT ?vv ?_); (case vv => walk_at "tr"))
  | ((with_reducible refine' w_listL ?vv ?_); (case vv => walk_at "tr"))
  | ((with_reducible refine' w_listT ?vv ?_); (case vv => walk_at "tr"))
  | with_reducible refine w_tyS ?_
  | with_reducible refine w_retN ?_
  | with_reducible refine w_break ?_
  | with_reducible refine w_cont ?_)
local macro_rules | `(tactic| walk_at "w") => `(tactic| first
  | walk_at "v"
  | with_reducible refine w_or ?_
  | with_reducible refine w_and ?_
  | with_reducible refine w_andV ?_
  | with_reducible refine w_orV ?_)
local macro_rules | `(tactic| walk_at "wd") => `(tactic| first
  | walk_at "w"
  | ((with_reducible refine' w_decT ?vv ?_); (case vv => decide +kernel))
  | ((with_reducible refine' w_decF ?vv ?_); (case vv => decide +kernel)))
local macro_rules | `(tactic| walk_at "tz") => `(tactic| (intro S z; (repeat walk_at "w"); exact z))
local macro_rules | `(tactic| walk_at "wf") => `(tactic| first
  | walk_at "wd"
  | ((with_reducible refine' w_decF ?vv ?_); (case vv => with_reducible assumption)))
open SX
theorem tyx_sm {K : PySem.W.Frag} {H H' : Hp} {v : V} {t : Value} (e : Same H H') (h : TyX K H v t) : TyX K H' v t := by
  cases h with
  | base b =>
    refine .base ?_
    cases b with
    | non => exact .non
    | bl x => exact .bl x
    | int i => exact .int i
    | str x => exact .str x
    | flt x => exact .flt x
    | lst g => exact .lst (e _ _ g)
    | frz g => exact .frz (e _ _ g)
    | tup g => exact .tup (e _ _ g)
    | dK g => exact .dK (e _ _ g)
    | dT g => exact .dT (e _ _ g)
    | ins g a b c d f => exact .ins (e _ _ g) a b c d f
  | byt b => exact .byt b
  | set g => exact .set (e _ _ g)
  | kList g c => exact .kList g c
  | kTuple g c => exact .kTuple g c
  | kDict g c => exact .kDict g c
  | fTuple g => exact .fTuple (e _ _ g)
  | fDict g => exact .fDict (e _ _ g)
/-- the drawn thing, told apart -/
def Thw (K : PySem.W.Frag) (H : Hp) (n : Int) (v : V) : Option Int → Prop
  | some m => m = n ∧ v = .int n
  | none => (∃ l, v = .str (S l) ∧ l.length ≤ 1000 ∧ nameB l = false) ∨ ∃ t, Oth t ∧ TyX K H v (.type t)
theorem Thw.th {K : PySem.W.Frag} {H : Hp} {n : Int} {v : V} {wh : Option Int} (h : Thw K H n v wh) : Th K H v wh := by
  cases wh with
  | some m => obtain ⟨rfl, rfl⟩ := h; rfl
  | none =>
    rcases h with ⟨l, rfl, _⟩ | h
    · exact .inl ⟨_, rfl⟩
    · exact .inr h
theorem Thw.nm {K : PySem.W.Frag} {H : Hp} {n : Int} {v : V} {wh : Option Int} {Q E} (h : Thw K H n v wh) (k : ∀ H', Same H H' → Q (.bl false) H') : spName K [v] H Q E := by
  cases wh with
  | some m => obtain ⟨rfl, rfl⟩ := h; exact ⟨_, rfl, .inr ⟨"int", .inl rfl, ty_int, k _ (Same.refl _)⟩⟩
  | none =>
    rcases h with ⟨l, rfl, h1, h2⟩ | ⟨t, h1, h2⟩
    · exact ⟨_, rfl, .inl ⟨l, rfl, h1, fun H' e => by rw [h2]; exact k _ e⟩⟩
    · exact ⟨_, rfl, .inr ⟨t, .inr h1, h2, k _ (Same.refl _)⟩⟩
theorem Thw.sm {K : PySem.W.Frag} {H H' : Hp} {n : Int} {v : V} {wh : Option Int} (h : Thw K H n v wh) (e : Same H H') : Thw K H' n v wh := by
  cases wh with
  | some m => exact h
  | none =>
    rcases h with h | ⟨t, h1, h2⟩
    · exact .inl h
    · exact .inr ⟨t, h1, tyx_sm e h2⟩
theorem word_shift {m : Int} {k : Nat} (h : 0 ≤ m) : inB (some m) 0 (2 ^ k - 1) = decide (m / 2 ^ k = 0) := by
  have hp : (0 : Int) < 2 ^ k := Int.pow_pos (by decide)
  generalize (2 : Int) ^ k = p at hp
  unfold inB
  rw [decide_eq_decide]
  constructor
  · intro g
    exact Int.ediv_eq_zero_of_lt h (by omega)
  · intro g
    have := Int.mul_ediv_add_emod m p
    rw [g, Int.mul_zero, Int.zero_add] at this
    have := Int.emod_lt_of_pos m hp
    omega
def spRight1 : Sp := fun vs H Q _ => ∃ s : Addr, vs = [.ref s] ∧ Stm H s ∧ ∀ H', Stm H' s → But s H H' → Q (.bl true) H'
theorem len_law_right {vs H Q E} (h : spRight1 vs H Q E) : vs.length = 1 := by obtain ⟨_, rfl, _⟩ := h; rfl
section
variable {P : Program} {w : World} {K : PySem.W.Frag} {mg : Str → Option Value}
theorem ok_law_right [c : Facts K mg] (G__law_is_name : Fn P w K mg "_law_is_name" 2 ["text"] (spLName)) (G__law_number : Fn P w K mg "_law_number" 2 ["stream", "width", "low", "high"] (spNumber)) (G__law_take : Fn P w K mg "_law_take" 1 ["stream", "many"] (spTake)) (G__law_text : Fn P w K mg "_law_text" 3 ["stream"] (spText1)) (G__law_thing : Fn P w K mg "_law_thing" 2 ["stream", "number"] ((spThing K))) (G__law_told : Fn P w K mg "_law_told" 1 ["found", "due"] (spTold1)) (G_is_name : Fn P w K mg "is_name" 2 ["thing"] ((spName K))) (G_is_whole : Fn P w K mg "is_whole" 1 ["thing"] ((spWhole K))) (G_is_within : Fn P w K mg "is_within" 2 ["thing", "low", "high"] ((spWithin K))) (G_is_word : Fn P w K mg "is_word" 3 ["thing", "width"] ((spIsWord K))) : Fn P w K mg "_law_right" 4 ["stream"] (spRight1) := by
  obtain ⟨fd, F⟩ := c.d_law_right
  refine Fn.mk' F c.g_law_right sc_law_right (k := 3) (fun vs H Q E h => ?_) (fun _ _ _ _ _ _ us hl => match us, hl with | [_], _ => rfl) (fun base cdv A outer s H vs Q E hr h => ?_)
  · exact len_law_right h
  · have nd := sc_law_right.nd
    have hu := hu_of hr
    have hr__law_is_name : Room 2 _ := hr.mono (by omega)
    have hr__law_number : Room 2 _ := hr.mono (by omega)
    have hr__law_take : Room 1 _ := hr.mono (by omega)
    have hr__law_text : Room 3 _ := hr.mono (by omega)
    have hr__law_thing : Room 2 _ := hr.mono (by omega)
    have hr__law_told : Room 1 _ := hr.mono (by omega)
    have hr_is_name : Room 2 _ := hr.mono (by omega)
    have hr_is_whole : Room 1 _ := hr.mono (by omega)
    have hr_is_within : Room 2 _ := hr.mono (by omega)
    have hr_is_word : Room 3 _ := hr.mono (by omega)
    refine ⟨_, (pss_cons (ps_set (i := 1) nd rfl (Or.inl rfl) (pe_op (op_addA (K := K) rfl) pe_int (pe_fn G__law_take hr__law_take (by rfl) (pa_cons (pv 0) (pa_cons pe_int pa_nil)))))
      (pss_cons (ps_set (i := 2) nd rfl (Or.inl rfl) (pe_op op_sub (pe_fn G__law_take hr__law_take (by rfl) (pa_cons (pv 0) (pa_cons (pe_op (op_addA (K := K) rfl) (pe_op op_mulA pe_int (pe_op op_pow pe_int pe_int)) pe_int) pa_nil))) (pe_op op_pow pe_int pe_int)))
      (pss_cons (ps_set (i := 3) nd rfl (Or.inl rfl) (pe_ix (ix_any (K := K) rfl) (pe_lst (pa_cons (pe_op op_sub (pe_op (op_addA (K := K) rfl) (pv 2) (pe_fn G__law_take hr__law_take (by rfl) (pa_cons (pv 0) (pa_cons pe_int pa_nil)))) pe_int) (pa_cons (pe_fn G__law_take hr__law_take (by rfl) (pa_cons (pv 0) (pa_cons (pe_op op_pow pe_int pe_int) pa_nil))) pa_nil))) (pe_fn G__law_take hr__law_take (by rfl) (pa_cons (pv 0) (pa_cons pe_int pa_nil))) (fun _ _ => rfl)))
      (pss_cons (ps_set (i := 4) nd rfl (Or.inl rfl) (pe_fn G__law_number hr__law_number (by rfl) (pa_cons (pv 0) (pa_cons (pv 1) (pa_cons (pv 2) (pa_cons (pv 3) pa_nil))))))
      (pss_cons (ps_set (i := 5) nd rfl (Or.inl rfl) (pe_fn G__law_thing hr__law_thing (by rfl) (pa_cons (pv 0) (pa_cons (pv 4) pa_nil))))
      (pss_cons (ps_set (i := 6) nd rfl (Or.inl rfl) (pe_and (pe_callB (call_isiA (K := K) rfl) (by rfl) c.f_isinstance boot_isinstance (pa_cons (pv 5) (pa_cons (pe_bltn (v := .ty "int") (by rfl) c.f_int boot_int rfl) pa_nil))) (pe_one (pe_not (pe_callB (call_isiA (K := K) rfl) (by rfl) c.f_isinstance boot_isinstance (pa_cons (pv 5) (pa_cons (pe_bltn (v := .ty "bool") (by rfl) c.f_bool boot_bool rfl) pa_nil)))))))
      (pss_cons (ps_if (PW.pt (pw_or (pt_not (pt_val (pe_fn G__law_told hr__law_told (by rfl) (pa_cons (pe_fn G_is_whole hr_is_whole (by rfl) (pa_cons (pv 5) pa_nil)) (pa_cons (pv 6) pa_nil))))) (pw_or1 (pt_not (pt_val (pe_fn G__law_told hr__law_told (by rfl) (pa_cons (pe_fn G_is_name hr_is_name (by rfl) (pa_cons (pv 5) pa_nil)) (pa_cons pe_bl pa_nil)))))))) (pss_one (ps_ret pe_bl)) pss_nil)
      (pss_cons (ps_if (pt_not (pt_val (pe_fn G__law_told hr__law_told (by rfl) (pa_cons (pe_fn G_is_within hr_is_within (by rfl) (pa_cons (pv 5) (pa_cons (pv 2) (pa_cons (pv 3) pa_nil)))) (pa_cons (pe_and (pv 6) (pe_one (pe_chain op_le op_le (pv 2) (pv 4) (pv 3)))) pa_nil))))) (pss_one (ps_ret pe_bl)) pss_nil)
      (pss_cons (ps_if (pt_not (pt_val (pe_fn G__law_told hr__law_told (by rfl) (pa_cons (pe_fn G_is_word hr_is_word (by rfl) (pa_cons (pv 5) (pa_cons (pv 1) pa_nil))) (pa_cons (pe_and (pv 6) (pe_and (pe_cmpR op_le pe_int (pv 4) (nomark _)) (pe_one (pe_cmpR (op_eqA (K := K) rfl hr.units) (pe_op op_shr (pv 4) (pv 1)) pe_int (nomark _))))) pa_nil))))) (pss_one (ps_ret pe_bl)) pss_nil)
      (pss_cons (ps_set (i := 7) nd rfl (Or.inl rfl) (pe_fn G__law_text hr__law_text (by rfl) (pa_cons (pv 0) pa_nil)))
      (pss_cons (ps_for PassesOwn.never rfl (pi_list (pe_lst (pa_cons (pv 7) (pa_cons (pe_op (op_addA (K := K) rfl) (pv 7) pe_str) (pa_cons (pe_slice (sl_any (K := K) rfl) (pv 7) po_none (po_some pe_int)) pa_nil))))) (pg_name (i := 8) nd rfl (Or.inl rfl)) (pss_one (ps_if (PW.pt (pw_or (pt_not (pt_val (pe_fn G__law_told hr__law_told (by rfl) (pa_cons (pe_fn G_is_name hr_is_name (by rfl) (pa_cons (pv 8) pa_nil)) (pa_cons (pe_fn G__law_is_name hr__law_is_name (by rfl) (pa_cons (pv 8) pa_nil)) pa_nil))))) (pw_or1 (pt_not (pt_val (pe_fn G__law_told hr__law_told (by rfl) (pa_cons (pe_fn G_is_whole hr_is_whole (by rfl) (pa_cons (pv 8) pa_nil)) (pa_cons pe_bl pa_nil)))))))) (pss_one (ps_ret pe_bl)) pss_nil)))
      (pss_cons (ps_set (i := 9) nd rfl (Or.inl rfl) (pe_lst (pa_cons (pe_fn G_is_name hr_is_name (by rfl) (pa_cons (pe_callTy (call_list_txt rfl) (by rfl) c.f_list boot_list (pa_cons (pv 7) pa_nil)) pa_nil)) (pa_cons (pe_fn G_is_name hr_is_name (by rfl) (pa_cons (pe_callTy (call_tup_txt rfl) (by rfl) c.f_tuple boot_tuple (pa_cons (pv 7) pa_nil)) pa_nil)) (pa_cons (pe_fn G_is_name hr_is_name (by rfl) (pa_cons (pe_lst (pa_cons (pv 7) pa_nil)) pa_nil)) (pa_cons (pe_fn G_is_name hr_is_name (by rfl) (pa_cons (pe_tup (pa_cons (pv 7) pa_nil)) pa_nil)) (pa_cons (pe_fn G_is_name hr_is_name (by rfl) (pa_cons (pe_disp (pps_cons (pv 7) pe_int pps_nil) rfl rfl (by simp) (by decide)) pa_nil)) pa_nil)))))))
      (pss_one (ps_ret (pe_cmpR (op_eqA (K := K) rfl hr.units) (pe_lc (own := [("told", 10)]) rfl nd (pi_list (pv 9)) (blkOk_by (N := N_law_right) (sc := defScope s_law_right) (by decide +kernel)) (fun _ _ _ _ _ => (pg_name (i := 10) nd rfl (Or.inl rfl))) (fun _ _ _ _ _ => pts_one (pt_cmpR op_notBl (pv 10) pe_bl (nomark _))) (fun _ _ _ _ _ => (pv 10))) (pe_lst pa_nil) (nomark _)))))))))))))))), ?_⟩
    try dsimp only [cxOf, Cx.nox, Cx.wish]
    obtain ⟨s, rfl, hs, q⟩ := h
    have hz : sizeLine = 16777216 := sizeLine_eq
    repeat walk_at "w"
    refine ⟨s, 21, rfl, hs, by decide, by decide, fun wd H1 w0 w1 hs1 e1 => ?_⟩
    repeat walk_at "w"
    refine ⟨s, _, rfl, hs1, by decide, by decide, fun lo H2 l0 l1 hs2 e2 => ?_⟩
    repeat walk_at "w"
    refine ⟨s, 4, rfl, hs2, by decide, by decide, fun d3 H3 d30 d31 hs3 e3 => ?_⟩
    repeat walk_at "w"
    refine ⟨s, _, rfl, hs3, by decide, by decide, fun d4 H4 d40 d41 hs4 e4 => ?_⟩
    repeat walk_at "w"
    refine w_new fun p5 H5 n5 s5 f5 => ?_
    repeat walk_at "w"
    refine ⟨s, 2, rfl, s5.stm hs4, by decide, by decide, fun d6 H6 d60 d61 hs6 e6 => ?_⟩
    have f6 := e6 _ _ (stm_ne hs4 n5) f5
    obtain ⟨v, g1, g2, _⟩ := atI_some d60 (show d6 < (([_, _] : List V).length : Int) from d61)
    refine w_ixL (SqL.of f6) g1 ?_
    obtain ⟨hi, rfl⟩ : ∃ n, v = .int n := by
      simp only [List.mem_cons, List.not_mem_nil, or_false] at g2
      rcases g2 with rfl | rfl <;> exact ⟨_, rfl⟩
    repeat walk_at "w"
    refine ⟨s, _, _, _, rfl, hs6, by omega, by omega, fun n H7 hs7 e7 => ?_⟩
    repeat walk_at "w"
    refine ⟨s, n, rfl, hs7, fun v H8 hv hs8 e8 => ?_⟩
    have s48 : Same H4 H5 := s5
    have b18 : But s H H8 := (e1.trans (e2.trans e3)).trans (((e4.trans (But.of s5)).trans (e6.trans e7)).trans e8)
    refine w_seq ?_
    refine w_cutN (fun σ' H' => H8 = H' ∧ ∃ wh o1 o2 o3 o4, σ' = [some (.ref s), some (.int (4 + wd)), some (.int (lo - 1000000000)), some (.int hi), some (.int n), some v, some (.bl wh.isSome), o1, o2, o3, o4] ∧ Thw K H8 n v wh) (fun σ' H' hp => ?_) (fun N hN => ?_)
    · obtain ⟨rfl, wh, o1, o2, o3, o4, rfl, hw⟩ := hp
      refine w_seq ?_
      refine w_cutN (fun σ' H' => Same H8 H' ∧ σ' = [some (.ref s), some (.int (4 + wd)), some (.int (lo - 1000000000)), some (.int hi), some (.int n), some v, some (.bl wh.isSome), o1, o2, o3, o4]) (fun σ' H' hp => ?_) (fun N hN => ?_)
      · obtain ⟨sa, rfl⟩ := hp
        refine w_seq ?_
        refine w_cutN (fun σ' H9 => Same H8 H9 ∧ σ' = [some (.ref s), some (.int (4 + wd)), some (.int (lo - 1000000000)), some (.int hi), some (.int n), some v, some (.bl wh.isSome), o1, o2, o3, o4]) (fun σ' H9 hp => ?_) (fun N hN => ?_)
        · obtain ⟨sb, rfl⟩ := hp
          refine w_seq ?_
          refine w_cutN (fun σ' H9 => Same H8 H9 ∧ σ' = [some (.ref s), some (.int (4 + wd)), some (.int (lo - 1000000000)), some (.int hi), some (.int n), some v, some (.bl wh.isSome), o1, o2, o3, o4]) (fun σ' H9 hp => ?_) (fun N hN => ?_)
          · obtain ⟨sc, rfl⟩ := hp
            repeat walk_at "w"
            refine ⟨s, rfl, sc.stm hs8, fun l Ha hl hc hsa ea => ?_⟩
            repeat walk_at "w"
            rw [S_of' "x" [120] (by decide +kernel)]
            refine w_addC (by rw [hz]; (try simp only [List.length_cons, List.length_nil]); omega) ?_
            repeat walk_at "w"
            refine w_slAny (by omega) fun m m1 m2 => ?_
            repeat walk_at "w"
            refine w_new fun pb Hb nb sb' fb => ?_
            have hsb := sb'.stm hsa
            refine fl_list [V.str (S l), V.str (S (l ++ [120])), V.str (S m)] (fun i σ' H' => ∃ o1 o2 o3, σ' = [some (.ref s), some (.int (4 + wd)), some (.int (lo - 1000000000)), some (.int hi), some (.int n), some v, some (.bl wh.isSome), some (.str (S l)), o1, o2, o3] ∧ Same Hb H') (SqL.of fb) ⟨_, _, _, rfl, Same.refl _⟩ (fun i σ' H' hi hp => ?_) (fun i x σ' H' hx hp => ?_) (fun σ' H' hp => ?_)
            · obtain ⟨_, _, _, _, e⟩ := hp
              exact SqL.of (e _ _ fb)
            · obtain ⟨p1, p2, p3, rfl, e⟩ := hp
              obtain ⟨l', rfl, l1, l2⟩ : ∃ l', x = .str (S l') ∧ l'.length ≤ 1000 ∧ ∀ c ∈ l', c < 256 := by
                have := List.mem_of_getElem? hx
                simp only [List.mem_cons, List.not_mem_nil, or_false] at this
                rcases this with rfl | rfl | rfl
                · exact ⟨_, rfl, by omega, hc⟩
                · exact ⟨_, rfl, by simp; omega, fun x hx => by rcases List.mem_append.mp hx with g | g; exact hc x g; rw [List.mem_singleton.mp g]; decide⟩
                · exact ⟨_, rfl, by omega, fun x hx => hc x (m2 x hx)⟩
              repeat walk_at "w"
              refine ⟨_, rfl, .inl ⟨l', rfl, l1, fun Hc ec => ?_⟩⟩
              repeat walk_at "w"
              refine ⟨l', rfl, l1, l2, fun Hd ed => ?_⟩
              repeat walk_at "w"
              refine ⟨_, _, rfl, ?_⟩
              rw [beq_self_eq_true]
              repeat walk_at "w"
              refine ⟨_, none, rfl, .inl ⟨_, rfl⟩, ?_⟩
              repeat walk_at "w"
              refine ⟨_, _, rfl, ?_⟩
              rw [show ((none : Option Int).isSome == false) = true from rfl]
              repeat walk_at "w"
              exact ⟨_, _, _, rfl, e.trans (ec.trans ed)⟩
            · obtain ⟨p1, p2, p3, rfl, e⟩ := hp
              repeat walk_at "w"
              refine w_listTxt (by rw [S_len, hz]; omega) ?_
              refine w_new fun q1 K1 u1 t1 g1 => ?_
              repeat walk_at "w"
              refine ⟨_, rfl, .inr ⟨"list", .inr (.inr (.inr (.inl rfl))), ty_lst g1, ?_⟩⟩
              repeat walk_at "w"
              refine w_tupTxt (by rw [S_len, hz]; omega) ?_
              refine w_new fun q2 K2 u2 t2 g2 => ?_
              repeat walk_at "w"
              refine ⟨_, rfl, .inr ⟨"tuple", .inr (.inr (.inr (.inr (.inl rfl)))), ty_tup g2, ?_⟩⟩
              repeat walk_at "w"
              refine w_new fun q3 K3 u3 t3 g3 => ?_
              repeat walk_at "w"
              refine ⟨_, rfl, .inr ⟨"list", .inr (.inr (.inr (.inl rfl))), ty_lst g3, ?_⟩⟩
              repeat walk_at "w"
              refine w_new fun q4 K4 u4 t4 g4 => ?_
              repeat walk_at "w"
              refine ⟨_, rfl, .inr ⟨"tuple", .inr (.inr (.inr (.inr (.inl rfl)))), ty_tup g4, ?_⟩⟩
              repeat walk_at "w"
              refine w_disp fun q5 K5 u5 t5 g5 => ?_
              repeat walk_at "w"
              refine ⟨g5, [(.inr (S l), .int 1)], rfl, by simp, ?_⟩
              refine w_chg fun K6 t6 g6 => ?_
              repeat walk_at "w"
              refine ⟨_, rfl, .inr ⟨"dict", .inr (.inr (.inr (.inr (.inr rfl)))), ty_dic g6, ?_⟩⟩
              repeat walk_at "w"
              refine w_new fun q7 K7 u7 t7 g7 => ?_
              repeat walk_at "w"
              refine lc_L [V.bl false, V.bl false, V.bl false, V.bl false, V.bl false] (fun D i ys H' => ys = [] ∧ Same K7 H') (SqL.of g7) (fun D H' hD e f => ⟨rfl, e⟩) (fun D hD i ys H' hi hy hp => SqL.of (hp.2 _ _ g7)) (fun D hD i x ys H' hx hl hy hp => ?_) (fun D hD ys H' hl hy hp => ?_)
              · obtain ⟨rfl, e⟩ := hp
                obtain rfl : x = .bl false := by have := List.mem_of_getElem? hx; simpa using this
                repeat walk_at "w"
                refine ⟨false, false, rfl, rfl, ?_⟩
                repeat walk_at "w"
                rw [decide_eq_true rfl]
                repeat walk_at "w"
                exact lc_skip hy hl ⟨rfl, e⟩
              · obtain ⟨rfl, e9⟩ := hp
                repeat walk_at "w"
                refine w_new fun q8 K8 u8 t8 g8 => ?_
                refine w_eqSL (ns := []) (ms := []) (SqL.of (t8 _ _ hy)) (SqL.of g8) rfl rfl ?_
                rw [decide_eq_true rfl]
                have big : Same Hb K8 := (e.trans (t1.trans (t2.trans (t3.trans t4)))).trans ((But.new t5 u5 t6).trans (t7.trans (e9.trans t8)))
                exact q _ (big.stm hsb) (b18.trans ((But.of sc).trans (ea.trans (But.of (sb'.trans big)))))
          · repeat walk_at "w"
            refine ⟨v, wh, _, rfl, (hw.sm sb).th, by omega, by omega, ?_⟩
            cases wh with
            | some m =>
              obtain ⟨rfl, rfl⟩ := hw
              repeat walk_at "w"
              refine ite2 (fun _ => ?_) (fun h => (h rfl).elim)
              repeat walk_at "w"
              refine ite2 (fun h1 => ?_) (fun h1 => ?_)
              · rw [decide_eq_true_eq] at h1
                repeat walk_at "w"
                refine ⟨_, _, rfl, ?_⟩
                rw [show inB (some m) 0 (2 ^ (4 + wd).toNat - 1) = decide (m / 2 ^ (4 + wd).toNat = 0) from word_shift h1, beq_self_eq_true]
                repeat walk_at "w"
                exact hN _ _ ⟨sb, rfl⟩
              · rw [decide_eq_true_eq] at h1
                repeat walk_at "w"
                refine ⟨_, _, rfl, ?_⟩
                rw [show inB (some m) 0 (2 ^ (4 + wd).toNat - 1) = false by unfold inB; simp [h1], beq_self_eq_true]
                repeat walk_at "w"
                exact hN _ _ ⟨sb, rfl⟩
            | none =>
              repeat walk_at "w"
              refine ⟨_, _, rfl, ?_⟩
              repeat walk_at "w"
              exact hN _ _ ⟨sb, rfl⟩
        · repeat walk_at "w"
          refine ⟨v, wh, _, _, rfl, (hw.sm sa).th, ?_⟩
          cases wh with
          | some m =>
            obtain ⟨rfl, rfl⟩ := hw
            repeat walk_at "w"
            refine ite2 (fun _ => ?_) (fun h => (h rfl).elim)
            repeat walk_at "w"
            refine ite2 (fun h1 => ?_) (fun h1 => ?_)
            · rw [decide_eq_true_eq] at h1
              repeat walk_at "w"
              refine ⟨_, _, rfl, ?_⟩
              rw [show inB (some m) (lo - 1000000000) hi = decide (m ≤ hi) by unfold inB; simp [h1], beq_self_eq_true]
              repeat walk_at "w"
              exact hN _ _ ⟨sa, rfl⟩
            · rw [decide_eq_true_eq] at h1
              repeat walk_at "w"
              refine ⟨_, _, rfl, ?_⟩
              rw [show inB (some m) (lo - 1000000000) hi = false by unfold inB; simp [h1], beq_self_eq_true]
              repeat walk_at "w"
              exact hN _ _ ⟨sa, rfl⟩
          | none =>
            repeat walk_at "w"
            refine ⟨_, _, rfl, ?_⟩
            repeat walk_at "w"
            exact hN _ _ ⟨sa, rfl⟩
      · repeat walk_at "w"
        refine ⟨v, wh, rfl, hw.th, ?_⟩
        repeat walk_at "w"
        refine ⟨_, _, rfl, ?_⟩
        rw [beq_self_eq_true]
        repeat walk_at "w"
        refine hw.nm fun H' e => ?_
        repeat walk_at "w"
        refine ⟨_, _, rfl, ?_⟩
        repeat walk_at "w"
        exact hN _ _ ⟨e, rfl⟩
    · rcases hv with rfl | hv | ⟨t, ho, ht⟩
      · repeat walk_at "w"
        exact hN _ _ ⟨rfl, some n, _, _, _, _, rfl, rfl, rfl⟩
      · obtain ⟨l, rfl, hl, hn⟩ := hv
        repeat walk_at "w"
        exact hN _ _ ⟨rfl, none, _, _, _, _, rfl, .inl ⟨l, rfl, hl, hn⟩⟩
      · rcases ho with rfl | rfl | rfl | rfl | rfl
        · repeat walk_at "w"
          refine w_isi (b := true) ht (by decide +kernel) ?_
          repeat walk_at "w"
          refine w_isi (b := true) ht (by decide +kernel) ?_
          repeat walk_at "w"
          exact hN _ _ ⟨rfl, none, _, _, _, _, rfl, .inr ⟨_, .inl rfl, ht⟩⟩
        all_goals
          repeat walk_at "w"
          refine w_isi (b := false) ht (by decide +kernel) ?_
          repeat walk_at "w"
          exact hN _ _ ⟨rfl, none, _, _, _, _, rfl, .inr ⟨_, by unfold Oth; simp, ht⟩⟩
end

end J
namespace J
open PySem PySem.Spec PyProof.Rows L2

local macro_rules | `(tactic| walk_at "ty") => `(tactic| first
  | with_reducible exact ty_int
  | with_reducible exact ty_bl
  | with_reducible exact ty_str
  | with_reducible exact ty_non
  | ((with_reducible refine' ty_lst ?vv); (case vv => walk_at "tr"))
  | ((with_reducible refine' ty_sqT ?vv); (case vv => walk_at "tr"))
  | ((with_reducible refine' ty_dic ?vv); (case vv => walk_at "tr")))
local macro_rules | `(tactic| walk_at "ix") => `(tactic| first | exact at0 | exact at1 | exact at2 | assumption)
local macro_rules | `(tactic| walk_at "size") => `(tactic| first
  | assumption
  | (show _ < sizeLine; rw [sizeLine_eq]; (try simp only [List.length_cons, List.length_nil, List.length_append, List.length_map]); omega)
  | (show _ ≤ sizeLine; rw [sizeLine_eq]; (try simp only [List.length_cons, List.length_nil, List.length_append, List.length_map]); omega))
local macro_rules | `(tactic| walk_at "side") => `(tactic| first
  | assumption
  | ((with_reducible refine cdw ?_ ?_) <;> omega)
  | omega
  | (exact ⟨by omega, by omega⟩)
  | (exact Or.inl ⟨by omega, by omega⟩)
  | (exact Or.inr ⟨by omega, by omega⟩)
  | decide
  | (simp only [List.length_cons, List.length_nil, List.length_append, List.length_map]; omega)
  | (show _ ≤ _; decide))
local macro_rules | `(tactic| walk_at "as") => `(tactic| with_reducible assumption)
local macro_rules | `(tactic| walk_at "tr") => `(tactic| first
  | with_reducible assumption
  | with_reducible exact upd_same
  | ((with_reducible refine' SqL.of ?hh); (case hh => walk_at "as"))
  | ((with_reducible refine' SqT.of ?hh); (case hh => walk_at "as"))
  | ((with_reducible refine' Same.stm ?ee ?gg); (case ee => walk_at "as"); (case gg => walk_at "tr"))
  | ((with_reducible refine' Same.sqT ?ee ?gg); (case ee => walk_at "as"); (case gg => walk_at "tr"))
  | ((with_reducible refine' Same.sqL ?ee ?gg); (case ee => walk_at "as"); (case gg => walk_at "tr"))
  | ((with_reducible refine' Same.at ?ee ?gg); (case ee => walk_at "as"); (case gg => walk_at "tr"))
  | ((with_reducible refine' But.stm ?ee ?ff ?gg); (case ee => walk_at "as"); (case ff => walk_at "ne"); (case gg => walk_at "tr"))
  | ((with_reducible refine' But.tup ?ee ?ff ?gg); (case ee => walk_at "as"); (case ff => walk_at "tr1"); (case gg => walk_at "tr"))
  | ((with_reducible refine' But.sqT ?ee ?ff ?gg); (case ee => walk_at "as"); (case ff => walk_at "tr1"); (case gg => walk_at "tr"))
  | ((with_reducible refine' But.tupL ?ee ?ff ?gg); (case ee => walk_at "as"); (case ff => walk_at "tr1"); (case gg => walk_at "tr"))
  | ((with_reducible refine' But.sqTL ?ee ?ff ?gg); (case ee => walk_at "as"); (case ff => walk_at "tr1"); (case gg => walk_at "tr"))
  | ((with_reducible refine' But.sqL ?ee ?ff ?gg); (case ee => walk_at "as"); (case ff => walk_at "ne"); (case gg => walk_at "tr"))
  | ((with_reducible refine' But.at ?ee ?ff ?gg); (case ee => walk_at "as"); (case ff => walk_at "ne"); (case gg => walk_at "tr")))
local macro_rules | `(tactic| walk_at "ts") => `(tactic| first
  | with_reducible assumption
  | with_reducible exact TS.refl _
  | ((with_reducible refine' TS.trans ?gg (TS.of ?ee)); (case ee => walk_at "as"); (case gg => walk_at "ts"))
  | ((with_reducible refine' TS.trans ?gg (TS.butS ?ee ?ff)); (case ee => walk_at "as"); (case ff => walk_at "tr1"); (case gg => walk_at "ts"))
  | ((with_reducible refine' TS.trans ?gg (TS.butL ?ee ?ff)); (case ee => walk_at "as"); (case ff => walk_at "tr1"); (case gg => walk_at "ts"))
  | ((with_reducible refine' TS.trans ?gg (TS.butI ?ee ?ff)); (case ee => walk_at "as"); (case ff => walk_at "tr1"); (case gg => walk_at "ts")))
local macro_rules | `(tactic| walk_at "sm") => `(tactic| first
  | with_reducible assumption
  | with_reducible exact Same.refl _
  | ((with_reducible refine' Same.trans ?gg ?ee); (case ee => walk_at "as"); (case gg => walk_at "sm"))
  | ((with_reducible refine' But.new ?gg ?nn ?ee); (case ee => walk_at "as"); (case nn => walk_at "fr"); (case gg => walk_at "sm")))
local macro_rules | `(tactic| walk_at "fr") => `(tactic| first
  | with_reducible assumption
  | ((with_reducible refine' Same.back ?ee ?nn); (case nn => walk_at "as"); (case ee => walk_at "sm"))
  | ((with_reducible refine' But.back ?ee ?ff ?nn); (case nn => walk_at "as"); (case ff => walk_at "ne0"); (case ee => walk_at "bu")))
local macro_rules | `(tactic| walk_at "bu") => `(tactic| first
  | with_reducible assumption
  | with_reducible exact But.refl _ _
  | ((with_reducible refine' But.trans ?gg ?ee); (case ee => walk_at "as"); (case gg => walk_at "bu"))
  | ((with_reducible refine' But.trans ?gg (But.of ?ee)); (case ee => walk_at "as"); (case gg => walk_at "bu"))
  | ((with_reducible refine' But.new2 ?gg ?nn ?ee); (case ee => walk_at "as"); (case nn => walk_at "frB"); (case gg => walk_at "bu")))
local macro_rules | `(tactic| walk_at "frB") => `(tactic| first
  | with_reducible assumption
  | ((with_reducible refine' Same.back ?ee ?nn); (case nn => walk_at "as"); (case ee => walk_at "sm"))
  | ((with_reducible refine' But.back' ?ee ?ff ?nn); (case nn => walk_at "as"); (case ee => walk_at "bu"); (case ff => walk_at "tr1")))
local macro_rules | `(tactic| walk_at "tr1") => `(tactic| first
  | with_reducible assumption
  | ((with_reducible refine' Same.stm ?ee ?gg); (case ee => walk_at "as"); (case gg => walk_at "tr1"))
  | ((with_reducible refine' Same.at ?ee ?gg); (case ee => walk_at "as"); (case gg => walk_at "tr1"))
  | ((with_reducible refine' But.at ?ee ?ff ?gg); (case ee => walk_at "as"); (case ff => walk_at "ne0"); (case gg => walk_at "tr1"))
  | ((with_reducible refine' But.stm ?ee ?ff ?gg); (case ee => walk_at "as"); (case ff => walk_at "ne0"); (case gg => walk_at "tr1")))
local macro_rules | `(tactic| walk_at "ne0") => `(tactic| first
  | with_reducible assumption
  | (with_reducible apply Ne.symm; with_reducible assumption))
local macro_rules | `(tactic| walk_at "ne") => `(tactic| first
  | with_reducible assumption
  | (with_reducible apply Ne.symm; with_reducible assumption)
  | ((with_reducible refine' stm_ne ?hh ?nn); (case nn => walk_at "as"); (case hh => walk_at "tr1"))
  | ((with_reducible refine' ne_of_none ?hh ?nn); (case nn => walk_at "as"); (case hh => walk_at "tr1"))
  | ((with_reducible apply Ne.symm); (with_reducible refine' ne_of_none ?hh ?nn); (case nn => walk_at "as"); (case hh => walk_at "tr1")))
local macro_rules | `(tactic| walk_at "v") => `(tactic| first
  | with_reducible refine w_seq ?_
  | ((with_reducible refine' w_var ?vv ?_); (case vv => exact rfl))
  | with_reducible refine w_c ?_
  | with_reducible refine w_op ?_
  | with_reducible refine w_asg ?_
  | with_reducible refine w_gName ?_
  | with_reducible refine w_ret ?_
  | with_reducible refine w_ifS ?_
  | with_reducible refine w_drop ?_
  | with_reducible refine w_next ?_
  | with_reducible refine w_cons ?_
  | with_reducible refine w_nil ?_
  | with_reducible refine w_call ?_
  | with_reducible refine w_cb ?_
  | with_reducible refine w_rI0 ?_
  | with_reducible refine w_addI ?_
  | with_reducible refine w_eqI ?_
  | with_reducible refine w_neI ?_
  | with_reducible refine w_eqS ?_
  | with_reducible refine w_neS ?_
  | with_reducible refine w_eqB ?_
  | with_reducible refine w_neB ?_
  | with_reducible refine w_chain ?_
  | with_reducible refine w_test ?_
  | with_reducible refine w_tB ?_
  | with_reducible refine w_bl ?_
  | ((with_reducible refine' w_mulI ?vv ?_); (case vv => walk_at "side"))
  | ((with_reducible refine' w_rI ?vv ?_); (case vv => walk_at "side"))
  | with_reducible refine w_int1 ?_
  | with_reducible refine w_int1b ?_
  | with_reducible refine w_tup ?_
  | with_reducible refine w_lst ?_
  | with_reducible refine w_un ?_
  | with_reducible refine w_rU ?_
  | with_reducible refine w_not ?_
  | with_reducible refine w_notV ?_
  | with_reducible refine w_ifE ?_
  | with_reducible refine w_nT ?_
  | with_reducible refine w_nF ?_
  | with_reducible refine iteT ?_
  | with_reducible refine iteF ?_
  | ((with_reducible refine' w_ixT ?vv ?ww ?_); (case vv => walk_at "tr"); (case ww => walk_at "ix"))
  | ((with_reducible refine' w_ixL ?vv ?ww ?_); (case vv => walk_at "tr"); (case ww => walk_at "ix"))
  | with_reducible refine w_gSub ?_
  | ((with_reducible refine' w_setL ?vv ?ww ?_); (case vv => walk_at "tr"); (case ww => first | rfl | decide | assumption))
  | ((with_reducible refine' w_lenL ?vv ?_); (case vv => walk_at "tr"))
  | ((with_reducible refine' w_lenT ?vv ?_); (case vv => walk_at "tr"))
  | with_reducible refine w_max2 ?_
  | with_reducible refine w_min2 ?_
  | with_reducible refine w_bm ?_
  | with_reducible refine w_bm0 ?_
  | ((with_reducible refine' w_tyL ?vv ?_); (case vv => walk_at "tr"))
  | ((with_reducible refine' w_append ?vv ?ww ?_); (case vv => walk_at "tr"); (case ww => walk_at "size"))
  | ((with_reducible refine' w_size ?vv ?_); (case vv => walk_at "size"))
  | with_reducible refine w_forL ?_
  | with_reducible refine w_forT ?_
  | with_reducible refine w_forR1 ?_
  | with_reducible refine w_forR2 ?_
  | with_reducible refine w_lcL ?_
  | with_reducible refine w_lcT ?_
  | with_reducible refine w_lcR1 ?_
  | with_reducible refine w_yes ?_
  | with_reducible refine w_sl ?_
  | with_reducible refine w_noPart ?_
  | with_reducible refine w_part ?_
  | with_reducible refine w_int ?_
  | ((with_reducible refine' w_slL ?vv ?_); (case vv => walk_at "tr"))
  | ((with_reducible refine' w_seqL ?vv ?ww ?_); (case vv => walk_at "tr"); (case ww => rfl))
  | ((with_reducible refine' w_seqT ?vv ?ww ?_); (case vv => walk_at "tr"); (case ww => rfl))
  | with_reducible refine w_gNil ?_
  | with_reducible refine w_gCons ?_
  | with_reducible refine w_forZ ?_
  | with_reducible refine w_forE ?_
  | with_reducible refine w_forV ?_
  | with_reducible refine w_lcZ ?_
  | with_reducible refine w_lcE ?_
  | ((with_reducible refine' w_isi (b := true) ?vv ?ww ?_); (case vv => walk_at "ty"); (case ww => decide +kernel))
  | ((with_reducible refine' w_isi (b := false) ?vv ?ww ?_); (case vv => walk_at "ty"); (case ww => decide +kernel))
  | with_reducible refine w_revL ?_
  | with_reducible refine w_pairN ?_
  | with_reducible refine w_pairC ?_
  | with_reducible refine w_dget ?_
  | with_reducible refine w_met ?_
  | ((with_reducible refine' w_metAt ?vv ?ww ?_); (case vv => walk_at "tr"); (case ww => rfl))
  | with_reducible refine w_mkI ?_
  | with_reducible refine w_fld ?_
  | ((with_reducible refine' w_fldAt ?vv ?cc ?nn ?ww ?_); (case vv => walk_at "tr"); (case cc => walk_at "cls"); (case nn => walk_at "na"); (case ww => rfl))
  | with_reducible refine w_sfld ?_
  | ((with_reducible refine' w_sfldAt ?vv ?cc ?nn ?ll ?ee ?_); (case vv => walk_at "tr"); (case cc => walk_at "cls"); (case nn => walk_at "na"); (case ll => simp); (case ee => rfl))
  | ((with_reducible refine' w_tupL ?vv ?_); (case vv => walk_at "tr"))
  | ((with_reducible refine' w_tupT ?vv ?_); (case vv => walk_at "tr"))
  | ((with_reducible refine' w_listL ?vv ?_); (case vv => walk_at "tr"))
  | ((with_reducible refine' w_listT ?vv ?_); (case vv => walk_at "tr"))
  | with_reducible refine w_tyS ?_
  | with_reducible refine w_retN ?_
  | with_reducible refine w_break ?_
  | with_reducible refine w_cont ?_)
local macro_rules | `(tactic| walk_at "w") => `(tactic| first
  | walk_at "v"
  | with_reducible refine w_or ?_
  | with_reducible refine w_and ?_
  | with_reducible refine w_andV ?_
  | with_reducible refine w_orV ?_)
local macro_rules | `(tactic| walk_at "wd") => `(tactic| first
  | walk_at "w"
  | ((with_reducible refine' w_decT ?vv ?_); (case vv => decide +kernel))
  | ((with_reducible refine' w_decF ?vv ?_); (case vv => decide +kernel)))
local macro_rules | `(tactic| walk_at "tz") => `(tactic| (intro S z; (repeat walk_at "w"); exact z))
local macro_rules | `(tactic| walk_at "wf") => `(tactic| first
  | walk_at "wd"
  | ((with_reducible refine' w_decF ?vv ?_); (case vv => with_reducible assumption)))
open SX
theorem own_q {z : Str} (h : z ∈ own) : ∃ u, z = S u ∧ u.length ≤ 6 ∧ nameB u = false ∧ nameB (u ++ [113]) = true := by
  have e : own.all (fun z => decide ((TL.tl z).length ≤ 6) && !nameB (TL.tl z) && nameB (TL.tl z ++ [113])) = true := by decide +kernel
  have f := List.all_eq_true.mp e z h
  simp only [Bool.and_eq_true, decide_eq_true_eq, Bool.not_eq_true'] at f
  exact ⟨TL.tl z, (TL.mk_tl z).symm, f.1.1, f.1.2, f.2⟩
theorem own_ok : (own.all PyData.strOk) = true := by decide +kernel
section
variable {P : Program} {w : World} {K : PySem.W.Frag} {mg : Str → Option Value}
theorem ok_law [c : Facts K mg] (G__law_cell : Fn P w K mg "_law_cell" 1 ["script", "k"] ((spCell K))) (G__law_own : Fn P w K mg "_law_own" 1 [] (spOwn)) (G__law_right : Fn P w K mg "_law_right" 4 ["stream"] (spRight1)) (G__law_stream : Fn P w K mg "_law_stream" 1 ["cell"] (spStream)) (G__law_told : Fn P w K mg "_law_told" 1 ["found", "due"] (spTold1)) (G_is_name : Fn P w K mg "is_name" 2 ["thing"] ((spName K))) (G_own_words : Fn P w K mg "own_words" 1 [] (spOwn)) : Fn P w K mg "law" 5 ["script"] ((spLaw K)) := by
  obtain ⟨fd, F⟩ := c.d_law
  refine Fn.mk' F c.g_law sc_law (k := 4) (fun vs H Q E h => ?_) (fun _ _ _ _ _ _ us hl => match us, hl with | [_], _ => rfl) (fun base cdv A outer s H vs Q E hr h => ?_)
  · exact len_law h
  · have nd := sc_law.nd
    have hu := hu_of hr
    have hr__law_cell : Room 1 _ := hr.mono (by omega)
    have hr__law_own : Room 1 _ := hr.mono (by omega)
    have hr__law_right : Room 4 _ := hr.mono (by omega)
    have hr__law_stream : Room 1 _ := hr.mono (by omega)
    have hr__law_told : Room 1 _ := hr.mono (by omega)
    have hr_is_name : Room 2 _ := hr.mono (by omega)
    have hr_own_words : Room 1 _ := hr.mono (by omega)
    refine ⟨_, (pss_cons (ps_set (i := 1) nd rfl (Or.inl rfl) (pe_fn0 G_own_words hr_own_words (by rfl)))
      (pss_cons (ps_if (PW.pt (pw_or (pt_not (pt_val (pe_callB (call_isiA (K := K) rfl) (by rfl) c.f_isinstance boot_isinstance (pa_cons (pv 1) (pa_cons (pe_bltn (v := .ty "list") (by rfl) c.f_list boot_list rfl) pa_nil))))) (pw_or1 (pt_cmpR (op_neA (K := K) rfl hr.units) (pv 1) (pe_fn0 G__law_own hr__law_own (by rfl)) (nomark _))))) (pss_one (ps_ret pe_bl)) pss_nil)
      (pss_cons (ps_expr (pe_bm PySem.F.plainAttrs_list PySem.F.slot_list_append PySem.F.type_list_append mt_append (pv 1) (pa_cons pe_str pa_nil)))
      (pss_cons (ps_for PassesOwn.never rfl (pi_range1 (by rfl) c.f_range (pa_cons (pe_callB (call_max2A rfl) (by rfl) c.f_max boot_max (pa_cons pe_int (pa_cons (pe_callB (call_min2A rfl) (by rfl) c.f_min boot_min (pa_cons (pe_callB (call_lenA (K := K) rfl) (by rfl) c.f_len boot_len (pa_cons (pv 0) pa_nil)) (pa_cons pe_int pa_nil))) pa_nil))) pa_nil)) (pg_name (i := 2) nd rfl (Or.inl rfl)) (pss_one (ps_if (pt_not (pt_val (pe_fn G__law_right hr__law_right (by rfl) (pa_cons (pe_fn G__law_stream hr__law_stream (by rfl) (pa_cons (pe_fn G__law_cell hr__law_cell (by rfl) (pa_cons (pv 0) (pa_cons (pv 2) pa_nil))) pa_nil)) pa_nil)))) (pss_one (ps_ret pe_bl)) pss_nil)))
      (pss_cons (ps_for PassesOwn.never rfl (pi_list (pe_fn0 G__law_own hr__law_own (by rfl))) (pg_name (i := 3) nd rfl (Or.inl rfl)) (pss_one (ps_if (PW.pt (pw_or (pt_not (pt_val (pe_fn G__law_told hr__law_told (by rfl) (pa_cons (pe_fn G_is_name hr_is_name (by rfl) (pa_cons (pv 3) pa_nil)) (pa_cons pe_bl pa_nil))))) (pw_or1 (pt_not (pt_val (pe_fn G__law_told hr__law_told (by rfl) (pa_cons (pe_fn G_is_name hr_is_name (by rfl) (pa_cons (pe_op (op_addA (K := K) rfl) (pv 3) pe_str) pa_nil)) (pa_cons pe_bl pa_nil)))))))) (pss_one (ps_ret pe_bl)) pss_nil)))
      (pss_one (ps_ret (pe_cmpR (op_eqA (K := K) rfl hr.units) (pe_fn0 G_own_words hr_own_words (by rfl)) (pe_fn0 G__law_own hr__law_own (by rfl)) (nomark _))))))))), ?_⟩
    try dsimp only [cxOf, Cx.nox, Cx.wish]
    obtain ⟨a, ns, rfl, hS, hl, q⟩ := h
    have hz : sizeLine = 16777216 := sizeLine_eq
    repeat walk_at "w"
    refine ⟨rfl, fun p1 H1 f1 s1 n1 => ?_⟩
    repeat walk_at "w"
    refine ⟨rfl, fun p2 H2 f2 s2 n2 => ?_⟩
    refine w_neSL (ns := own) (ms := own) (SqL.of (s2 _ _ f1)) (SqL.of f2) own_ok own_ok ?_
    rw [decide_eq_true rfl]
    repeat walk_at "w"
    refine w_append (s2 _ _ f1) (by rw [hz]; decide) ?_
    refine w_chg fun H3 e3 f3 => ?_
    repeat walk_at "w"
    have sm3 : Same H H3 := But.new (s1.trans s2) n1 e3
    refine w_lenL (sm3.sqL hS) ?_
    repeat walk_at "w"
    rw [List.length_map]
    refine fl_rng1 (fun i σ H' => ∃ k o, σ = [some (.ref a), some (.ref p1), k, o] ∧ Same H H') (by omega) (by omega) ⟨_, _, rfl, sm3⟩ (fun i σ H4 hi hp => ?_) (fun σ H4 hp => ?_)
    · obtain ⟨k, o, rfl, sm⟩ := hp
      repeat walk_at "w"
      refine ⟨a, ns, i, rfl, sm.sqL hS, by omega, fun c => ?_⟩
      repeat walk_at "w"
      refine ⟨c, rfl, fun s H5 s5 n5 hs5 => ?_⟩
      repeat walk_at "w"
      refine ⟨s, rfl, hs5, fun H6 hs6 e6 => ?_⟩
      repeat walk_at "w"
      exact ⟨_, _, rfl, sm.trans (But.new s5 n5 e6)⟩
    · obtain ⟨k, o, rfl, sm⟩ := hp
      repeat walk_at "w"
      refine ⟨rfl, fun p5 H5 f5 s5 n5 => ?_⟩
      refine fl_list (own.map V.str) (fun i σ H' => ∃ k o, σ = [some (.ref a), some (.ref p1), k, o] ∧ Same H5 H') (SqL.of f5) ⟨_, _, rfl, Same.refl _⟩ (fun i σ H' hi hp => ?_) (fun i x σ H' hx hp => ?_) (fun σ H' hp => ?_)
      · obtain ⟨_, _, _, e⟩ := hp
        exact SqL.of (e _ _ f5)
      · obtain ⟨k1, o1, rfl, e⟩ := hp
        obtain ⟨z, hz1, rfl⟩ := List.mem_map.mp (List.mem_of_getElem? hx)
        obtain ⟨u, rfl, u1, u2, u3⟩ := own_q hz1
        repeat walk_at "w"
        refine ⟨_, rfl, .inl ⟨u, rfl, by omega, fun H6 e6 => ?_⟩⟩
        rw [u2]
        repeat walk_at "w"
        refine ⟨_, _, rfl, ?_⟩
        rw [beq_self_eq_true]
        repeat walk_at "w"
        rw [S_of' "q" [113] (by decide +kernel)]
        refine w_addC (by rw [hz]; (try simp only [List.length_cons, List.length_nil]); omega) ?_
        repeat walk_at "w"
        refine ⟨_, rfl, .inl ⟨u ++ [113], rfl, by simp; omega, fun H7 e7 => ?_⟩⟩
        rw [u3]
        repeat walk_at "w"
        refine ⟨_, _, rfl, ?_⟩
        rw [beq_self_eq_true]
        repeat walk_at "w"
        exact ⟨_, _, rfl, e.trans (e6.trans e7)⟩
      · obtain ⟨k1, o1, rfl, e⟩ := hp
        repeat walk_at "w"
        refine ⟨rfl, fun p6 H6 f6 s6 n6 => ?_⟩
        repeat walk_at "w"
        refine ⟨rfl, fun p7 H7 f7 s7 n7 => ?_⟩
        refine w_eqSL (ns := own) (ms := own) (SqL.of (s7 _ _ f6)) (SqL.of f7) own_ok own_ok ?_
        rw [decide_eq_true rfl]
        exact q _
end

end J
namespace J
open PySem PySem.Spec PyProof.Rows L2
def loose0 : List PySem.Str := ["is_whole", "is_within", "is_word", "own_words", "is_name", "_law_cell", "_law_stream", "_law_take", "_law_own", "_law_letters", "_law_text", "_law_is_name", "_law_number", "_law_thing", "_law_told", "_law_right", "OWN", "LETTERS", "LONGEST"]
def loose : List PySem.Str := loose0
theorem all_ok {P : Program} {w : World} {K : PySem.W.Frag} {mg : Str → Option Value} [c : Facts K mg] : Fn P w K mg "law" 5 ["script"] (spLaw K) := by
  have G__law_cell := ok_law_cell (P := P) (w := w) (K := K)
  have G__law_own := ok_law_own (P := P) (w := w) (K := K)
  have G__law_is_name := ok_law_is_name (P := P) (w := w) (K := K) G__law_own
  have G__law_take := ok_law_take (P := P) (w := w) (K := K)
  have G__law_number := ok_law_number (P := P) (w := w) (K := K) G__law_take
  have G__law_letters := ok_law_letters (P := P) (w := w) (K := K) G__law_take
  have G__law_text := ok_law_text (P := P) (w := w) (K := K) G__law_letters G__law_own G__law_take
  have G__law_thing := ok_law_thing (P := P) (w := w) (K := K) G__law_take
  have G__law_told := ok_law_told (P := P) (w := w) (K := K)
  have G_own_words := ok_own_words (P := P) (w := w) (K := K)
  have G_is_name := ok_is_name (P := P) (w := w) (K := K) G_own_words
  have G_is_whole := ok_is_whole (P := P) (w := w) (K := K)
  have G_is_within := ok_is_within (P := P) (w := w) (K := K) G_is_whole
  have G_is_word := ok_is_word (P := P) (w := w) (K := K) G_is_within
  have G__law_right := ok_law_right (P := P) (w := w) (K := K) G__law_is_name G__law_number G__law_take G__law_text G__law_thing G__law_told G_is_name G_is_whole G_is_within G_is_word
  have G__law_stream := ok_law_stream (P := P) (w := w) (K := K)
  have G_law := ok_law (P := P) (w := w) (K := K) G__law_cell G__law_own G__law_right G__law_stream G__law_told G_is_name G_own_words
  exact G_law
abbrev rowR : PySem.W.OpenRow := PySem.W.OpenLaw.row PySem.Challenge.rw_rowsjoined_k01_words_names_numbers
abbrev hk : PySem.W.Hook := He.hookD 4 fa fn
def ob (s : PySem.W.SharedT) : He.AlD := He.obsDG 4 fa fn (HandSHeadRun.getT s)
theorem ob_eq (s : PySem.W.SharedT) : ob s = hk.obs s.abs := He.obsDG_eq (HandSHeadRun.getT_eq s)
theorem run (w : World) : HandSHeadRun.RunEq rowR (PySem.W.view rowR.prog [21]) hk ob 4000 loose w := by
  intro os
  kernel_rfl
theorem heldF {P : Program} {w : World} {K : PySem.W.Frag} {h : Heap} {mg : Str → Option Value} {f : Addr} (X : K.In h) (G : h.Ns mainGlobals mg) (hfa : mg ("law" : Str) = some (.ref f)) (c : He.SaysD fa fn K) :
    ∃ fd : FuncData, (∀ (s : Shared) (v : Value), BindsTo s fd ⟨[v], []⟩ [("script", v)]) ∧ ∀ base : Heap, K.In base → base.Ns mainGlobals mg → FnOk P w K mg base CX0 5 f fd ["script"] (spLaw K) := by
  have C := facts_of X G c
  have e := hfa.symm.trans C.g_law
  cases e
  obtain ⟨fd, h1, _, h3⟩ := (all_ok (P := P) (w := w) (K := K)).ex
  exact ⟨fd, fun s v => h3 s [v] rfl, fun base _ _ => h1 base⟩
end J
open PySem PySem.W PySem.Calls PyProof.Rows
theorem PySem.Challenge.cw_rowsjoined_k01_words_names_numbers_holds : PySem.Challenge.rw_rowsjoined_k01_words_names_numbers.Holds := by
  w_on; o_law
  refine HandSHeadRun.head_any (r := J.rowR) (q := view J.rowR.prog [21]) (H := J.hk) (ob := J.ob) (M := 4000) (loose := J.loose) (d := HandSHeadRun.topDef J.rowR.prog 21) (kwd := []) J.ob_eq
    (by kernel_rfl) (fun s => by kernel_rfl) J.run (by kernel_rfl) (by kernel_rfl) (by kernel_rfl) (by rfl) (by first | assumption | decide +kernel) (by decide +kernel) ⟨rfl, rfl, rfl, rfl, rfl, by decide +kernel⟩ ?hw ?hc
  case hw => w_witness2
  case hc =>
    refine L2.walk_ofE (l := PySem.Challenge.rw_rowsjoined_k01_words_names_numbers) (n := 63) (k := 5) (x := "script") (CX := L2.CX0) rfl (by decide) (by kernel_rfl) ⟨rfl, by decide, by decide⟩ ?F (fun _ _ _ _ z => z)
    intro w mg fa h Y G hmg0
    obtain ⟨K, KX, c⟩ := Y
    have hmg : mg ("law" : PySem.Str) = some (.ref fa) := by
      have e : (HandSHeadRun.topDef J.rowR.prog 21).name = ("law" : PySem.Str) := by kernel_rfl
      rw [← e]
      exact hmg0
    obtain ⟨fd, hb, hF⟩ := J.heldF (P := (PySem.Challenge.rw_rowsjoined_k01_words_names_numbers).prog) (w := w) KX G hmg c
    exact ⟨K, fd, _, KX, hb, fun H a ns hl hO hS => J.law_in hl hO hS, hF⟩
