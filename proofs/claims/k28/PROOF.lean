import PyProof.Rows.All
import Wide.All
import OpenK.AllK
import Wide.FinOn
import Lean
import HandS.Base
import HandS.Call
import HandS.Ends
import HandS.EndBits
import HandS.List
import HandS.Comp
import HandS.Dict
import HandS.Iter
import HandS.Text
import HandS.Wide
import HandS.Words
import HandS.WordsList
import HandS.Defaults
import HandS.IsInst
import HandS.Rev
import HandS.TupAny
import HandS.TryOnly
import HandS.Zip
import HandS.Walk
import HandS.Style
import HandS.Flow
import HandS.Head0
import HandS.Head1
import HandS.Head2
import HandS.HeadEnd
import HandS.HeadHook1
import HandS.HeadHook2
import PySem.Challenge.RW_rowsjoined_k28_parts_and_what_sets_rest
set_option Elab.async false
set_option linter.all false
set_option maxRecDepth 100000
set_option maxHeartbeats 4000000
namespace J
open PySem PySem.Spec PyProof.Rows L2

/-! ### frames -/
def But (s : Addr) (H H' : Hp) : Prop := ∀ b o, b ≠ s → H b = some o → H' b = some o
theorem _root_.L2.Same.one {H : Hp} {p : Addr} {o : HO} (h : H p = none) : Same H (upd H p o) := fun a u e => by
  rw [upd_ne (ne_of_none e h)]; exact e
theorem But.of {s : Addr} {H H' : Hp} (e : Same H H') : But s H H' := fun b o _ h => e b o h
theorem But.refl (s : Addr) (H : Hp) : But s H H := fun _ _ _ h => h
theorem But.trans {s : Addr} {H H1 H2 : Hp} (a : But s H H1) (b : But s H1 H2) : But s H H2 := fun c o n h => b c o n (a c o n h)
theorem But.at {s b : Addr} {H H' : Hp} {o : HO} (e : But s H H') (n : b ≠ s) (h : H b = some o) : H' b = some o := e b o n h
theorem But.upd (s : Addr) (H : Hp) (o : HO) : But s H (upd H s o) := fun b u n h => by rw [upd_ne n]; exact h
/-- all that was there stays, what lies at s was not there -/
theorem But.new {s : Addr} {H H1 H2 : Hp} (e : Same H H1) (n : H s = none) (k : But s H1 H2) : Same H H2 := fun b o h => k b o (ne_of_none h n) (e b o h)

theorem But.new2 {s t : Addr} {H H1 H2 : Hp} (e : But s H H1) (n : H t = none) (k : But t H1 H2) : But s H H2 := fun b o hs h => k b o (ne_of_none h n) (e b o hs h)
theorem But.back {s p : Addr} {H H' : Hp} (e : But s H H') (hp : p ≠ s) (h : H' p = none) : H p = none := by
  cases q : H p with
  | none => rfl
  | some o => rw [e p o hp q] at h; cases h
theorem But.back' {s p : Addr} {H H' : Hp} {o : HO} (e : But s H H') (hs : H' s = some o) (h : H' p = none) : H p = none := e.back (fun z => by rw [z, hs] at h; cases h) h
/-- a stream of draws -/
def Stm (H : Hp) (s : Addr) : Prop := ∃ a b c : Int, H s = some (.lst [.int a, .int b, .int c])
theorem stm_ne {s p : Addr} {H : Hp} (h : Stm H s) (n : H p = none) : p ≠ s := fun q => by
  obtain ⟨_, _, _, g⟩ := h
  rw [← q, n] at g
  cases g
theorem But.tup {s b : Addr} {H H' : Hp} {xs : List V} (e : But s H H') (t : Stm H s) (h : H b = some (.tup xs)) : H' b = some (.tup xs) := by
  obtain ⟨_, _, _, t⟩ := t
  exact e b _ (ne_of h t (by intro q; cases q)) h
theorem But.tupL {s b : Addr} {H H' : Hp} {xs ys : List V} (e : But s H H') (t : H s = some (.lst ys)) (h : H b = some (.tup xs)) : H' b = some (.tup xs) := e b _ (ne_of h t (by intro q; cases q)) h
theorem But.sqTL {K : PySem.W.Frag} {s a : Addr} {H H' : Hp} {xs ys : List V} (e : But s H H') (t : H s = some (.lst ys)) (h : SqT K H a xs) : SqT K H' a xs := by
  rcases h with (h | ⟨o, h⟩) | h
  · exact .inl (.inl (e _ _ (ne_of h t (by intro q; cases q)) h))
  · exact .inl (.inr ⟨o, e _ _ (ne_of h t (by intro q; cases q)) h⟩)
  · exact .inr h
theorem But.stm {s a : Addr} {H H' : Hp} (e : But s H H') (n : a ≠ s) (h : Stm H a) : Stm H' a := by
  obtain ⟨x, y, z, h⟩ := h
  exact ⟨x, y, z, e _ _ n h⟩
theorem _root_.L2.Same.back {H H' : Hp} {p : Addr} (e : Same H H') (h : H' p = none) : H p = none := e.free h
theorem But.frz {s b : Addr} {H H' : Hp} {o : Obj} {u : HO} (e : But s H H') (t : Stm H s) (h : H b = some (.frz o u)) : H' b = some (.frz o u) := by
  obtain ⟨_, _, _, t⟩ := t
  exact e b _ (ne_of h t (by intro q; cases q)) h
theorem But.sqT {K : PySem.W.Frag} {s a : Addr} {H H' : Hp} {xs : List V} (e : But s H H') (t : Stm H s) (h : SqT K H a xs) : SqT K H' a xs := by
  rcases h with (h | ⟨o, h⟩) | h
  · exact .inl (.inl (e.tup t h))
  · exact .inl (.inr ⟨o, e.frz t h⟩)
  · exact .inr h
theorem But.sqL {K : PySem.W.Frag} {s a : Addr} {H H' : Hp} {xs : List V} (e : But s H H') (n : a ≠ s) (h : SqL K H a xs) : SqL K H' a xs := by
  rcases h with (h | ⟨o, h⟩) | h
  · exact .inl (.inl (e a _ n h))
  · exact .inl (.inr ⟨o, e a _ n h⟩)
  · exact .inr h
theorem _root_.L2.Same.sqT {K : PySem.W.Frag} {H H' : Hp} {a : Addr} {xs : List V} (e : Same H H') (h : SqT K H a xs) : SqT K H' a xs := by
  rcases h with (h | ⟨o, h⟩) | h
  · exact .inl (.inl (e _ _ h))
  · exact .inl (.inr ⟨o, e _ _ h⟩)
  · exact .inr h
theorem _root_.L2.Same.sqL {K : PySem.W.Frag} {H H' : Hp} {a : Addr} {xs : List V} (e : Same H H') (h : SqL K H a xs) : SqL K H' a xs := e.seq h
theorem _root_.L2.Same.stm {H H' : Hp} {s : Addr} (e : Same H H') (h : Stm H s) : Stm H' s := by
  obtain ⟨a, b, c, h⟩ := h
  exact ⟨a, b, c, e _ _ h⟩
theorem _root_.L2.Same.at {H H' : Hp} {b : Addr} {o : HO} (e : Same H H') (h : H b = some o) : H' b = some o := e b o h
/-- a list that stands, seen past a list changed elsewhere -/
theorem sqL_upd {K : PySem.W.Frag} {H : Hp} {a p : Addr} {o : HO} {xs : List V} (n : a ≠ p) (h : SqL K H a xs) : SqL K (upd H p o) a xs := by
  rcases h with (h | ⟨u, h⟩) | h
  · exact .inl (.inl (by rw [upd_ne n]; exact h))
  · exact .inl (.inr ⟨u, by rw [upd_ne n]; exact h⟩)
  · exact .inr h
theorem sqT_updL {K : PySem.W.Frag} {H : Hp} {a p : Addr} {o : HO} {xs ys : List V} (hp : H p = some (.lst ys)) (h : SqT K H a xs) : SqT K (upd H p o) a xs := by
  rcases h with (h | ⟨u, h⟩) | h
  · exact .inl (.inl (by rw [upd_ne (ne_of h hp (by intro q; cases q))]; exact h))
  · exact .inl (.inr ⟨u, by rw [upd_ne (ne_of h hp (by intro q; cases q))]; exact h⟩)
  · exact .inr h
theorem stm_upd {H : Hp} {a p : Addr} {o : HO} (n : a ≠ p) (h : Stm H a) : Stm (upd H p o) a := by
  obtain ⟨x, y, z, h⟩ := h
  exact ⟨x, y, z, by rw [upd_ne n]; exact h⟩
theorem at_updL {H : Hp} {a p : Addr} {o u : HO} (n : a ≠ p) (h : H a = some u) : upd H p o a = some u := by rw [upd_ne n]; exact h

/-! ### readings, step by step -/
section
variable {K : PySem.W.Frag} {σ : L2.St} {H : Hp} {i : Nat} {v x y z : V} {ta tb tc te tv : TE} {Q : VK} {nx : L2.St → Hp → Prop} {rt : VK} {bk ct : L2.St → Hp → Prop} {t u : TS} {tt tu : TT}
theorem w_seq (k : t ⟨u ⟨nx, rt, bk, ct⟩, rt, bk, ct⟩ σ H) : tSeq t u ⟨nx, rt, bk, ct⟩ σ H := k
theorem w_asg {g : TG} (k : te σ H fun x H1 => g x σ H1 nx) : tAsg te g ⟨nx, rt, bk, ct⟩ σ H := k
theorem w_gName {R : L2.St → Hp → Prop} (k : R (σ.set i (some v)) H) : gName i v σ H R := k
theorem w_ret (k : te σ H rt) : tRet te ⟨nx, rt, bk, ct⟩ σ H := k
theorem w_retN (k : rt .non H) : tRetN ⟨nx, rt, bk, ct⟩ σ H := k
theorem w_drop (k : te σ H fun _ H1 => nx σ H1) : tDrop te ⟨nx, rt, bk, ct⟩ σ H := k
theorem w_next (k : nx σ H) : tNext ⟨nx, rt, bk, ct⟩ σ H := k
theorem w_break (k : bk σ H) : tBreak ⟨nx, rt, bk, ct⟩ σ H := k
theorem w_cont (k : ct σ H) : tCont ⟨nx, rt, bk, ct⟩ σ H := k
theorem w_ifS (k : tt σ H fun b H1 => if b = true then t ⟨nx, rt, bk, ct⟩ σ H1 else u ⟨nx, rt, bk, ct⟩ σ H1) : tIfS tt t u ⟨nx, rt, bk, ct⟩ σ H := k
theorem w_var (h : σ[i]? = some (some v)) (k : Q v H) : tVar i σ H Q := ⟨v, h, k⟩
theorem w_c (k : Q v H) : tC v σ H Q := k
theorem w_op {r : R2} (k : ta σ H fun x H1 => tb σ H1 fun y H2 => r x y H2 Q) : tOp r ta tb σ H Q := k
theorem w_un {r : V → Hp → VK → Prop} (k : ta σ H fun x H1 => r x H1 Q) : tUn r ta σ H Q := k
theorem w_rU {g : Int → V} {n : Int} (k : Q (g n) H) : rU g (.int n) H Q := ⟨n, rfl, k⟩
theorem w_rI0 {g : Int → Int → V} {m n : Int} (k : Q (g m n) H) : rI0 g (.int m) (.int n) H Q := ⟨m, n, rfl, rfl, k⟩
theorem w_rI {C : Int → Int → Prop} {g : Int → Int → V} {m n : Int} (c : C m n) (k : Q (g m n) H) : rI C g (.int m) (.int n) H Q := ⟨m, n, rfl, rfl, c, k⟩
theorem w_nil {R : List V → Hp → Prop} (k : R [] H) : tNil σ H R := k
theorem w_cons {tr : TA} {R : List V → Hp → Prop} (k : te σ H fun x H1 => tr σ H1 fun xs H2 => R (x :: xs) H2) : tCons te tr σ H R := k
/-- a new object -/
def NewO (o : HO) (H : Hp) (Q : VK) : Prop := ∀ p, H p = none → Q (.ref p) (upd H p o)
theorem w_new {o : HO} (k : ∀ p H', H p = none → Same H H' → H' p = some o → Q (.ref p) H') : NewO o H Q := fun p hp => k p _ hp (Same.one hp) upd_same
/-- an object changed -/
def ChgO (l : Addr) (o : HO) (H : Hp) (R : Hp → Prop) : Prop := R (upd H l o)
theorem w_chg {l : Addr} {o : HO} {R : Hp → Prop} (k : ∀ H', But l H H' → H' l = some o → R H') : ChgO l o H R := k _ (But.upd _ _ _) upd_same
theorem w_tup {tr : TA} (k : tr σ H fun xs H1 => xs.length ≤ sizeLine ∧ NewO (.tup xs) H1 Q) : tTup tr σ H Q := k
theorem w_lst {tr : TA} (k : tr σ H fun xs H1 => xs.length ≤ sizeLine ∧ NewO (.lst xs) H1 Q) : tLst tr σ H Q := k
theorem w_cb {r : List V → Hp → VK → Prop} {tr : TA} (k : tr σ H fun vs H1 => r vs H1 Q) : tCB r tr σ H Q := k
theorem w_call {sp : Sp} {E : XK} {tr : TA} (k : tr σ H fun vs H1 => sp vs H1 Q E) : tCall sp [] E tr σ H Q := by
  show tr σ H fun vs H1 => sp (vs ++ []) H1 Q E
  simp only [List.append_nil]
  exact k
theorem w_chain {r r' : R2} (k : ta σ H fun x H1 => tb σ H1 fun y H2 => r x y H2 fun z H3 => ∃ k, z = .bl k ∧ if k = true then tc σ H3 (fun w H4 => r' y w H4 Q) else Q (.bl false) H3) : tChain r r' ta tb tc σ H Q := k
theorem w_test {R : Bool → Hp → Prop} (k : te σ H fun x H' => ∃ b, x = .bl b ∧ R b H') : tTest te σ H R := k
theorem w_tB {R : Bool → Hp → Prop} (k : te σ H fun x H' => ∃ b, x = .bl b ∧ R b H') : tB te σ H R := k
theorem w_bl {b : Bool} {R : Bool → Prop} (k : R b) : ∃ c, V.bl b = .bl c ∧ R c := ⟨b, rfl, k⟩
theorem w_and {R : Bool → Hp → Prop} (k : tt σ H fun c H1 => if c = true then tu σ H1 R else R false H1) : tAnd tt tu σ H R := k
theorem w_or {R : Bool → Hp → Prop} (k : tt σ H fun c H1 => if c = true then R true H1 else tu σ H1 R) : tOr tt tu σ H R := k
theorem w_not {R : Bool → Hp → Prop} (k : tt σ H fun c H1 => R (!c) H1) : tNot tt σ H R := k
theorem w_andV (k : ta σ H fun x H1 => ∃ c, x = .bl c ∧ if c = true then tb σ H1 Q else Q (.bl false) H1) : tAndV ta tb σ H Q := k
theorem w_orV (k : ta σ H fun x H1 => ∃ c, x = .bl c ∧ if c = true then Q (.bl true) H1 else tb σ H1 Q) : tOrV ta tb σ H Q := k
theorem w_ifE (k : tt σ H fun c H1 => if c = true then ta σ H1 Q else tb σ H1 Q) : tIf tt ta tb σ H Q := k
theorem w_notV (k : ta σ H fun x H1 => ∃ c, x = .bl c ∧ Q (.bl (!c)) H1) : tNotV ta σ H Q := k

/-- or, and: of two tests that leave the heap -/
theorem w_orP (p q : Prop) [Decidable p] [Decidable q] {R : Bool → Hp → Prop} (ht : ∀ S : Bool → Hp → Prop, S (decide p) H → tt σ H S) (hu : ∀ S : Bool → Hp → Prop, S (decide q) H → tu σ H S) (k : ∀ b : Bool, (b = true ↔ p ∨ q) → R b H) : tOr tt tu σ H R := by
  refine w_or (ht _ ?_)
  by_cases hp : p
  · rw [decide_eq_true hp]; exact iteT (k _ (by simp [hp]))
  · rw [decide_eq_false hp]; exact iteF (hu _ (k _ (by simp [hp])))
theorem w_andP (p q : Prop) [Decidable p] [Decidable q] {R : Bool → Hp → Prop} (ht : ∀ S : Bool → Hp → Prop, S (decide p) H → tt σ H S) (hu : ∀ S : Bool → Hp → Prop, S (decide q) H → tu σ H S) (k : ∀ b : Bool, (b = true ↔ p ∧ q) → R b H) : tAnd tt tu σ H R := by
  refine w_and (ht _ ?_)
  by_cases hp : p
  · rw [decide_eq_true hp]; exact iteT (hu _ (k _ (by simp [hp])))
  · rw [decide_eq_false hp]; exact iteF (k _ (by simp [hp]))
/-- and, or: first what either answer comes to, where Φ of the heap -/
theorem w_andK (Φ : Hp → Prop) {R : Bool → Hp → Prop} (hR : ∀ b H', Φ H' → R b H') (k : (∀ b H', Φ H' → R b H') → tt σ H fun c H1 => if c = true then tu σ H1 R else R false H1) : tAnd tt tu σ H R := k hR
theorem w_orK (Φ : Hp → Prop) {R : Bool → Hp → Prop} (hR : ∀ b H', Φ H' → R b H') (k : (∀ b H', Φ H' → R b H') → tt σ H fun c H1 => if c = true then R true H1 else tu σ H1 R) : tOr tt tu σ H R := k hR
theorem w_nT {A B : Prop} (k : B) : if (!true) = true then A else B := k
theorem w_nF {A B : Prop} (k : A) : if (!false) = true then A else B := k
theorem w_decT {p A B : Prop} [Decidable p] (h : p) (k : A) : if decide p = true then A else B := by rw [decide_eq_true h]; exact iteT k
theorem w_decF {p A B : Prop} [Decidable p] (h : ¬ p) (k : B) : if decide p = true then A else B := by rw [decide_eq_false h]; exact iteF k
/-! ### operators, together -/
def rAddS : R2 := fun x y H Q => ∃ i j, x = .str i ∧ y = .str j ∧ i.length + j.length ≤ sizeLine ∧ Q (.str (i ++ j)) H
def rAddA (K : PySem.W.Frag) : R2 := fun x y H Q => rI0 (fun i j => .int (i + j)) x y H Q ∨ (rAddS x y H Q ∨ (rCat x y H Q ∨ rCatT K x y H Q))
theorem op_addA {X : Cx} {K : PySem.W.Frag} (hK : X.K = K) : OpR X (binaryOp .Add) (rAddA K) := by
  subst hK
  exact op_add.or (OpR.or (r := rAddS) op_add_str (op_cat.or op_catT))
theorem w_addI {m n : Int} (k : Q (.int (m + n)) H) : rAddA K (.int m) (.int n) H Q := .inl ⟨m, n, rfl, rfl, k⟩
theorem w_addS {a b : Str} (h : a.length + b.length ≤ sizeLine) (k : Q (.str (a ++ b)) H) : rAddA K (.str a) (.str b) H Q := .inr (.inl ⟨a, b, rfl, rfl, h, k⟩)
theorem w_addL {l b : Addr} {xs zs : List V} (h1 : H l = some (.lst xs)) (h2 : H b = some (.lst zs)) (h : xs.length + zs.length ≤ sizeLine) (k : NewO (.lst (xs ++ zs)) H Q) :
    rAddA K (.ref l) (.ref b) H Q := .inr (.inr (.inl ⟨l, b, xs, zs, rfl, rfl, h1, h2, h, k⟩))
def rMulA : R2 := fun x y H Q => rI CMul (fun i j => .int (i * j)) x y H Q ∨ rRep x y H Q
theorem op_mulA {X : Cx} : OpR X (binaryOp .Mult) rMulA := op_mul.or op_rep
theorem w_mulI {m n : Int} (c : CMul m n) (k : Q (.int (m * n)) H) : rMulA (.int m) (.int n) H Q := .inl ⟨m, n, rfl, rfl, c, k⟩
def rEqA (K : PySem.W.Frag) : R2 := fun x y H Q => rEq x y H Q ∨ rEqD K x y H Q
def rNeA (K : PySem.W.Frag) : R2 := fun x y H Q => rNe x y H Q ∨ rNeD K x y H Q
theorem op_eqA {X : Cx} {K : PySem.W.Frag} (hK : X.K = K) (hu : X.A.units + 64 < cLine) : OpR X (compareOp .Eq) (rEqA K) := by
  subst hK
  exact op_eq.or (op_eqD hu)
theorem op_neA {X : Cx} {K : PySem.W.Frag} (hK : X.K = K) (hu : X.A.units + 64 < cLine) : OpR X (compareOp .NotEq) (rNeA K) := by
  subst hK
  exact op_ne.or (op_neD hu)
theorem w_eqI {m n : Int} (k : Q (.bl (decide (m = n))) H) : rEqA K (.int m) (.int n) H Q := .inl ⟨rfl, by rw [show decide (V.int m = V.int n) = decide (m = n) by rw [dec_int]; rfl]; exact k⟩
theorem w_neI {m n : Int} (k : Q (.bl (!decide (m = n))) H) : rNeA K (.int m) (.int n) H Q := .inl ⟨rfl, by rw [show decide (V.int m = V.int n) = decide (m = n) by rw [dec_int]; rfl]; exact k⟩
theorem w_eqS {m n : Str} (k : Q (.bl (decide (m = n))) H) : rEqA K (.str m) (.str n) H Q := .inl ⟨rfl, by rw [dec_str]; exact k⟩
theorem w_neS {m n : Str} (k : Q (.bl (!decide (m = n))) H) : rNeA K (.str m) (.str n) H Q := .inl ⟨rfl, by rw [dec_str]; exact k⟩
theorem w_eqB {m n : Bool} (k : Q (.bl (m == n)) H) : rEqA K (.bl m) (.bl n) H Q := .inl ⟨rfl, by rw [dec_bl]; exact k⟩
theorem w_neB {m n : Bool} (k : Q (.bl (!(m == n))) H) : rNeA K (.bl m) (.bl n) H Q := .inl ⟨rfl, by rw [dec_bl]; exact k⟩
theorem w_eqD {d e : PyData} (hd : Dp K H x d) (he : Dp K H y e) (sd : SeqAt.shaped d = true) (se : SeqAt.shaped e = true) (k : Q (.bl (PyData.eqv d e)) H) : rEqA K x y H Q := .inr ⟨d, e, hd, he, sd, se, k⟩
theorem w_neD {d e : PyData} (hd : Dp K H x d) (he : Dp K H y e) (sd : SeqAt.shaped d = true) (se : SeqAt.shaped e = true) (k : Q (.bl (!PyData.eqv d e)) H) : rNeA K x y H Q := .inr ⟨d, e, hd, he, sd, se, k⟩
/-- in, of texts and of things in a list or a tuple -/
def rInStr (neg : Bool) : R2 := fun x y H Q => ∃ i j, x = .str i ∧ y = .str j ∧ Q (.bl (if neg then !(!(Builtin.Str.occurrences j i 0 j.length 1).isEmpty) else !(Builtin.Str.occurrences j i 0 j.length 1).isEmpty)) H
def rInA (K : PySem.W.Frag) (neg : Bool) : R2 := fun x y H Q => rIn K neg x y H Q ∨ rInStr neg x y H Q
theorem op_inA {X : Cx} {K : PySem.W.Frag} (hK : X.K = K) : OpR X (compareOp .In) (rInA K false) := by
  subst hK
  exact op_in_seq.or (fun pins s σ H x y v u Q I rx ry h => op_in_str pins s σ H x y v u Q I rx ry h)
theorem op_notInA {X : Cx} {K : PySem.W.Frag} (hK : X.K = K) : OpR X (compareOp .NotIn) (rInA K true) := by
  subst hK
  exact op_notIn_seq.or (fun pins s σ H x y v u Q I rx ry h => op_notIn_str pins s σ H x y v u Q I rx ry h)
theorem w_inL {p : Addr} {xs : List V} (h : SqL K H p xs) (hx : flatV x = true) (ha : xs.all flatV = true) (k : Q (.bl (inV x xs)) H) : rInA K false x (.ref p) H Q := .inl ⟨p, xs, rfl, .inl h, hx, ha, k⟩
theorem w_inT {p : Addr} {xs : List V} (h : SqT K H p xs) (hx : flatV x = true) (ha : xs.all flatV = true) (k : Q (.bl (inV x xs)) H) : rInA K false x (.ref p) H Q := .inl ⟨p, xs, rfl, .inr h, hx, ha, k⟩
theorem w_niL {p : Addr} {xs : List V} (h : SqL K H p xs) (hx : flatV x = true) (ha : xs.all flatV = true) (k : Q (.bl (!inV x xs)) H) : rInA K true x (.ref p) H Q := .inl ⟨p, xs, rfl, .inl h, hx, ha, k⟩
theorem w_niT {p : Addr} {xs : List V} (h : SqT K H p xs) (hx : flatV x = true) (ha : xs.all flatV = true) (k : Q (.bl (!inV x xs)) H) : rInA K true x (.ref p) H Q := .inl ⟨p, xs, rfl, .inr h, hx, ha, k⟩
/-- subscripts -/
theorem ix_any {X : Cx} {K : PySem.W.Frag} (hK : X.K = K) : IxR X (rIx K) := by
  subst hK
  exact ix_seq
theorem w_ixL {p : Addr} {xs : List V} {n : Int} (h : SqL K H p xs) (ha : atI xs n = some v) (k : Q v H) : rIx K (.ref p) (.int n) H Q := .inl ⟨p, xs, n, v, rfl, rfl, h, ha, k⟩
theorem w_ixT {p : Addr} {xs : List V} {n : Int} (h : SqT K H p xs) (ha : atI xs n = some v) (k : Q v H) : rIx K (.ref p) (.int n) H Q := .inr (.inl ⟨p, xs, n, v, rfl, rfl, h, ha, k⟩)
theorem w_ixS {a : Str} {c : Nat} {n : Int} (h : a.length ≤ sizeLine) (ha : atI a.cps.toList n = some c) (k : Q (.str ⟨#[c]⟩) H) : rIx K (.str a) (.int n) H Q := .inr (.inr ⟨a, n, c, rfl, rfl, h, ha, k⟩)
/-! slices -/
def rSlAny (K : PySem.W.Frag) : V → Option Int → Option Int → Hp → VK → Prop := fun x lo hi H Q => rSlL K x lo hi H Q ∨ (rSlS x lo hi H Q ∨ rSlA K x lo hi H Q)
/-- calls -/
def rInt1 : List V → Hp → VK → Prop := fun xs H Q => (∃ i, xs = [.int i] ∧ Q (.int i) H) ∨ ∃ k, xs = [.bl k] ∧ Q (.int (if k then 1 else 0)) H
theorem call_int1A {X : Cx} : CallR X (.type "int") rInt1 := call_int1
theorem w_int1 {n : Int} (k : Q (.int n) H) : rInt1 [.int n] H Q := .inl ⟨n, rfl, k⟩
theorem w_int1b {b : Bool} (k : Q (.int (if b then 1 else 0)) H) : rInt1 [.bl b] H Q := .inr ⟨b, rfl, k⟩
def rLenA (K : PySem.W.Frag) : List V → Hp → VK → Prop := fun xs H Q => ∃ x n, xs = [x] ∧ LenV K x H n ∧ Q (.int n) H
theorem call_lenA {X : Cx} {K : PySem.W.Frag} (hK : X.K = K) : CallR X (.builtin "len") (rLenA K) := by
  subst hK
  exact call_len
theorem w_lenL {p : Addr} {xs : List V} (h : SqL K H p xs) (k : Q (.int xs.length) H) : rLenA K [.ref p] H Q := ⟨_, _, rfl, .inl ⟨xs, h, rfl⟩, k⟩
theorem w_lenT {p : Addr} {xs : List V} (h : SqT K H p xs) (k : Q (.int xs.length) H) : rLenA K [.ref p] H Q := ⟨_, _, rfl, .inr ⟨xs, h, rfl⟩, k⟩
theorem w_lenS {a : Str} (h : a.length ≤ sizeLine) (k : Q (.int a.length) H) : rLenA K [.str a] H Q := ⟨_, _, rfl, ⟨h, rfl⟩, k⟩
def rAbsA : List V → Hp → VK → Prop := fun xs H Q => ∃ i, xs = [.int i] ∧ Q (.int (if i < 0 then -i else i)) H
theorem call_absA {X : Cx} : CallR X (.builtin "abs") rAbsA := call_abs
def rMax2 : List V → Hp → VK → Prop := fun xs H Q => ∃ i j, xs = [.int i, .int j] ∧ Q (.int (if j > i then j else i)) H
def rMin2 : List V → Hp → VK → Prop := fun xs H Q => ∃ i j, xs = [.int i, .int j] ∧ Q (.int (if j < i then j else i)) H
theorem call_max2A {X : Cx} (hc : X.calm = true) : CallR X (.builtin "max") rMax2 := call_max2 hc
theorem call_min2A {X : Cx} (hc : X.calm = true) : CallR X (.builtin "min") rMin2 := call_min2 hc
theorem max_if (i j : Int) : (if j > i then j else i) = max i j := by split <;> omega
theorem min_if (i j : Int) : (if j < i then j else i) = min i j := by split <;> omega
theorem w_max2 {i j : Int} (k : Q (.int (max i j)) H) : rMax2 [.int i, .int j] H Q := ⟨i, j, rfl, by rw [max_if]; exact k⟩
theorem w_min2 {i j : Int} (k : Q (.int (min i j)) H) : rMin2 [.int i, .int j] H Q := ⟨i, j, rfl, by rw [min_if]; exact k⟩
def rBool1 : List V → Hp → VK → Prop := fun xs H Q => (∃ i, xs = [.int i] ∧ Q (.bl (i != 0)) H) ∨ ∃ k, xs = [.bl k] ∧ Q (.bl k) H
theorem call_bool1A {X : Cx} : CallR X (.type "bool") rBool1 := call_bool1
def rStrI : List V → Hp → VK → Prop := fun xs H Q => ∃ i, xs = [.int i] ∧ i.natAbs.log2 < 1920 ∧ Q (.str (toString i)) H
theorem call_strA {X : Cx} : CallR X (.type "str") rStrI := call_str_int
theorem w_strI {n : Int} (h : n.natAbs.log2 < 1920) (k : Q (.str (toString n)) H) : rStrI [.int n] H Q := ⟨n, rfl, h, k⟩
theorem w_size {xs : List V} {R : Prop} (h : xs.length ≤ sizeLine) (k : R) : xs.length ≤ sizeLine ∧ R := ⟨h, k⟩
/-- stores by place -/
theorem w_gSub {to ti : TE} {ts : TSet} {R : L2.St → Hp → Prop} (k : to σ H fun o H1 => ti σ H1 fun i H2 => ts o i v H2 fun H3 => R σ H3) : gSub to ti ts v σ H R := k
theorem w_setL {l : Addr} {xs : List V} {n : Int} {j : Nat} {R : Hp → Prop} (h : H l = some (.lst xs)) (hj : ixN xs.length n = some j) (k : ChgO l (.lst (xs.set j v)) H R) : rSetL (.ref l) (.int n) v H R := ⟨l, xs, n, j, rfl, rfl, h, hj, k⟩
/-- methods of lists -/
theorem w_bm {T : String} {r : V → List V → Hp → VK → Prop} {tr : TA} (k : ta σ H fun x H1 => tyV K T x H1 ∧ tr σ H1 fun xs H2 => r x xs H2 Q) : tBM K T r ta tr σ H Q := k
theorem w_bm0 {T : String} {r : V → List V → Hp → VK → Prop} (k : ta σ H fun x H1 => tyV K T x H1 ∧ r x [] H1 Q) : tBM0 K T r ta σ H Q := k
theorem w_tyL {p : Addr} {xs : List V} {R : Prop} (h : SqL K H p xs) (k : R) : tyV K "list" (.ref p) H ∧ R := ⟨.inl ⟨rfl, xs, h⟩, k⟩
theorem w_tyS {a : Str} {R : Prop} (k : R) : tyV K "str" (.str a) H ∧ R := ⟨rfl, k⟩
theorem w_append {l : Addr} {xs : List V} (h : H l = some (.lst xs)) (hz : xs.length < sizeLine) (k : ChgO l (.lst (xs ++ [v])) H (Q .non)) : rAppend (.ref l) [v] H Q := ⟨l, xs, v, rfl, rfl, h, hz, k⟩
theorem w_clear {l : Addr} {xs : List V} (h : H l = some (.lst xs)) (k : ChgO l (.lst []) H (Q .non)) : rClear (.ref l) [] H Q := ⟨l, xs, rfl, rfl, h, k⟩
end

/-! ### loops -/
section
variable {K : PySem.W.Frag} {σ : L2.St} {H : Hp} {a D : Addr} {xs : List V} {g : TG} {tb : TS} {nx : L2.St → Hp → Prop} {rt : VK} {bk ct : L2.St → Hp → Prop} {tl te : TE} {ta : TA} {tt : TT} {Q : VK} {vs : List Nat} {j : Nat}
def WFor (J : It) (g : TG) (tb : TS) (nx : L2.St → Hp → Prop) (rt : VK) (σ : L2.St) (H : Hp) : Prop := ∃ W : Nat → Nat → L2.St → Hp → Prop, (∃ m, W 0 m σ H) ∧ ∀ i m σ H, W i m σ H →
  (J.stop i H ∧ nx σ H) ∨ (J.go i H ∧ ∃ N : L2.St → Hp → Prop, (∀ σ' H', N σ' H' → ∃ m', m' < m ∧ W (i + 1) m' σ' H') ∧ ∀ x H', J.yld i H x H' → g x σ H' fun σ2 H2 => tb ⟨N, rt, nx, N⟩ σ2 H2)
theorem w_forL (k : tl σ H fun x H1 => ∃ a, x = .ref a ∧ (∃ xs, SqL K H1 a xs) ∧ WFor (Itl K a) g tb nx rt σ H1) : tFor (iList K tl) g tb ⟨nx, rt, bk, ct⟩ σ H := k
theorem w_forT (k : tl σ H fun x H1 => ∃ a, x = .ref a ∧ (∃ xs, SqT K H1 a xs) ∧ WFor (Itt K a) g tb nx rt σ H1) : tFor (iTup K tl) g tb ⟨nx, rt, bk, ct⟩ σ H := k
theorem w_forR1 (k : ta σ H fun vs H1 => ∃ j : Int, vs = [.int j] ∧ -(2 ^ 62) ≤ j ∧ j < 2 ^ 62 ∧ WFor (Itr 0 j.toNat) g tb nx rt σ H1) : tFor (iRng1 ta) g tb ⟨nx, rt, bk, ct⟩ σ H := k
theorem w_forR2 (k : ta σ H fun vs H1 => ∃ i j : Int, vs = [.int i, .int j] ∧ (-(2 ^ 62) ≤ i ∧ i < 2 ^ 62 ∧ -(2 ^ 62) ≤ j ∧ j < 2 ^ 62) ∧ WFor (Itr i (j - i).toNat) g tb nx rt σ H1) : tFor (iRng2 ta) g tb ⟨nx, rt, bk, ct⟩ σ H := k
/-- over a list that stands: the word by the turn, the slots, the heap -/
theorem fl_list (xs : List V) (Pv : Nat → L2.St → Hp → Prop) (hS : SqL K H a xs) (h0 : Pv 0 σ H) (hl : ∀ i σ H, i ≤ xs.length → Pv i σ H → SqL K H a xs)
    (hs : ∀ i x σ H, xs[i]? = some x → Pv i σ H → g x σ H fun σ2 H2 => tb ⟨Pv (i + 1), rt, nx, Pv (i + 1)⟩ σ2 H2) (hd : ∀ σ H, Pv xs.length σ H → nx σ H) :
    ∃ b, V.ref a = .ref b ∧ (∃ xs, SqL K H b xs) ∧ WFor (Itl K b) g tb nx rt σ H := ⟨a, rfl, ⟨xs, hS⟩, for_list (D := ⟨nx, rt, fun _ _ => False, fun _ _ => False⟩) Pv h0 hl hs hd⟩
theorem fl_tup (xs : List V) (Pv : Nat → L2.St → Hp → Prop) (hS : SqT K H a xs) (h0 : Pv 0 σ H) (hl : ∀ i σ H, i ≤ xs.length → Pv i σ H → SqT K H a xs)
    (hs : ∀ i x σ H, xs[i]? = some x → Pv i σ H → g x σ H fun σ2 H2 => tb ⟨Pv (i + 1), rt, nx, Pv (i + 1)⟩ σ2 H2) (hd : ∀ σ H, Pv xs.length σ H → nx σ H) :
    ∃ b, V.ref a = .ref b ∧ (∃ xs, SqT K H b xs) ∧ WFor (Itt K b) g tb nx rt σ H := ⟨a, rfl, ⟨xs, hS⟩, for_tup (D := ⟨nx, rt, fun _ _ => False, fun _ _ => False⟩) Pv h0 hl hs hd⟩
theorem fl_rng1 {n : Int} (Pv : Nat → L2.St → Hp → Prop) (hb : n < 2 ^ 62) (hb0 : -(2 ^ 62) ≤ n) (h0 : Pv 0 σ H)
    (hs : ∀ i σ H, i < n.toNat → Pv i σ H → g (.int (i : Int)) σ H fun σ2 H2 => tb ⟨Pv (i + 1), rt, nx, Pv (i + 1)⟩ σ2 H2) (hd : ∀ σ H, Pv n.toNat σ H → nx σ H) :
    ∃ j : Int, [V.int n] = [.int j] ∧ -(2 ^ 62) ≤ j ∧ j < 2 ^ 62 ∧ WFor (Itr 0 j.toNat) g tb nx rt σ H := by
  refine ⟨n, rfl, hb0, hb, for_range (D := ⟨nx, rt, fun _ _ => False, fun _ _ => False⟩) Pv h0 (fun i σ H hi p => ?_) hd⟩
  rw [Int.zero_add]
  exact hs i σ H hi p
theorem fl_rng2 {m n : Int} (Pv : Nat → L2.St → Hp → Prop) (hb : -(2 ^ 62) ≤ m ∧ m < 2 ^ 62 ∧ -(2 ^ 62) ≤ n ∧ n < 2 ^ 62) (h0 : Pv 0 σ H)
    (hs : ∀ i σ H, i < (n - m).toNat → Pv i σ H → g (.int (m + (i : Int))) σ H fun σ2 H2 => tb ⟨Pv (i + 1), rt, nx, Pv (i + 1)⟩ σ2 H2) (hd : ∀ σ H, Pv (n - m).toNat σ H → nx σ H) :
    ∃ i j : Int, [V.int m, V.int n] = [.int i, .int j] ∧ (-(2 ^ 62) ≤ i ∧ i < 2 ^ 62 ∧ -(2 ^ 62) ≤ j ∧ j < 2 ^ 62) ∧ WFor (Itr i (j - i).toNat) g tb nx rt σ H :=
  ⟨m, n, rfl, hb, for_range (D := ⟨nx, rt, fun _ _ => False, fun _ _ => False⟩) Pv h0 hs hd⟩
/-- over a short list, turn by turn -/
def runL (K : PySem.W.Frag) (a : Addr) (all : List V) (g : TG) (tb : TS) (nx : L2.St → Hp → Prop) (rt : VK) : List V → L2.St → Hp → Prop
  | [], σ, H => nx σ H
  | x :: r, σ, H => g x σ H fun σ2 H2 => tb ⟨fun σ' H' => SqL K H' a all ∧ runL K a all g tb nx rt r σ' H', rt, nx, fun σ' H' => SqL K H' a all ∧ runL K a all g tb nx rt r σ' H'⟩ σ2 H2
theorem fl_run (xs : List V) (hS : SqL K H a xs) (k : runL K a xs g tb nx rt xs σ H) : ∃ b, V.ref a = .ref b ∧ (∃ xs, SqL K H b xs) ∧ WFor (Itl K b) g tb nx rt σ H := by
  refine fl_list xs (fun i σ H => SqL K H a xs ∧ runL K a xs g tb nx rt (xs.drop i) σ H) hS ⟨hS, by rw [List.drop_zero]; exact k⟩ (fun _ _ _ _ h => h.1) (fun i x σ H hi h => ?_) (fun σ H h => ?_)
  · have e : xs.drop i = x :: xs.drop (i + 1) := by
      obtain ⟨hl, rfl⟩ := List.getElem?_eq_some_iff.mp hi
      exact List.drop_eq_getElem_cons hl
    have h2 := h.2
    rw [e] at h2
    exact h2
  · have h2 := h.2
    rw [List.drop_length] at h2
    exact h2
theorem w_runN (k : nx σ H) : runL K a xs g tb nx rt [] σ H := k
theorem w_runC {x : V} {r : List V} (k : g x σ H fun σ2 H2 => tb ⟨fun σ' H' => SqL K H' a xs ∧ runL K a xs g tb nx rt r σ' H', rt, nx, fun σ' H' => SqL K H' a xs ∧ runL K a xs g tb nx rt r σ' H'⟩ σ2 H2) :
    runL K a xs g tb nx rt (x :: r) σ H := k
/-- the first of two, by what stands -/
theorem w_both {A B : Prop} (h : A) (k : B) : A ∧ B := ⟨h, k⟩
/-! comprehensions -/
def WLc (J : It) (g : TG) (tt : TT) (te : TE) (vs : List Nat) (σ : L2.St) (D : Addr) (H1 : Hp) (Q : VK) : Prop := ∃ W : Nat → Nat → Hp → Prop, (∃ m, W 0 m (upd H1 D (.lst []))) ∧ ∀ i m H, W i m H →
  (J.stop i H ∧ Q (.ref D) H) ∨ (J.go i H ∧ ∃ Nx : Hp → Prop, (∀ H', Nx H' → ∃ m', m' < m ∧ W (i + 1) m' H') ∧ ∀ x H', J.yld i H x H' → g x (wipe σ vs) H' fun σ2 H2 => wipe σ2 vs = wipe σ vs ∧ tt σ2 H2 fun b H3 =>
    if b = true then te σ2 H3 fun y H4 => ∃ acc, H4 D = some (.lst acc) ∧ acc.length < sizeLine ∧ Nx (upd H4 D (.lst (acc ++ [y]))) else Nx H3)
theorem w_lcL (k : tl σ H fun x H1 => ∃ a, x = .ref a ∧ (∃ xs, SqL K H1 a xs) ∧ ∀ D, H1 D = none → WLc (Itl K a) g tt te vs σ D H1 Q) : tLc (iList K tl) g tt te vs σ H Q := k
theorem w_lcT (k : tl σ H fun x H1 => ∃ a, x = .ref a ∧ (∃ xs, SqT K H1 a xs) ∧ ∀ D, H1 D = none → WLc (Itt K a) g tt te vs σ D H1 Q) : tLc (iTup K tl) g tt te vs σ H Q := k
theorem w_lcR1 (k : ta σ H fun us H1 => ∃ j : Int, us = [.int j] ∧ -(2 ^ 62) ≤ j ∧ j < 2 ^ 62 ∧ ∀ D, H1 D = none → WLc (Itr 0 j.toNat) g tt te vs σ D H1 Q) : tLc (iRng1 ta) g tt te vs σ H Q := k
theorem wipe1 (σ : L2.St) (j : Nat) (x : Option V) : wipe ((wipe σ [j]).set j x) [j] = wipe σ [j] := by
  show (((σ.set j none).set j x).set j none) = σ.set j none
  rw [List.set_set, List.set_set]
def LcEnd (D : Addr) (Pv : Nat → List V → Hp → Prop) (i : Nat) (y : V) (H4 : Hp) : Prop := ∃ acc, H4 D = some (.lst acc) ∧ acc.length < sizeLine ∧
  ∃ ys, ys.length ≤ i + 1 ∧ upd H4 D (.lst (acc ++ [y])) D = some (.lst ys) ∧ Pv (i + 1) ys (upd H4 D (.lst (acc ++ [y])))
theorem lc_end {D : Addr} {Pv : Nat → List V → Hp → Prop} {i : Nat} {y : V} {H4 : Hp} {ys : List V} (h : H4 D = some (.lst ys)) (hl : ys.length ≤ i) (hz : ys.length < sizeLine) (k : ∀ H', But D H4 H' → H' D = some (.lst (ys ++ [y])) → Pv (i + 1) (ys ++ [y]) H') : LcEnd D Pv i y H4 :=
  ⟨ys, h, hz, ys ++ [y], by rw [List.length_append]; exact Nat.succ_le_succ hl, upd_same, k _ (But.upd _ _ _) upd_same⟩
def LcSkip (D : Addr) (Pv : Nat → List V → Hp → Prop) (i : Nat) (H4 : Hp) : Prop := ∃ ys, ys.length ≤ i + 1 ∧ H4 D = some (.lst ys) ∧ Pv (i + 1) ys H4
theorem lc_skip {D : Addr} {Pv : Nat → List V → Hp → Prop} {i : Nat} {H4 : Hp} {ys : List V} (h : H4 D = some (.lst ys)) (hl : ys.length ≤ i) (k : Pv (i + 1) ys H4) : LcSkip D Pv i H4 := ⟨ys, Nat.le_succ_of_le hl, h, k⟩
/-- over a list: the word by the turn, the list so far, the heap; any test -/
theorem lc_L (xs : List V) (Pv : Addr → Nat → List V → Hp → Prop) (hS : SqL K H a xs) (h0 : ∀ D H', H D = none → Same H H' → H' D = some (.lst []) → Pv D 0 [] H')
    (hl : ∀ D, H D = none → ∀ i ys H', i ≤ xs.length → H' D = some (.lst ys) → Pv D i ys H' → SqL K H' a xs)
    (hs : ∀ D, H D = none → ∀ i x ys H', xs[i]? = some x → ys.length ≤ i → H' D = some (.lst ys) → Pv D i ys H' → tt ((wipe σ [j]).set j (some x)) H' fun b H3 => if b = true then te ((wipe σ [j]).set j (some x)) H3 fun y H4 => LcEnd D (Pv D) i y H4 else LcSkip D (Pv D) i H3)
    (hd : ∀ D, H D = none → ∀ ys H', ys.length ≤ xs.length → H' D = some (.lst ys) → Pv D xs.length ys H' → Q (.ref D) H') :
    ∃ b, V.ref a = .ref b ∧ (∃ xs, SqL K H b xs) ∧ ∀ D, H D = none → WLc (Itl K b) (gName j) tt te [j] σ D H Q :=
  ⟨a, rfl, ⟨xs, hS⟩, fun D hD => lc_list (xs := xs) (fun i H' => ∃ ys, ys.length ≤ i ∧ H' D = some (.lst ys) ∧ Pv D i ys H') ⟨[], Nat.le_refl _, upd_same, h0 D _ hD (Same.one hD) upd_same⟩ (fun i H' hi ⟨ys, _, e, p⟩ => hl D hD i ys H' hi e p)
    (fun i x H' hi ⟨ys, e, e2, p⟩ => ⟨wipe1 _ _ _, hs D hD i x ys H' hi e e2 p⟩) (fun H' ⟨ys, e, e2, p⟩ => hd D hD ys H' e e2 p)⟩
theorem lc_T (xs : List V) (Pv : Addr → Nat → List V → Hp → Prop) (hS : SqT K H a xs) (h0 : ∀ D H', H D = none → Same H H' → H' D = some (.lst []) → Pv D 0 [] H')
    (hl : ∀ D, H D = none → ∀ i ys H', i ≤ xs.length → H' D = some (.lst ys) → Pv D i ys H' → SqT K H' a xs)
    (hs : ∀ D, H D = none → ∀ i x ys H', xs[i]? = some x → ys.length ≤ i → H' D = some (.lst ys) → Pv D i ys H' → tt ((wipe σ [j]).set j (some x)) H' fun b H3 => if b = true then te ((wipe σ [j]).set j (some x)) H3 fun y H4 => LcEnd D (Pv D) i y H4 else LcSkip D (Pv D) i H3)
    (hd : ∀ D, H D = none → ∀ ys H', ys.length ≤ xs.length → H' D = some (.lst ys) → Pv D xs.length ys H' → Q (.ref D) H') :
    ∃ b, V.ref a = .ref b ∧ (∃ xs, SqT K H b xs) ∧ ∀ D, H D = none → WLc (Itt K b) (gName j) tt te [j] σ D H Q :=
  ⟨a, rfl, ⟨xs, hS⟩, fun D hD => lc_tup (xs := xs) (fun i H' => ∃ ys, ys.length ≤ i ∧ H' D = some (.lst ys) ∧ Pv D i ys H') ⟨[], Nat.le_refl _, upd_same, h0 D _ hD (Same.one hD) upd_same⟩ (fun i H' hi ⟨ys, _, e, p⟩ => hl D hD i ys H' hi e p)
    (fun i x H' hi ⟨ys, e, e2, p⟩ => ⟨wipe1 _ _ _, hs D hD i x ys H' hi e e2 p⟩) (fun H' ⟨ys, e, e2, p⟩ => hd D hD ys H' e e2 p)⟩
theorem lc_R1 {n : Int} (Pv : Addr → Nat → List V → Hp → Prop) (hb0 : -(2 ^ 62) ≤ n) (hb : n < 2 ^ 62) (h0 : ∀ D H', H D = none → Same H H' → H' D = some (.lst []) → Pv D 0 [] H')
    (hs : ∀ D, H D = none → ∀ (i : Nat) ys H', i < n.toNat → ys.length ≤ i → H' D = some (.lst ys) → Pv D i ys H' → tt ((wipe σ [j]).set j (some (.int (i : Int)))) H' fun b H3 => if b = true then te ((wipe σ [j]).set j (some (.int (i : Int)))) H3 fun y H4 => LcEnd D (Pv D) i y H4 else LcSkip D (Pv D) i H3)
    (hd : ∀ D, H D = none → ∀ ys H', ys.length ≤ n.toNat → H' D = some (.lst ys) → Pv D n.toNat ys H' → Q (.ref D) H') :
    ∃ m : Int, [V.int n] = [.int m] ∧ -(2 ^ 62) ≤ m ∧ m < 2 ^ 62 ∧ ∀ D, H D = none → WLc (Itr 0 m.toNat) (gName j) tt te [j] σ D H Q :=
  ⟨n, rfl, hb0, hb, fun D hD => lc_range (lo := 0) (n := n.toNat) (fun i H' => ∃ ys, ys.length ≤ i ∧ H' D = some (.lst ys) ∧ Pv D i ys H') ⟨[], Nat.le_refl _, upd_same, h0 D _ hD (Same.one hD) upd_same⟩
    (fun i H' hi ⟨ys, e, e2, p⟩ => by
      rw [Int.zero_add]
      exact ⟨wipe1 _ _ _, hs D hD i ys H' hi e e2 p⟩) (fun H' ⟨ys, e, e2, p⟩ => hd D hD ys H' e e2 p)⟩
theorem w_yes {R : Bool → Hp → Prop} (k : R true H) : tYes σ H R := k
end

/-! ### data -/
mutual
/-- data of None, ints, texts, lists, tuples, not too deep: what == tells of it is whether it is the same -/
def clean : PyData → Bool
  | .none => true
  | .int _ => true
  | .str x => PyData.strOk x
  | .list xs => cleanAll xs
  | .tuple xs => cleanAll xs
  | .bool _ => false
  | .dict _ => false
def cleanAll : List PyData → Bool
  | [] => true
  | x :: xs => clean x && cleanAll xs
end
mutual
theorem clean_lay : ∀ d : PyData, clean d = true → d.canLay0 = true
  | .none, _ => by rw [PyData.canLay0]
  | .int _, _ => by rw [PyData.canLay0]
  | .str x, h => by rw [PyData.canLay0]; rw [clean] at h; exact h
  | .list xs, h => by rw [PyData.canLay0]; rw [clean] at h; exact cleanAll_lay xs h
  | .tuple xs, h => by rw [PyData.canLay0]; rw [clean] at h; exact cleanAll_lay xs h
  | .bool _, h => by rw [clean] at h; cases h
  | .dict _, h => by rw [clean] at h; cases h
theorem cleanAll_lay : ∀ ds : List PyData, cleanAll ds = true → PyData.canLayAll0 ds = true
  | [], _ => by rw [PyData.canLayAll0]
  | x :: xs, h => by
    rw [cleanAll, Bool.and_eq_true] at h
    rw [PyData.canLayAll0, clean_lay x h.1, cleanAll_lay xs h.2]; rfl
end
mutual
theorem clean_eqv : ∀ d e : PyData, clean d = true → clean e = true → (PyData.eqv d e = true ↔ d = e)
  | .none, e, _, _ => by cases e <;> simp [PyData.eqv]
  | .int i, e, _, he => by cases e <;> simp [PyData.eqv]; simp [clean] at he
  | .str x, e, _, _ => by cases e <;> simp [PyData.eqv]
  | .list xs, e, h, he => by
    cases e <;> simp [PyData.eqv]
    simp only [clean] at h he
    exact cleanAll_eqv xs _ h he
  | .tuple xs, e, h, he => by
    cases e <;> simp [PyData.eqv]
    simp only [clean] at h he
    exact cleanAll_eqv xs _ h he
  | .bool _, _, h, _ => by simp [clean] at h
  | .dict _, _, h, _ => by simp [clean] at h
theorem cleanAll_eqv : ∀ ds es : List PyData, cleanAll ds = true → cleanAll es = true → (PyData.eqvAll ds es = true ↔ ds = es)
  | [], es, _, _ => by cases es <;> simp [PyData.eqvAll]
  | x :: xs, [], _, _ => by simp [PyData.eqvAll]
  | x :: xs, y :: ys, h, he => by
    simp only [cleanAll, Bool.and_eq_true] at h he
    simp only [PyData.eqvAll, Bool.and_eq_true, clean_eqv x y h.1 he.1, cleanAll_eqv xs ys h.2 he.2, List.cons.injEq]
end
/-- to be compared by == -/
structure Cmp (d : PyData) : Prop where
  clean : clean d = true
  depth : d.depth ≤ 64
theorem Cmp.shaped {d : PyData} (c : Cmp d) : SeqAt.shaped d = true := by
  unfold SeqAt.shaped
  rw [clean_lay d c.clean, Bool.true_and, decide_eq_true_eq]
  exact c.depth
theorem eqv_iff {d e : PyData} (c : Cmp d) (c' : Cmp e) : PyData.eqv d e = true ↔ d = e := clean_eqv d e c.clean c'.clean
open Classical in
theorem w_eqP {K : PySem.W.Frag} {H : Hp} {x y : V} {Q : VK} {d e : PyData} (hd : Dp K H x d) (he : Dp K H y e) (cd : Cmp d) (ce : Cmp e) (k : ∀ b : Bool, (b = true ↔ d = e) → Q (.bl b) H) : rEqA K x y H Q :=
  w_eqD hd he cd.shaped ce.shaped (k _ (eqv_iff cd ce))
theorem w_neP {K : PySem.W.Frag} {H : Hp} {x y : V} {Q : VK} {d e : PyData} (hd : Dp K H x d) (he : Dp K H y e) (cd : Cmp d) (ce : Cmp e) (k : ∀ b : Bool, (b = true ↔ d ≠ e) → Q (.bl b) H) : rNeA K x y H Q :=
  w_neD hd he cd.shaped ce.shaped (k _ (by
    have h := eqv_iff cd ce
    cases hb : PyData.eqv d e <;> rw [hb] at h <;> simp at h ⊢ <;> exact h))
theorem dpAll_ints {K : PySem.W.Frag} {H : Hp} : ∀ ns : List Int, DpAll K H (ns.map V.int) (ns.map PyData.int)
  | [] => .nil
  | n :: ns => .cons (.int n) (dpAll_ints ns)
theorem dp_ints {K : PySem.W.Frag} {H : Hp} {a : Addr} {ns : List Int} (h : SqL K H a (ns.map V.int)) : Dp K H (.ref a) (.list (ns.map PyData.int)) := .lst h (dpAll_ints ns)
theorem cleanAll_ints : ∀ ns : List Int, cleanAll (ns.map PyData.int) = true
  | [] => by simp [cleanAll]
  | n :: ns => by rw [List.map_cons, cleanAll, cleanAll_ints ns, clean]; rfl
theorem depthAll_ints : ∀ ns : List Int, PyData.depthAll (ns.map PyData.int) = 0
  | [] => by simp [PyData.depthAll]
  | n :: ns => by rw [List.map_cons, PyData.depthAll, depthAll_ints ns, PyData.depth]; rfl
theorem cmp_ints (ns : List Int) : Cmp (.list (ns.map PyData.int)) := ⟨by rw [clean]; exact cleanAll_ints ns, by rw [PyData.depth, depthAll_ints]; decide⟩
theorem map_int_inj {ns ms : List Int} : PyData.list (ns.map PyData.int) = .list (ms.map PyData.int) ↔ ns = ms := by
  constructor
  · intro h
    have h2 : ns.map PyData.int = ms.map PyData.int := by injection h
    exact (List.map_inj_right (f := PyData.int) (fun x y e => by injection e)).mp h2
  · intro h; rw [h]
theorem w_eqIL {K : PySem.W.Frag} {H : Hp} {p q : Addr} {Q : VK} {ns ms : List Int} (h1 : SqL K H p (ns.map V.int)) (h2 : SqL K H q (ms.map V.int)) (k : Q (.bl (decide (ns = ms))) H) : rEqA K (.ref p) (.ref q) H Q :=
  w_eqP (dp_ints h1) (dp_ints h2) (cmp_ints _) (cmp_ints _) fun b hb => by
    rw [map_int_inj] at hb
    rw [show b = decide (ns = ms) by rw [Bool.eq_iff_iff, hb, decide_eq_true_eq]]
    exact k
theorem w_neIL {K : PySem.W.Frag} {H : Hp} {p q : Addr} {Q : VK} {ns ms : List Int} (h1 : SqL K H p (ns.map V.int)) (h2 : SqL K H q (ms.map V.int)) (k : Q (.bl (!decide (ns = ms))) H) : rNeA K (.ref p) (.ref q) H Q :=
  w_neP (dp_ints h1) (dp_ints h2) (cmp_ints _) (cmp_ints _) fun b hb => by
    rw [ne_eq, map_int_inj] at hb
    rw [show b = !decide (ns = ms) by rw [Bool.eq_iff_iff, hb]; simp]
    exact k
/-! slices -/
section
variable {K : PySem.W.Frag} {σ : L2.St} {H : Hp} {te : TE} {tl th : TO} {Q : VK} {a : Addr} {xs : List V} {lo hi : Option Int}
theorem sl_any {X : Cx} {K : PySem.W.Frag} (hK : X.K = K) : SlR X (rSlAny K) := by
  subst hK
  exact sl_list.or (sl_str.or sl_tupA)
theorem w_sl {r : V → Option Int → Option Int → Hp → VK → Prop} (k : te σ H fun x H1 => tl σ H1 fun l H2 => th σ H2 fun u H3 => r x l u H3 Q) : tSl r te tl th σ H Q := k
theorem w_noPart {R : Option Int → Hp → Prop} (k : R none H) : tNoPart σ H R := k
theorem w_part {R : Option Int → Hp → Prop} (k : te σ H fun x H1 => ∃ i, x = .int i ∧ R (some i) H1) : tPart te σ H R := k
theorem w_int {R : Int → Prop} {n : Int} (k : R n) : ∃ i, V.int n = .int i ∧ R i := ⟨n, rfl, k⟩
theorem w_slL (h : SqL K H a xs) (k : NewO (.lst (cutV xs lo hi)) H Q) : rSlAny K (.ref a) lo hi H Q := .inl ⟨a, xs, rfl, h, k⟩
theorem w_slS {z : Str} (h : z.length ≤ sizeLine) (k : Q (.str (cutS z lo hi)) H) : rSlAny K (.str z) lo hi H Q := .inr (.inl ⟨z, rfl, h, k⟩)
theorem w_rep {l : Addr} {n : Int} (h : H l = some (.lst xs)) (h0 : -(2 ^ 63) ≤ n) (h1 : n < 2 ^ 63) (hz : xs.length * n.toNat ≤ sizeLine) (k : NewO (.lst (List.replicate n.toNat xs).flatten) H Q) : rMulA (.ref l) (.int n) H Q :=
  .inr ⟨l, n, xs, rfl, rfl, h, h0, h1, hz, k⟩
end

/-! ### unpacking: a tuple or a list -/
def gSeq (K : PySem.W.Frag) (n : Nat) (t : TGs) : TG := fun v σ H Q => gLst K n t v σ H Q ∨ gTup K n t v σ H Q
theorem pg_seq {X : Cx} {K : PySem.W.Frag} {pos : Pos} {es : List Expr} {k : Nat} {t : TGs} (n : Nat) (hK : X.K = K) (hc : X.calm = true) (h : PGs X es t)
    (hn : (assignEach es X.env).length = n := by rfl) (hst : (assignEach es X.env).findIdx? (·.1) = none := by rfl) : PG X (.Tuple es k pos) (gSeq K n t) := by
  subst hK
  refine ⟨fun pins s σ H v u Q I r hw => ?_⟩
  rcases hw with hw | hw
  · exact (pg_lst hc h hn hst).run pins s σ H v u Q I r hw
  · exact (pg_tup hc h hn hst).run pins s σ H v u Q I r hw
section
variable {K : PySem.W.Frag} {σ : L2.St} {H : Hp} {R : L2.St → Hp → Prop} {t : TGs} {g : TG} {xs : List V} {a : Addr} {v : V} {n : Nat}
theorem w_seqL (h : SqL K H a xs) (hl : xs.length = n) (k : t xs σ H R) : gSeq K n t (.ref a) σ H R := .inl ⟨a, xs, rfl, h, hl, k⟩
theorem w_seqT (h : SqT K H a xs) (hl : xs.length = n) (k : t xs σ H R) : gSeq K n t (.ref a) σ H R := .inr ⟨a, xs, rfl, h, hl, k⟩
theorem w_gNil (k : R σ H) : gNil [] σ H R := ⟨rfl, k⟩
theorem w_gCons (k : g v σ H fun σ' H' => t xs σ' H' R) : gCons g t (v :: xs) σ H R := ⟨v, xs, rfl, k⟩
end

/-! ### walks of any kind -/
section
variable {K : PySem.W.Frag} {σ : L2.St} {H : Hp} {a b D : Addr} {xs ys : List V} {g : TG} {tb : TS} {nx : L2.St → Hp → Prop} {rt : VK} {bk ct : L2.St → Hp → Prop} {tl te : TE} {ta : TA} {tt : TT} {Q : VK} {vs : List Nat} {J : It} {n : Nat} {G : Hp → Prop} {Y : Nat → Hp → V → Hp → Prop}
theorem wfor_it (w : Walk J n G Y) (Pv : Nat → L2.St → Hp → Prop) (h0 : Pv 0 σ H) (hG : ∀ i σ H, i ≤ n → Pv i σ H → G H)
    (hs : ∀ i x σ H H', i < n → Pv i σ H → Y i H x H' → g x σ H' fun σ2 H2 => tb ⟨Pv (i + 1), rt, nx, Pv (i + 1)⟩ σ2 H2) (hd : ∀ σ H, Pv n σ H → nx σ H) : WFor J g tb nx rt σ H :=
  for_it (D := ⟨nx, rt, fun _ _ => False, fun _ _ => False⟩) w Pv h0 hG hs hd
theorem wlc_it (w : Walk J n G Y) (Pv : Addr → Nat → List V → Hp → Prop) (h0 : ∀ D H', H D = none → Same H H' → H' D = some (.lst []) → Pv D 0 [] H') (hG : ∀ D, H D = none → ∀ i ys H', i ≤ n → H' D = some (.lst ys) → Pv D i ys H' → G H')
    (hs : ∀ D, H D = none → ∀ i x ys H0 H', i < n → ys.length ≤ i → H0 D = some (.lst ys) → Pv D i ys H0 → Y i H0 x H' → g x (wipe σ vs) H' fun σ2 H2 => wipe σ2 vs = wipe σ vs ∧ tt σ2 H2 fun b H3 => if b = true then te σ2 H3 fun y H4 => LcEnd D (Pv D) i y H4 else LcSkip D (Pv D) i H3)
    (hd : ∀ D, H D = none → ∀ ys H', ys.length ≤ n → H' D = some (.lst ys) → Pv D n ys H' → Q (.ref D) H') : ∀ D, H D = none → WLc J g tt te vs σ D H Q := fun D hD =>
  lc_it w (fun i H' => ∃ ys, ys.length ≤ i ∧ H' D = some (.lst ys) ∧ Pv D i ys H') ⟨[], Nat.le_refl _, upd_same, h0 D _ hD (Same.one hD) upd_same⟩ (fun i H' hi ⟨ys, _, e, p⟩ => hG D hD i ys H' hi e p)
    (fun i x H0 H' hi ⟨ys, e, e2, p⟩ y => hs D hD i x ys H0 H' hi e e2 p y) (fun H' ⟨ys, e, e2, p⟩ => hd D hD ys H' e e2 p)
theorem w_forZ (k : ta σ H fun vs H1 => ∃ a b xs ys, vs = [.ref a, .ref b] ∧ SqL K H1 a xs ∧ SqL K H1 b ys ∧ WFor (Itz K a b) g tb nx rt σ H1) : tFor (iZip K ta) g tb ⟨nx, rt, bk, ct⟩ σ H := k
theorem w_forE (k : ta σ H fun vs H1 => ∃ a xs, vs = [.ref a] ∧ SqL K H1 a xs ∧ WFor (Ite K a) g tb nx rt σ H1) : tFor (iEnum K ta) g tb ⟨nx, rt, bk, ct⟩ σ H := k
theorem w_forV (k : te σ H fun v H1 => ∃ (a : Addr) (xs : List V), v = .ref a ∧ ((SqL K H1 a xs ∧ WFor (Itv K a xs.length) g tb nx rt σ H1) ∨ (SqT K H1 a xs ∧ WFor (RT.ItvT K a xs.length) g tb nx rt σ H1))) : tFor (RT.iRevA K te) g tb ⟨nx, rt, bk, ct⟩ σ H := k
theorem w_lcZ (k : ta σ H fun us H1 => ∃ a b xs ys, us = [.ref a, .ref b] ∧ SqL K H1 a xs ∧ SqL K H1 b ys ∧ ∀ D, H1 D = none → WLc (Itz K a b) g tt te vs σ D H1 Q) : tLc (iZip K ta) g tt te vs σ H Q := k
theorem w_lcE (k : ta σ H fun us H1 => ∃ a xs, us = [.ref a] ∧ SqL K H1 a xs ∧ ∀ D, H1 D = none → WLc (Ite K a) g tt te vs σ D H1 Q) : tLc (iEnum K ta) g tt te vs σ H Q := k
/-- zip of two lists, each turn a new pair -/
theorem fl_zip (Pv : Nat → L2.St → Hp → Prop) (hx : SqL K H a xs) (hy : SqL K H b ys) (h0 : Pv 0 σ H) (hG : ∀ i σ H, i ≤ min xs.length ys.length → Pv i σ H → SqL K H a xs ∧ SqL K H b ys)
    (hs : ∀ i x y T σ H H', xs[i]? = some x → ys[i]? = some y → Pv i σ H → H T = none → Same H H' → H' T = some (.tup [x, y]) → g (.ref T) σ H' fun σ2 H2 => tb ⟨Pv (i + 1), rt, nx, Pv (i + 1)⟩ σ2 H2) (hd : ∀ σ H, Pv (min xs.length ys.length) σ H → nx σ H) :
    ∃ p q us ws, [V.ref a, .ref b] = [.ref p, .ref q] ∧ SqL K H p us ∧ SqL K H q ws ∧ WFor (Itz K p q) g tb nx rt σ H :=
  ⟨a, b, xs, ys, rfl, hx, hy, wfor_it (walk_zip rfl) Pv h0 hG (fun i v σ H H' hi p ⟨T, x, y, e, nT, e2, h1, h2⟩ => by subst e e2; exact hs i x y T σ H _ h1 h2 p nT (Same.one nT) upd_same) hd⟩
theorem fl_enum (Pv : Nat → L2.St → Hp → Prop) (hx : SqL K H a xs) (h0 : Pv 0 σ H) (hG : ∀ i σ H, i ≤ xs.length → Pv i σ H → SqL K H a xs)
    (hs : ∀ i x T σ H H', xs[i]? = some x → Pv i σ H → H T = none → Same H H' → H' T = some (.tup [.int (i : Nat), x]) → g (.ref T) σ H' fun σ2 H2 => tb ⟨Pv (i + 1), rt, nx, Pv (i + 1)⟩ σ2 H2) (hd : ∀ σ H, Pv xs.length σ H → nx σ H) :
    ∃ p us, [V.ref a] = [.ref p] ∧ SqL K H p us ∧ WFor (Ite K p) g tb nx rt σ H :=
  ⟨a, xs, rfl, hx, wfor_it walk_enum Pv h0 hG (fun i v σ H H' hi p ⟨T, x, y, e, nT, e2, h1, h2⟩ => by
    subst e e2
    obtain rfl : V.int (i : Nat) = x := Option.some.inj h1
    exact hs i y T σ H _ h2 p nT (Same.one nT) upd_same) hd⟩
theorem fl_rev (Pv : Nat → L2.St → Hp → Prop) (hx : SqL K H a xs) (h0 : Pv 0 σ H) (hG : ∀ i σ H, i ≤ xs.length → Pv i σ H → SqL K H a xs)
    (hs : ∀ i x σ H, i < xs.length → xs[xs.length - 1 - i]? = some x → Pv i σ H → g x σ H fun σ2 H2 => tb ⟨Pv (i + 1), rt, nx, Pv (i + 1)⟩ σ2 H2) (hd : ∀ σ H, Pv xs.length σ H → nx σ H) :
    ∃ (p : Addr) (us : List V), V.ref a = .ref p ∧ ((SqL K H p us ∧ WFor (Itv K p us.length) g tb nx rt σ H) ∨ (SqT K H p us ∧ WFor (RT.ItvT K p us.length) g tb nx rt σ H)) :=
  ⟨a, xs, rfl, .inl ⟨hx, wfor_it walk_rev Pv h0 hG (fun i x σ H H' hi p ⟨e, h⟩ => by subst e; exact hs i x σ _ hi h p) hd⟩⟩
/-- [e for x, y in zip(xs, ys) if ..], its names at i and j -/
theorem wipe2 (σ : L2.St) (i j : Nat) (x y : Option V) (h : i ≠ j) : wipe (((wipe σ [i, j]).set i x).set j y) [i, j] = wipe σ [i, j] := by
  show ((((((σ.set j none).set i none).set i x).set j y).set j none).set i none) = (σ.set j none).set i none
  apply List.ext_getElem?
  intro k
  simp only [List.getElem?_set, List.length_set]
  grind
theorem lc_zip {i0 j0 : Nat} (hij : i0 ≠ j0) (Pv : Addr → Nat → List V → Hp → Prop) (hx : SqL K H a xs) (hy : SqL K H b ys) (h0 : ∀ D H', H D = none → Same H H' → H' D = some (.lst []) → Pv D 0 [] H')
    (hG : ∀ D, H D = none → ∀ i zs H', i ≤ min xs.length ys.length → H' D = some (.lst zs) → Pv D i zs H' → SqL K H' a xs ∧ SqL K H' b ys)
    (hs : ∀ D, H D = none → ∀ i x y zs H0 H', xs[i]? = some x → ys[i]? = some y → zs.length ≤ i → H0 D = some (.lst zs) → Pv D i zs H0 → Same H0 H' → tt (((wipe σ [i0, j0]).set i0 (some x)).set j0 (some y)) H' fun b H3 => if b = true then te (((wipe σ [i0, j0]).set i0 (some x)).set j0 (some y)) H3 fun y H4 => LcEnd D (Pv D) i y H4 else LcSkip D (Pv D) i H3)
    (hd : ∀ D, H D = none → ∀ zs H', zs.length ≤ min xs.length ys.length → H' D = some (.lst zs) → Pv D (min xs.length ys.length) zs H' → Q (.ref D) H') :
    ∃ p q us ws, [V.ref a, .ref b] = [.ref p, .ref q] ∧ SqL K H p us ∧ SqL K H q ws ∧ ∀ D, H D = none → WLc (Itz K p q) (gSeq K 2 (gCons (gName i0) (gCons (gName j0) gNil))) tt te [i0, j0] σ D H Q :=
  ⟨a, b, xs, ys, rfl, hx, hy, wlc_it (walk_zip rfl) Pv h0 hG (fun D hD i v zs H0 H' hi hl e p ⟨T, x, y, ev, nT, e2, h1, h2⟩ => by
    subst ev e2
    exact w_seqT (SqT.of upd_same) rfl (w_gCons (w_gName (w_gCons (w_gName (w_gNil ⟨wipe2 _ _ _ _ _ hij, hs D hD i x y zs H0 _ h1 h2 hl e p (Same.one nT)⟩)))))) hd⟩
end
/-! ### isinstance -/
section
variable {K : PySem.W.Frag} {H : Hp} {Q : VK} {x : V}
theorem call_isiA {X : Cx} {K : PySem.W.Frag} (hK : X.K = K) : CallR X (.builtin "isinstance") (rIsi K) := by
  subst hK
  exact call_isi
theorem pe_gS {X : Cx} {x z : Str} {pos : Pos} (hg : Gl X x) (hm : ∃ t, X.mg x = some (.str z t)) (hd : (x == ("__debug__" : Str)) = false := by decide) : PE X (.Name x pos) (tC (.str z)) := by
  obtain ⟨t, hm⟩ := hm
  exact pe_glob hg hm ⟨t, rfl⟩ hd
theorem pe_gI {X : Cx} {x : Str} {z : Int} {pos : Pos} (hg : Gl X x) (hm : ∃ t, X.mg x = some (.int z t)) (hd : (x == ("__debug__" : Str)) = false := by decide) : PE X (.Name x pos) (tC (.int z)) := by
  obtain ⟨t, hm⟩ := hm
  exact pe_glob hg hm ⟨t, rfl⟩ hd
theorem w_isi {T : String} {a : String} {b : Bool} (h : TyX K H x (.type a)) (e : kitB a T = some b) (k : Q (.bl b) H) : rIsi K [x, .ty T] H Q := ⟨x, .ty T, .type a, .type T, b, rfl, .ty T, h, kit_ty e, k⟩
theorem ty_int {n : Int} : TyX K H (.int n) (.type "int") := .base (.int n)
theorem ty_bl {n : Bool} : TyX K H (.bl n) (.type "bool") := .base (.bl n)
theorem ty_str {n : Str} : TyX K H (.str n) (.type "str") := .base (.str n)
theorem ty_non : TyX K H .non (.type "NoneType") := .base .non
theorem ty_lst {a : Addr} {xs : List V} (h : H a = some (.lst xs)) : TyX K H (.ref a) (.type "list") := .base (.lst h)
theorem ty_sqT {a : Addr} {xs : List V} (h : SqT K H a xs) : TyX K H (.ref a) (.type "tuple") := by
  rcases h with (h | ⟨o, h⟩) | ⟨o, its, n, e, c, _⟩
  · exact .base (.tup h)
  · exact .fTuple h
  · exact .kTuple e c
theorem ty_tup {a : Addr} {xs : List V} (h : H a = some (.tup xs)) : TyX K H (.ref a) (.type "tuple") := .base (.tup h)
theorem ty_dic {a : Addr} {xs : List (Key × V)} (h : H a = some (.dK xs)) : TyX K H (.ref a) (.type "dict") := .base (.dK h)
/-- isinstance with a written tuple of classes -/
def kitAnyB (a : String) : List String → Option Bool
  | [] => some false
  | T :: r => match kitB a T with
    | some true => some true
    | some false => kitAnyB a r
    | none => none
theorem kitAnyB_ok {a : String} : ∀ {Ts : List String} {b : Bool}, kitAnyB a Ts = some b → PySem.W.kitAny K (.type a) (Ts.map Value.type) = some b
  | [], b, h => by
    have : some false = some b := h
    rw [← this]; exact kitAny_nil
  | T :: r, b, h => by
    unfold kitAnyB at h
    cases e : kitB a T with
    | none => rw [e] at h; cases h
    | some c =>
      rw [e] at h
      cases c with
      | true =>
        have : some true = some b := h
        cases this
        exact kitAny_cons (kit_ty e) (fun z => nomatch z) (fun _ => rfl)
      | false => exact kitAny_cons (kit_ty e) (fun _ => kitAnyB_ok h) (fun z => nomatch z)
theorem paired_ty : ∀ Ts : List String, Paired ClsV (Ts.map V.ty) (Ts.map Value.type)
  | [] => .nil
  | T :: r => .cons (.ty T) (paired_ty r)
theorem call_isiTA {X : Cx} {K : PySem.W.Frag} (hK : X.K = K) : CallR X (.builtin "isinstance") (rIsiT K) := by
  subst hK
  exact call_isiT
theorem w_isiT {tp : Addr} {a : String} {b : Bool} (Ts : List String) (h1 : H tp = some (.tup (Ts.map V.ty))) (h : TyX K H x (.type a)) (e : kitAnyB a Ts = some b) (k : Q (.bl b) H) : rIsiT K [x, .ref tp] H Q :=
  ⟨x, tp, _, .type a, _, b, rfl, h1, paired_ty Ts, h, kitAnyB_ok e, k⟩
/-- tuple(xs), list(xs) -/
def rTupOf (K : PySem.W.Frag) : List V → Hp → VK → Prop := fun xs H Q => ∃ p ys, xs = [.ref p] ∧ ((SqL K H p ys ∧ NewO (.tup ys) H Q) ∨ (SqT K H p ys ∧ Q (.ref p) H))
theorem call_tupA {X : Cx} {K : PySem.W.Frag} (hK : X.K = K) : CallR X (.type "tuple") (rTupOf K) := by
  subst hK
  exact call_tuple_of
theorem w_tupL {p : Addr} {ys : List V} (h : SqL K H p ys) (k : NewO (.tup ys) H Q) : rTupOf K [.ref p] H Q := ⟨p, ys, rfl, .inl ⟨h, k⟩⟩
theorem w_tupT {p : Addr} {ys : List V} (h : SqT K H p ys) (k : Q (.ref p) H) : rTupOf K [.ref p] H Q := ⟨p, ys, rfl, .inr ⟨h, k⟩⟩
def rListOf (K : PySem.W.Frag) : List V → Hp → VK → Prop := fun xs H Q => ∃ p ys, xs = [.ref p] ∧ (SqL K H p ys ∨ SqT K H p ys) ∧ NewO (.lst ys) H Q
theorem call_listA {X : Cx} {K : PySem.W.Frag} (hK : X.K = K) : CallR X (.type "list") (rListOf K) := by
  subst hK
  exact call_list_of
theorem w_listL {p : Addr} {ys : List V} (h : SqL K H p ys) (k : NewO (.lst ys) H Q) : rListOf K [.ref p] H Q := ⟨p, ys, rfl, .inl h, k⟩
theorem w_listT {p : Addr} {ys : List V} (h : SqT K H p ys) (k : NewO (.lst ys) H Q) : rListOf K [.ref p] H Q := ⟨p, ys, rfl, .inr h, k⟩
theorem w_slT {σ : L2.St} {lo hi : Option Int} {a : Addr} {xs : List V} (h : SqT K H a xs) (n : ¬ (HT.sIx xs.length 0 lo = 0 ∧ HT.sIx xs.length xs.length hi = xs.length)) (k : NewO (.tup (cutV xs lo hi)) H Q) : rSlAny K (.ref a) lo hi H Q :=
  .inr (.inr ⟨a, xs, rfl, h, fun z => (n z).elim, fun _ => k⟩)
/-- t[1:] -/
theorem cut1 (x : V) (xs : List V) : cutV (x :: xs) (some 1) none = xs := by
  unfold cutV
  have e : HT.sIx (x :: xs).length 0 (some 1) = 1 := by
    show (if (1 : Int) < 0 then ((1 : Int) + ((x :: xs).length : Int)).toNat else min (1 : Int).toNat (x :: xs).length) = 1
    rw [if_neg (by decide), List.length_cons]
    show min 1 (xs.length + 1) = 1
    omega
  rw [e, HT.sIx_none, List.drop_one, List.tail_cons, List.take_of_length_le (by rw [List.length_cons]; omega)]
theorem w_slT1 {σ : L2.St} {a : Addr} {x : V} {xs : List V} (h : SqT K H a (x :: xs)) (k : NewO (.tup xs) H Q) : rSlAny K (.ref a) (some 1) none H Q := w_slT (σ := σ) h (by
  intro ⟨z, _⟩
  have e : HT.sIx (x :: xs).length 0 (some 1) = 1 := by
    show (if (1 : Int) < 0 then ((1 : Int) + ((x :: xs).length : Int)).toNat else min (1 : Int).toNat (x :: xs).length) = 1
    rw [if_neg (by decide), List.length_cons]
    show min 1 (xs.length + 1) = 1
    omega
  rw [e] at z
  cases z) (by rw [cut1]; exact k)
/-- xs[::-1] -/
theorem w_revL {σ : L2.St} {te : TE} (k : te σ H fun x H1 => ∃ a xs, x = .ref a ∧ SqL K H1 a xs ∧ NewO (.lst xs.reverse) H1 Q) : tRevL K te σ H Q := k
theorem w_ref2 {a : Addr} {xs : List V} {R : Addr → List V → Prop} (k : R a xs) : ∃ b ys, V.ref a = .ref b ∧ R b ys := ⟨a, xs, rfl, k⟩
/-- dicts: displays, look-ups -/
theorem w_disp {σ : L2.St} {trs : List (TE × TE)} (k : ∀ p H', H p = none → Same H H' → H' p = some (.dK []) → tPairs trs σ H' fun ps H2 => H2 p = some (.dK []) ∧ ∃ kvs : List (Key × V), ps = kvs.map (fun kv => (kV kv.1, kv.2)) ∧ kvs.length ≤ 15 ∧ ChgO p (.dK (mergeK [] kvs)) H2 (Q (.ref p))) : tDisp trs σ H Q :=
  fun p hp => k p _ hp (Same.one hp) upd_same
theorem w_pairN {σ : L2.St} {R : List (V × V) → Hp → Prop} (k : R [] H) : tPairs [] σ H R := k
theorem w_pairC {σ : L2.St} {tk tv : TE} {r : List (TE × TE)} {R : List (V × V) → Hp → Prop} (k : tk σ H fun x H1 => tv σ H1 fun y H2 => tPairs r σ H2 fun ps H3 => R ((x, y) :: ps) H3) : tPairs ((tk, tv) :: r) σ H R := k
theorem w_dget {σ : L2.St} {td ty : TE} (k : td σ H fun x H1 => ty σ H1 fun y H2 => ∃ a v, x = .ref a ∧ DGet H2 a y (some v) ∧ Q v H2) : tDGet td ty σ H Q := k
theorem w_dgotS {a : Addr} {kvs : List (Key × V)} {z : Str} {v : V} {R : V → Prop} (h : H a = some (.dK kvs)) (e : valV kvs (.inr z) = some v) (k : R v) : ∃ b v, V.ref a = .ref b ∧ DGet H b (.str z) (some v) ∧ R v := ⟨a, v, rfl, by rw [← e]; exact DGet.k (k := .inr z) h, k⟩
theorem w_dgotI {a : Addr} {kvs : List (Key × V)} {z : Int} {v : V} {R : V → Prop} (h : H a = some (.dK kvs)) (e : valV kvs (.inl z) = some v) (k : R v) : ∃ b v, V.ref a = .ref b ∧ DGet H b (.int z) (some v) ∧ R v := ⟨a, v, rfl, by rw [← e]; exact DGet.k (k := .inl z) h, k⟩
/-- texts in lists, and their == -/
theorem dpAll_strs : ∀ ns : List Str, DpAll K H (ns.map V.str) (ns.map PyData.str)
  | [] => .nil
  | n :: ns => .cons (.str n) (dpAll_strs ns)
theorem dp_strs {a : Addr} {ns : List Str} (h : SqL K H a (ns.map V.str)) : Dp K H (.ref a) (.list (ns.map PyData.str)) := .lst h (dpAll_strs ns)
theorem cleanAll_strs : ∀ ns : List Str, (ns.all PyData.strOk) = true → cleanAll (ns.map PyData.str) = true
  | [], _ => by simp [cleanAll]
  | n :: ns, h => by
    rw [List.all_cons, Bool.and_eq_true] at h
    rw [List.map_cons, cleanAll, cleanAll_strs ns h.2, clean, h.1]; rfl
theorem depthAll_strs : ∀ ns : List Str, PyData.depthAll (ns.map PyData.str) = 0
  | [] => by simp [PyData.depthAll]
  | n :: ns => by rw [List.map_cons, PyData.depthAll, depthAll_strs ns, PyData.depth]; rfl
theorem cmp_strs {ns : List Str} (h : (ns.all PyData.strOk) = true) : Cmp (.list (ns.map PyData.str)) := ⟨by rw [clean]; exact cleanAll_strs ns h, by rw [PyData.depth, depthAll_strs]; decide⟩
theorem map_str_inj {ns ms : List Str} : PyData.list (ns.map PyData.str) = .list (ms.map PyData.str) ↔ ns = ms := by
  constructor
  · intro h
    have h2 : ns.map PyData.str = ms.map PyData.str := by injection h
    exact (List.map_inj_right (f := PyData.str) (fun x y e => by injection e)).mp h2
  · intro h; rw [h]
theorem w_eqSL {p q : Addr} {ns ms : List Str} (h1 : SqL K H p (ns.map V.str)) (h2 : SqL K H q (ms.map V.str)) (o1 : (ns.all PyData.strOk) = true) (o2 : (ms.all PyData.strOk) = true) (k : Q (.bl (decide (ns = ms))) H) : rEqA K (.ref p) (.ref q) H Q :=
  w_eqP (dp_strs h1) (dp_strs h2) (cmp_strs o1) (cmp_strs o2) fun b hb => by
    rw [map_str_inj] at hb
    rw [show b = decide (ns = ms) by rw [Bool.eq_iff_iff, hb, decide_eq_true_eq]]
    exact k
theorem w_neSL {p q : Addr} {ns ms : List Str} (h1 : SqL K H p (ns.map V.str)) (h2 : SqL K H q (ms.map V.str)) (o1 : (ns.all PyData.strOk) = true) (o2 : (ms.all PyData.strOk) = true) (k : Q (.bl (!decide (ns = ms))) H) : rNeA K (.ref p) (.ref q) H Q :=
  w_neP (dp_strs h1) (dp_strs h2) (cmp_strs o1) (cmp_strs o2) fun b hb => by
    rw [ne_eq, map_str_inj] at hb
    rw [show b = !decide (ns = ms) by rw [Bool.eq_iff_iff, hb]; simp]
    exact k
/-- a text cut by another one -/
def rSplit : V → List V → Hp → VK → Prop := fun x xs H Q => ∃ a b, x = .str a ∧ xs = [.str b] ∧ (b.length == 0) = false ∧ a.length + 2 ≤ sizeLine ∧ rNewStrs (Txt.split a b) H Q
theorem mt_splitA {X : Cx} : MtR X "str.split" rSplit := mt_split
theorem w_split {a b : Str} {ys : List Str} (e : Txt.split a b = ys) (hb : (b.length == 0) = false) (ha : a.length + 2 ≤ sizeLine) (k : NewO (.lst (ys.map V.str)) H Q) : rSplit (.str a) [.str b] H Q := ⟨a, b, rfl, rfl, hb, ha, by rw [e]; exact k⟩
end

/-! ### what no tuple loses -/
def TS (H H' : Hp) : Prop := ∀ b xs, (H b = some (.tup xs) → H' b = some (.tup xs)) ∧ ∀ u, H b = some (.frz u (.tup xs)) → H' b = some (.frz u (.tup xs))
theorem TS.of {H H' : Hp} (e : Same H H') : TS H H' := fun b _ => ⟨e b _, fun _ => e b _⟩
theorem TS.butL {s : Addr} {H H' : Hp} {ys : List V} (e : But s H H') (t : H s = some (.lst ys)) : TS H H' := fun b _ => ⟨fun h => e b _ (ne_of h t (by intro q; cases q)) h, fun _ h => e b _ (ne_of h t (by intro q; cases q)) h⟩
theorem TS.butS {s : Addr} {H H' : Hp} (e : But s H H') (t : Stm H s) : TS H H' := by
  obtain ⟨_, _, _, t⟩ := t
  exact TS.butL e t
theorem TS.butI {s C dx : Addr} {fs : List (Str × V)} {H H' : Hp} (e : But s H H') (t : H s = some (.ins C dx fs)) : TS H H' := fun b _ => ⟨fun h => e b _ (ne_of h t (by intro q; cases q)) h, fun _ h => e b _ (ne_of h t (by intro q; cases q)) h⟩
theorem TS.trans {H H1 H2 : Hp} (a : TS H H1) (b : TS H1 H2) : TS H H2 := fun c xs => ⟨fun h => (b c xs).1 ((a c xs).1 h), fun u h => (b c xs).2 u ((a c xs).2 u h)⟩
theorem TS.refl (H : Hp) : TS H H := fun _ _ => ⟨fun h => h, fun _ h => h⟩
theorem TS.sqT {K : PySem.W.Frag} {H H' : Hp} {a : Addr} {xs : List V} (e : TS H H') (h : SqT K H a xs) : SqT K H' a xs := by
  rcases h with (h | ⟨o, h⟩) | h
  · exact .inl (.inl ((e a xs).1 h))
  · exact .inl (.inr ⟨o, (e a xs).2 o h⟩)
  · exact .inr h
mutual
/-- tuples all the way -/
def tupD : PyData → Bool
  | .none => true
  | .int _ => true
  | .str _ => true
  | .bool _ => true
  | .list _ => false
  | .tuple xs => tupAll xs
  | .dict _ => false
def tupAll : List PyData → Bool
  | [] => true
  | x :: xs => tupD x && tupAll xs
end
mutual
theorem dp_ts {K : PySem.W.Frag} {H H' : Hp} (e : TS H H') : ∀ (d : PyData) (v : V), tupD d = true → Dp K H v d → Dp K H' v d
  | .none, _, _, h => by cases h; exact .non
  | .int _, _, _, h => by cases h; exact .int _
  | .str _, _, _, h => by cases h; exact .str _
  | .bool _, _, _, h => by cases h; exact .bl _
  | .list _, _, t, _ => by simp [tupD] at t
  | .tuple ds, _, t, h => by
    cases h with
    | tup hs ha => exact .tup (e.sqT hs) (dpAll_ts e ds _ (by simpa [tupD] using t) ha)
  | .dict _, _, t, _ => by simp [tupD] at t
theorem dpAll_ts {K : PySem.W.Frag} {H H' : Hp} (e : TS H H') : ∀ (ds : List PyData) (vs : List V), tupAll ds = true → DpAll K H vs ds → DpAll K H' vs ds
  | [], _, _, h => by cases h; exact .nil
  | d :: ds, _, t, h => by
    rw [tupAll, Bool.and_eq_true] at t
    cases h with
    | cons h1 h2 => exact .cons (dp_ts e d _ t.1 h1) (dpAll_ts e ds _ t.2 h2)
end
section
variable {K : PySem.W.Frag} {H : Hp}
theorem dp_tup {v : V} {ds : List PyData} (h : Dp K H v (.tuple ds)) : ∃ a xs, v = .ref a ∧ SqT K H a xs ∧ DpAll K H xs ds := by
  cases h with
  | tup hs ha => exact ⟨_, _, rfl, hs, ha⟩
theorem dp_str {v : V} {x : Str} (h : Dp K H v (.str x)) : v = .str x := by cases h; rfl
theorem dp_int {v : V} {x : Int} (h : Dp K H v (.int x)) : v = .int x := by cases h; rfl
theorem dpa_nil {vs : List V} (h : DpAll K H vs []) : vs = [] := by cases h; rfl
theorem dpa_cons {vs : List V} {d : PyData} {ds : List PyData} (h : DpAll K H vs (d :: ds)) : ∃ v r, vs = v :: r ∧ Dp K H v d ∧ DpAll K H r ds := by
  cases h with
  | cons a b => exact ⟨_, _, rfl, a, b⟩
theorem dpa_len : ∀ {ds : List PyData} {vs : List V}, DpAll K H vs ds → vs.length = ds.length
  | [], _, h => by cases h; rfl
  | d :: ds, _, h => by
    cases h with
    | cons a b => rw [List.length_cons, List.length_cons, dpa_len b]
theorem dpa_app : ∀ {ds es : List PyData} {vs us : List V}, DpAll K H vs ds → DpAll K H us es → DpAll K H (vs ++ us) (ds ++ es)
  | [], _, _, _, h, h' => by cases h; exact h'
  | d :: ds, _, _, _, h, h' => by
    cases h with
    | cons a b => exact .cons a (dpa_app b h')
theorem dpa_one {v : V} {d : PyData} (h : Dp K H v d) : DpAll K H [v] [d] := .cons h .nil
theorem dpa_at : ∀ {ds : List PyData} {vs : List V} {i : Nat} {d : PyData}, DpAll K H vs ds → ds[i]? = some d → ∃ v, vs[i]? = some v ∧ Dp K H v d
  | [], _, i, _, _, e => by simp at e
  | d :: ds, _, 0, _, h, e => by
    cases h with
    | cons a b => simp at e; subst e; exact ⟨_, rfl, a⟩
  | d :: ds, _, i + 1, _, h, e => by
    cases h with
    | cons a b =>
      have q := dpa_at (ds := ds) (i := i) b (by simpa using e)
      exact q
theorem dpa_at' : ∀ {ds : List PyData} {vs : List V} {i : Nat} {v : V}, DpAll K H vs ds → vs[i]? = some v → ∃ d, ds[i]? = some d ∧ Dp K H v d
  | [], _, i, _, h, e => by cases h; simp at e
  | d :: ds, _, 0, _, h, e => by
    cases h with
    | cons a b => simp at e; subst e; exact ⟨_, rfl, a⟩
  | d :: ds, _, i + 1, _, h, e => by
    cases h with
    | cons a b =>
      have q := dpa_at' (ds := ds) (i := i) b (by simpa using e)
      exact q
theorem tupAll_app : ∀ (a b : List PyData), tupAll (a ++ b) = (tupAll a && tupAll b)
  | [], _ => by simp [tupAll]
  | x :: a, b => by rw [List.cons_append, tupAll, tupAll, tupAll_app a b, Bool.and_assoc]
theorem cleanAll_app : ∀ (a b : List PyData), cleanAll (a ++ b) = (cleanAll a && cleanAll b)
  | [], _ => by simp [cleanAll]
  | x :: a, b => by rw [List.cons_append, cleanAll, cleanAll, cleanAll_app a b, Bool.and_assoc]
end

/-! ### places -/
theorem atI_of {α : Type} {xs : List α} {n : Int} {v : α} (h0 : 0 ≤ n) (h : xs[n.toNat]? = some v) : atI xs n = some v := by
  have e : ((n.toNat : Nat) : Int) = n := Int.toNat_of_nonneg h0
  have q := atI_nat h
  rw [e] at q
  exact q
theorem at0 {α : Type} {a : α} {xs : List α} : atI (a :: xs) 0 = some a := atI_of (Int.le_refl 0) rfl
theorem at1 {α : Type} {a b : α} {xs : List α} : atI (a :: b :: xs) 1 = some b := atI_of (by decide) rfl
theorem at2 {α : Type} {a b c : α} {xs : List α} : atI (a :: b :: c :: xs) 2 = some c := atI_of (by decide) rfl
theorem atI_some {α : Type} {xs : List α} {n : Int} (h0 : 0 ≤ n) (h : n < xs.length) : ∃ v, atI xs n = some v ∧ v ∈ xs ∧ xs[n.toNat]? = some v := by
  have hl : n.toNat < xs.length := by omega
  refine ⟨xs[n.toNat], atI_of h0 (List.getElem?_eq_getElem hl), List.getElem_mem hl, List.getElem?_eq_getElem hl⟩

theorem cdw {i j : Int} (h : 0 < j) (h2 : j < 2 ^ 200) : CDivW i j := wide_div (b := 200) h (by omega) (by decide) (by decide)
/-! ### defs by names -/
/-- the def at f keeps the promise sp -/
def FnA (P : Program) (w : World) (K : PySem.W.Frag) (mg : Str → Option Value) (f : Addr) (k : Nat) (ps : List Str) (sp : Sp) : Prop :=
  ∃ fd, (∀ base, FnOk P w K mg base CX0 k f fd ps sp) ∧ Binds K fd ps [] ∧ ∀ (s : Shared) (us : List Value), us.length = ps.length → BindsTo s fd ⟨us, []⟩ (ps.zip us)
/-- the def of the name x keeps the promise sp -/
structure Fn (P : Program) (w : World) (K : PySem.W.Frag) (mg : Str → Option Value) (x : Str) (k : Nat) (ps : List Str) (sp : Sp) : Prop where
  ex : FnA P w K mg (He.ga K x) k ps sp
  gl : mg x = some (.ref (He.ga K x))
  kp : PySem.W.keepIn K (.ref (He.ga K x)) = true
section
variable {X : Cx} {k : Nat} {x : Str} {ps : List Str} {sp : Sp} {p pos : Pos} {e : Expr} {es : List Expr} {t : TA}
theorem pe_fn (F : Fn X.prog X.w X.K X.mg x k ps sp) (hr : Room k X.A) (hg : Gl X x) (ha : PA X (e :: es) t)
    (hdb : (x == ("__debug__" : Str)) = false := by decide) (he : starEach (e :: es) X.env = (false, eval e X.env) :: starEach es X.env := by rfl) (hpl : (backTo pos (starEach es X.env)).any (·.1) = false := by rfl) :
    PE X (.Call (.Name x p) (e :: es) [] pos) (tCall sp [] E0 t) := by
  obtain ⟨fd, G, b, _⟩ := F.ex
  exact pe_call (G X.base) hr hg F.gl F.kp b .nil pass0 ha hdb he hpl
theorem pe_fn0 (F : Fn X.prog X.w X.K X.mg x k ps sp) (hr : Room k X.A) (hg : Gl X x) (hdb : (x == ("__debug__" : Str)) = false := by decide) :
    PE X (.Call (.Name x p) [] [] pos) (tCall sp [] E0 tNil) := by
  obtain ⟨fd, G, b, _⟩ := F.ex
  exact pe_call0 (G X.base) hr hg F.gl F.kp b .nil pass0 hdb
end
/-- a def's data as the head tells it -/
theorem FnA.mk' {P : Program} {w : World} {K : PySem.W.Frag} {mg : Str → Option Value} {x q : Str} {k : Nat} {N ps : List Str} {sp : Sp} {args : Arguments} {body : List Stmt} {sc : Scope} {f : Addr} {fd : FuncData}
    (F : FunD K x q args body sc [] [] f fd) (S : FnScope N ps sc) (len : ∀ vs H Q E, sp vs H Q E → vs.length = ps.length)
    (hb : ∀ (kV doc pm : Value) (an : Option Addr) (cdv ct : Value) (us : List Value), us.length = ps.length → bindArgs (PySem.W.fnOf x q args body sc .none kV doc pm an cdv ct) ⟨us, []⟩ = pure (ps.zip us))
    (hbody : ∀ (base : Heap) (cdv : Value) (A : Around) (outer : List Env) (s : Shared) (H : Hp) (vs : List V) (Q : VK) (E : XK), Room k (A.deeper (envOfC q sc s.heap.objs.size f cdv)) → sp vs H Q E →
      ∃ t, PSs (cxOf CX0 P w K mg base N q sc f cdv A outer s H E).nox body t ∧ t ⟨fun _ H' => Q .non H', Q, fun _ _ => False, fun _ _ => False⟩ (start N vs) H) : FnA P w K mg f (k + 1) ps sp :=
  ⟨fd, fun base => F.ok S len fun cdv A outer s H vs Q E hr h => by
      obtain ⟨t, d, q⟩ := hbody base cdv A outer s H vs Q E hr h
      exact ⟨t, d.nox, q⟩, F.bindsN hb, F.bindsA hb⟩
theorem Fn.mk' {P : Program} {w : World} {K : PySem.W.Frag} {mg : Str → Option Value} {x : Str} {k : Nat} {N ps : List Str} {sp : Sp} {args : Arguments} {body : List Stmt} {sc : Scope} {fd : FuncData}
    (F : FunD K x x args body sc [] [] (He.ga K x) fd) (gl : mg x = some (.ref (He.ga K x))) (S : FnScope N ps sc) (len : ∀ vs H Q E, sp vs H Q E → vs.length = ps.length)
    (hb : ∀ (kV doc pm : Value) (an : Option Addr) (cdv ct : Value) (us : List Value), us.length = ps.length → bindArgs (PySem.W.fnOf x x args body sc .none kV doc pm an cdv ct) ⟨us, []⟩ = pure (ps.zip us))
    (hbody : ∀ (base : Heap) (cdv : Value) (A : Around) (outer : List Env) (s : Shared) (H : Hp) (vs : List V) (Q : VK) (E : XK), Room k (A.deeper (envOfC x sc s.heap.objs.size (He.ga K x) cdv)) → sp vs H Q E →
      ∃ t, PSs (cxOf CX0 P w K mg base N x sc (He.ga K x) cdv A outer s H E).nox body t ∧ t ⟨fun _ H' => Q .non H', Q, fun _ _ => False, fun _ _ => False⟩ (start N vs) H) : Fn P w K mg x (k + 1) ps sp :=
  ⟨FnA.mk' F S len hb hbody, gl, F.kp⟩
/-! ### classes of the text -/
def tMet (C : Addr) (m : Str) (sp : Sp) (to : TE) (t : TA) : TE := fun σ H Q => to σ H fun x H1 => ∃ a dx fs, x = .ref a ∧ H1 a = some (.ins C dx fs) ∧ fs.lookup m = none ∧ t σ H1 fun vs H2 => sp (x :: vs) H2 Q E0
def tMkI (C : Addr) (sp : Sp) (t : TA) : TE := fun σ H Q => t σ H fun vs H1 => ∀ x dx, H1 x = none → H1 dx = none → dx ≠ x → sp (.ref x :: vs) (upd (upd H1 dx (.own x)) x (.ins C dx [])) (fun v H2 => v = .non ∧ Q (.ref x) H2) E0
theorem tMet_eq (C : Addr) (m : Str) (sp : Sp) (to : TE) (t : TA) : tMeth C m sp [] E0 to t = tMet C m sp to t := by
  unfold tMeth tMet
  simp only [List.append_nil]
theorem tMkI_eq (C : Addr) (sp : Sp) (t : TA) : tMake C sp [] E0 t = tMkI C sp t := by
  unfold tMake tMkI
  simp only [List.append_nil]
theorem PE.or {X : Cx} {e : Expr} {t u : TE} (h : PE X e t) (h' : PE X e u) : PE X e (fun σ H Q => t σ H Q ∨ u σ H Q) := ⟨fun pins s σ H Q I q => by
  rcases q with q | q
  · exact h.run pins s σ H Q I q
  · exact h'.run pins s σ H Q I q⟩
section
variable {X : Cx} {K : PySem.W.Frag} {k : Nat} {m x : Str} {ps : List Str} {sp : Sp} {p pos apos : Pos} {o e : Expr} {es : List Expr} {to : TE} {t : TA} {C : Addr}
theorem pe_met {pl : Sem Bool} (F : FnA X.prog X.w X.K X.mg (He.ma K C m) k ps sp) (hK : X.K = K) (cl : Cls K C) (me : Meth K C m (He.ma K C m)) (hr : Room k X.A) (he : PE X o to) (ha : PA X (e :: es) t)
    (hst : starEach (e :: es) X.env = (false, eval e X.env) :: starEach es X.env := by rfl) (hpl : (backTo pos (starEach es X.env)).any (·.1) = false := by rfl)
    (ht : eval (.Call (.Attribute o m apos) (e :: es) [] pos) X.env = (do
      let ov ← eval o X.env
      standAt apos.atName
      let (f, first) ← holding [ov] (getMethod ov m pl)
      callWith pos f first (backTo pos (starEach (e :: es) X.env)) (backToKw pos (keywordEach [] X.env))) := by rfl) : PE X (.Call (.Attribute o m apos) (e :: es) [] pos) (tMet C m sp to t) := by
  subst hK
  obtain ⟨fd, G, b, _⟩ := F
  rw [← tMet_eq]
  exact pe_meth he cl me (G X.base) hr b .nil pass0 ha hst hpl ht
theorem pe_met0 {pl : Sem Bool} (F : FnA X.prog X.w X.K X.mg (He.ma K C m) k ps sp) (hK : X.K = K) (cl : Cls K C) (me : Meth K C m (He.ma K C m)) (hr : Room k X.A) (he : PE X o to)
    (ht : eval (.Call (.Attribute o m apos) [] [] pos) X.env = (do
      let ov ← eval o X.env
      standAt apos.atName
      let (f, first) ← holding [ov] (getMethod ov m pl)
      callWith pos f first (backTo pos (starEach [] X.env)) (backToKw pos (keywordEach [] X.env))) := by rfl) : PE X (.Call (.Attribute o m apos) [] [] pos) (tMet C m sp to tNil) := by
  subst hK
  obtain ⟨fd, G, b, _⟩ := F
  rw [← tMet_eq]
  exact pe_meth0 he cl me (G X.base) hr b .nil pass0 ht
theorem pe_mkI (F : FnA X.prog X.w X.K X.mg (He.ma K C "__init__") k ps sp) (hK : X.K = K) (M : Mk K C (He.ma K C "__init__")) (hm : X.mg x = some (.ref C)) (hr : Room (k + 1) X.A) (hg : Gl X x) (ha : PA X (e :: es) t)
    (hdb : (x == ("__debug__" : Str)) = false := by decide) (he : starEach (e :: es) X.env = (false, eval e X.env) :: starEach es X.env := by rfl) (hpl : (backTo pos (starEach es X.env)).any (·.1) = false := by rfl) :
    PE X (.Call (.Name x p) (e :: es) [] pos) (tMkI C sp t) := by
  subst hK
  obtain ⟨fd, G, b, _⟩ := F
  rw [← tMkI_eq]
  exact pe_make M (G X.base) hr hg hm b .nil pass0 ha hdb he hpl
theorem pe_mkI0 (F : FnA X.prog X.w X.K X.mg (He.ma K C "__init__") k ps sp) (hK : X.K = K) (M : Mk K C (He.ma K C "__init__")) (hm : X.mg x = some (.ref C)) (hr : Room (k + 1) X.A) (hg : Gl X x)
    (hdb : (x == ("__debug__" : Str)) = false := by decide) : PE X (.Call (.Name x p) [] [] pos) (tMkI C sp tNil) := by
  subst hK
  obtain ⟨fd, G, b, _⟩ := F
  rw [← tMkI_eq]
  exact pe_make0 M (G X.base) hr hg hm b .nil pass0 hdb
theorem pe_fldK {f : Str} (hK : X.K = K) (he : PE X o to) (hb : attributeBase o f X.env (eval o X.env) = eval o X.env := by rfl) : PE X (.Attribute o f pos) (tFld K to f) := by
  subst hK
  exact pe_fld he hb
end
section
variable {K : PySem.W.Frag} {σ : L2.St} {H : Hp} {Q : VK} {p C dx : Addr} {fs : List (Str × V)} {m f : Str} {v y : V} {sp : Sp} {to tv : TE} {t : TA} {nx : L2.St → Hp → Prop} {rt : VK} {bk ct : L2.St → Hp → Prop}
theorem w_met (k : to σ H fun x H1 => ∃ a dx fs, x = .ref a ∧ H1 a = some (.ins C dx fs) ∧ fs.lookup m = none ∧ t σ H1 fun vs H2 => sp (x :: vs) H2 Q E0) : tMet C m sp to t σ H Q := k
theorem w_metAt {R : Prop} (h : H p = some (.ins C dx fs)) (l : fs.lookup m = none) (k : R) : ∃ a dx fs, V.ref p = .ref a ∧ H a = some (.ins C dx fs) ∧ fs.lookup m = none ∧ R := ⟨p, dx, fs, rfl, h, l, k⟩
def NewI (C : Addr) (sp : Sp) (vs : List V) (H : Hp) (Q : VK) : Prop := ∀ x dx, H x = none → H dx = none → dx ≠ x → sp (.ref x :: vs) (upd (upd H dx (.own x)) x (.ins C dx [])) (fun v H2 => v = .non ∧ Q (.ref x) H2) E0
theorem w_mkI (k : t σ H fun vs H1 => NewI C sp vs H1 Q) : tMkI C sp t σ H Q := k
theorem w_newI {vs : List V} (k : ∀ x dx H', H x = none → Same H H' → H' x = some (.ins C dx []) → sp (.ref x :: vs) H' (fun v H2 => v = .non ∧ Q (.ref x) H2) E0) : NewI C sp vs H Q := fun x dx hx hdx ne =>
  k x dx _ hx (fun b o e => by
    rw [upd_ne (ne_of_none e hx), upd_ne (ne_of_none e hdx)]
    exact e) upd_same
theorem w_fld (k : to σ H fun x H1 => ∃ a C dx fs v, x = .ref a ∧ H1 a = some (.ins C dx fs) ∧ Cls K C ∧ NoAttr K C f ∧ fs.lookup f = some v ∧ Q v H1) : tFld K to f σ H Q := k
theorem w_fldAt {R : V → Prop} (h : H p = some (.ins C dx fs)) (cl : Cls K C) (na : NoAttr K C f) (l : fs.lookup f = some v) (k : R v) : ∃ a C dx fs v, V.ref p = .ref a ∧ H a = some (.ins C dx fs) ∧ Cls K C ∧ NoAttr K C f ∧ fs.lookup f = some v ∧ R v := ⟨p, C, dx, fs, v, rfl, h, cl, na, l, k⟩
theorem w_sfld (k : tv σ H fun y H1 => to σ H1 fun x H2 => ∃ a C dx fs, x = .ref a ∧ H2 a = some (.ins C dx fs) ∧ Cls K C ∧ NoAttr K C f ∧ fs.length < 1000 ∧ ChgO a (.ins C dx (putF f y fs)) H2 (nx σ)) : sFld K to tv f ⟨nx, rt, bk, ct⟩ σ H := k
theorem w_sfldAt {S : Hp → Prop} {gs : List (Str × V)} (h : H p = some (.ins C dx fs)) (cl : Cls K C) (na : NoAttr K C f) (hl : fs.length < 1000) (e : putF f y fs = gs) (k : ChgO p (.ins C dx gs) H S) :
    ∃ a C dx fs, V.ref p = .ref a ∧ H a = some (.ins C dx fs) ∧ Cls K C ∧ NoAttr K C f ∧ fs.length < 1000 ∧ ChgO a (.ins C dx (putF f y fs)) H S := ⟨p, C, dx, fs, rfl, h, cl, na, hl, by rw [e]; exact k⟩
end

end J
namespace J
open PySem PySem.Spec PyProof.Rows L2
def top (i : Nat) : Stmt := PySem.Challenge.pw_rowsjoined_k28_parts_and_what_sets_rest.main.body.getD i (.Pass ⟨0, 0, 0, 0⟩)
abbrev s_Partsu_initu : Stmt := inClass (top 1) 0
abbrev N_Partsu_initu : List Str := ["self"]
theorem sc_Partsu_initu : FnScope N_Partsu_initu ["self"] (defScope s_Partsu_initu) := ⟨rfl, rfl, rfl, by decide +kernel, rfl, by decide +kernel, by decide +kernel⟩
abbrev s_Parts_part_in : Stmt := inClass (top 1) 1
abbrev N_Parts_part_in : List Str := ["self", "e", "own", "one"]
theorem sc_Parts_part_in : FnScope N_Parts_part_in ["self", "e"] (defScope s_Parts_part_in) := ⟨rfl, rfl, rfl, by decide +kernel, rfl, by decide +kernel, by decide +kernel⟩
abbrev s_rests_of : Stmt := top 2
abbrev N_rests_of : List Str := ["one"]
theorem sc_rests_of : FnScope N_rests_of ["one"] (defScope s_rests_of) := ⟨rfl, rfl, rfl, by decide +kernel, rfl, by decide +kernel, by decide +kernel⟩
abbrev s_parts_and_roots : Stmt := top 3
abbrev N_parts_and_roots : List Str := ["sets", "parts", "roots", "one", "e"]
theorem sc_parts_and_roots : FnScope N_parts_and_roots ["sets"] (defScope s_parts_and_roots) := ⟨rfl, rfl, rfl, by decide +kernel, rfl, by decide +kernel, by decide +kernel⟩
abbrev s_parts_of : Stmt := top 4
abbrev N_parts_of : List Str := ["sets", "parts", "roots"]
theorem sc_parts_of : FnScope N_parts_of ["sets"] (defScope s_parts_of) := ⟨rfl, rfl, rfl, by decide +kernel, rfl, by decide +kernel, by decide +kernel⟩
abbrev s_roots_of : Stmt := top 5
abbrev N_roots_of : List Str := ["sets", "parts", "roots"]
theorem sc_roots_of : FnScope N_roots_of ["sets"] (defScope s_roots_of) := ⟨rfl, rfl, rfl, by decide +kernel, rfl, by decide +kernel, by decide +kernel⟩
abbrev s_law_cell : Stmt := top 7
abbrev N_law_cell : List Str := ["script", "k"]
theorem sc_law_cell : FnScope N_law_cell ["script", "k"] (defScope s_law_cell) := ⟨rfl, rfl, rfl, by decide +kernel, rfl, by decide +kernel, by decide +kernel⟩
abbrev s_law_stream : Stmt := top 8
abbrev N_law_stream : List Str := ["cell"]
theorem sc_law_stream : FnScope N_law_stream ["cell"] (defScope s_law_stream) := ⟨rfl, rfl, rfl, by decide +kernel, rfl, by decide +kernel, by decide +kernel⟩
abbrev s_law_take : Stmt := top 9
abbrev N_law_take : List Str := ["stream", "many", "digit", "number"]
theorem sc_law_take : FnScope N_law_take ["stream", "many"] (defScope s_law_take) := ⟨rfl, rfl, rfl, by decide +kernel, rfl, by decide +kernel, by decide +kernel⟩
abbrev s_law_e : Stmt := top 10
abbrev N_law_e : List Str := ["stream", "deep", "way", "sel", "number", "field", "op"]
theorem sc_law_e : FnScope N_law_e ["stream", "deep"] (defScope s_law_e) := ⟨rfl, rfl, rfl, by decide +kernel, rfl, by decide +kernel, by decide +kernel⟩
abbrev s_law_sets : Stmt := top 11
abbrev N_law_sets : List Str := ["stream", "sets", "deep", "k", "way", "sel", "one"]
theorem sc_law_sets : FnScope N_law_sets ["stream"] (defScope s_law_sets) := ⟨rfl, rfl, rfl, by decide +kernel, rfl, by decide +kernel, by decide +kernel⟩
abbrev s_law_part : Stmt := top 12
abbrev N_law_part : List Str := ["e", "parts", "inner", "one", "other"]
theorem sc_law_part : FnScope N_law_part ["e", "parts"] (defScope s_law_part) := ⟨rfl, rfl, rfl, by decide +kernel, rfl, by decide +kernel, by decide +kernel⟩
abbrev s_law_parts : Stmt := top 13
abbrev N_law_parts : List Str := ["sets", "parts", "roots", "one", "first"]
theorem sc_law_parts : FnScope N_law_parts ["sets"] (defScope s_law_parts) := ⟨rfl, rfl, rfl, by decide +kernel, rfl, by decide +kernel, by decide +kernel⟩
abbrev s_law_is : Stmt := top 14
abbrev N_law_is : List Str := ["found", "due", "row", "one"]
theorem sc_law_is : FnScope N_law_is ["found", "due"] (defScope s_law_is) := ⟨rfl, rfl, rfl, by decide +kernel, rfl, by decide +kernel, by decide +kernel⟩
abbrev s_law : Stmt := top 15
abbrev N_law : List Str := ["script", "k", "stream", "both", "turn", "sets", "parts", "roots", "found"]
theorem sc_law : FnScope N_law ["script"] (defScope s_law) := ⟨rfl, rfl, rfl, by decide +kernel, rfl, by decide +kernel, by decide +kernel⟩
def fn : List He.DefD := [⟨("rests_of", none), "rests_of", "rests_of", defArgs s_rests_of, defBody s_rests_of, defScope s_rests_of, [], []⟩,
  ⟨("parts_and_roots", none), "parts_and_roots", "parts_and_roots", defArgs s_parts_and_roots, defBody s_parts_and_roots, defScope s_parts_and_roots, [], []⟩,
  ⟨("parts_of", none), "parts_of", "parts_of", defArgs s_parts_of, defBody s_parts_of, defScope s_parts_of, [], []⟩,
  ⟨("roots_of", none), "roots_of", "roots_of", defArgs s_roots_of, defBody s_roots_of, defScope s_roots_of, [], []⟩,
  ⟨("_law_cell", none), "_law_cell", "_law_cell", defArgs s_law_cell, defBody s_law_cell, defScope s_law_cell, [], []⟩,
  ⟨("_law_stream", none), "_law_stream", "_law_stream", defArgs s_law_stream, defBody s_law_stream, defScope s_law_stream, [], []⟩,
  ⟨("_law_take", none), "_law_take", "_law_take", defArgs s_law_take, defBody s_law_take, defScope s_law_take, [], []⟩,
  ⟨("_law_e", none), "_law_e", "_law_e", defArgs s_law_e, defBody s_law_e, defScope s_law_e, [], []⟩,
  ⟨("_law_sets", none), "_law_sets", "_law_sets", defArgs s_law_sets, defBody s_law_sets, defScope s_law_sets, [], []⟩,
  ⟨("_law_part", none), "_law_part", "_law_part", defArgs s_law_part, defBody s_law_part, defScope s_law_part, [], []⟩,
  ⟨("_law_parts", none), "_law_parts", "_law_parts", defArgs s_law_parts, defBody s_law_parts, defScope s_law_parts, [], []⟩,
  ⟨("_law_is", none), "_law_is", "_law_is", defArgs s_law_is, defBody s_law_is, defScope s_law_is, [], []⟩,
  ⟨("law", none), "law", "law", defArgs s_law, defBody s_law, defScope s_law, [], []⟩,
  ⟨("Parts", some "__init__"), "__init__", "Parts.__init__", defArgs s_Partsu_initu, defBody s_Partsu_initu, defScope s_Partsu_initu, [], []⟩,
  ⟨("Parts", some "part_in"), "part_in", "Parts.part_in", defArgs s_Parts_part_in, defBody s_Parts_part_in, defScope s_Parts_part_in, [], []⟩]
def fa : List He.Fa := [.glo "rests_of", .glo "parts_and_roots", .glo "parts_of", .glo "roots_of", .glo "_law_cell", .glo "_law_stream", .glo "_law_take", .glo "_law_e", .glo "_law_sets", .glo "_law_part", .glo "_law_parts", .glo "_law_is", .glo "law", .free "bool", .free "int", .free "isinstance", .free "len", .free "list", .free "max", .free "min", .free "range", .free "str", .free "tuple", .glo "Parts", .cls "Parts", .mkr "Parts", .noat "Parts" "rows", .meth "Parts" "part_in"]
/-- what the head tells of the text -/
class Facts (K : PySem.W.Frag) (mg : outParam (Str → Option Value)) : Prop where
  d_rests_of : ∃ fd, FunD K "rests_of" "rests_of" (defArgs s_rests_of) (defBody s_rests_of) (defScope s_rests_of) [] [] (He.ga K "rests_of") fd
  g_rests_of : mg "rests_of" = some (.ref (He.ga K "rests_of"))
  d_parts_and_roots : ∃ fd, FunD K "parts_and_roots" "parts_and_roots" (defArgs s_parts_and_roots) (defBody s_parts_and_roots) (defScope s_parts_and_roots) [] [] (He.ga K "parts_and_roots") fd
  g_parts_and_roots : mg "parts_and_roots" = some (.ref (He.ga K "parts_and_roots"))
  d_parts_of : ∃ fd, FunD K "parts_of" "parts_of" (defArgs s_parts_of) (defBody s_parts_of) (defScope s_parts_of) [] [] (He.ga K "parts_of") fd
  g_parts_of : mg "parts_of" = some (.ref (He.ga K "parts_of"))
  d_roots_of : ∃ fd, FunD K "roots_of" "roots_of" (defArgs s_roots_of) (defBody s_roots_of) (defScope s_roots_of) [] [] (He.ga K "roots_of") fd
  g_roots_of : mg "roots_of" = some (.ref (He.ga K "roots_of"))
  d_law_cell : ∃ fd, FunD K "_law_cell" "_law_cell" (defArgs s_law_cell) (defBody s_law_cell) (defScope s_law_cell) [] [] (He.ga K "_law_cell") fd
  g_law_cell : mg "_law_cell" = some (.ref (He.ga K "_law_cell"))
  d_law_stream : ∃ fd, FunD K "_law_stream" "_law_stream" (defArgs s_law_stream) (defBody s_law_stream) (defScope s_law_stream) [] [] (He.ga K "_law_stream") fd
  g_law_stream : mg "_law_stream" = some (.ref (He.ga K "_law_stream"))
  d_law_take : ∃ fd, FunD K "_law_take" "_law_take" (defArgs s_law_take) (defBody s_law_take) (defScope s_law_take) [] [] (He.ga K "_law_take") fd
  g_law_take : mg "_law_take" = some (.ref (He.ga K "_law_take"))
  d_law_e : ∃ fd, FunD K "_law_e" "_law_e" (defArgs s_law_e) (defBody s_law_e) (defScope s_law_e) [] [] (He.ga K "_law_e") fd
  g_law_e : mg "_law_e" = some (.ref (He.ga K "_law_e"))
  d_law_sets : ∃ fd, FunD K "_law_sets" "_law_sets" (defArgs s_law_sets) (defBody s_law_sets) (defScope s_law_sets) [] [] (He.ga K "_law_sets") fd
  g_law_sets : mg "_law_sets" = some (.ref (He.ga K "_law_sets"))
  d_law_part : ∃ fd, FunD K "_law_part" "_law_part" (defArgs s_law_part) (defBody s_law_part) (defScope s_law_part) [] [] (He.ga K "_law_part") fd
  g_law_part : mg "_law_part" = some (.ref (He.ga K "_law_part"))
  d_law_parts : ∃ fd, FunD K "_law_parts" "_law_parts" (defArgs s_law_parts) (defBody s_law_parts) (defScope s_law_parts) [] [] (He.ga K "_law_parts") fd
  g_law_parts : mg "_law_parts" = some (.ref (He.ga K "_law_parts"))
  d_law_is : ∃ fd, FunD K "_law_is" "_law_is" (defArgs s_law_is) (defBody s_law_is) (defScope s_law_is) [] [] (He.ga K "_law_is") fd
  g_law_is : mg "_law_is" = some (.ref (He.ga K "_law_is"))
  d_law : ∃ fd, FunD K "law" "law" (defArgs s_law) (defBody s_law) (defScope s_law) [] [] (He.ga K "law") fd
  g_law : mg "law" = some (.ref (He.ga K "law"))
  f_bool : mg "bool" = none
  f_int : mg "int" = none
  f_isinstance : mg "isinstance" = none
  f_len : mg "len" = none
  f_list : mg "list" = none
  f_max : mg "max" = none
  f_min : mg "min" = none
  f_range : mg "range" = none
  f_str : mg "str" = none
  f_tuple : mg "tuple" = none
  dm_Parts___init__ : ∃ fd, FunD K "__init__" "Parts.__init__" (defArgs s_Partsu_initu) (defBody s_Partsu_initu) (defScope s_Partsu_initu) [] [] (He.ma K (He.ga K "Parts") "__init__") fd
  dm_Parts_part_in : ∃ fd, FunD K "part_in" "Parts.part_in" (defArgs s_Parts_part_in) (defBody s_Parts_part_in) (defScope s_Parts_part_in) [] [] (He.ma K (He.ga K "Parts") "part_in") fd
  gc_Parts : mg "Parts" = some (.ref (He.ga K "Parts"))
  cl_Parts : Cls K (He.ga K "Parts")
  mk_Parts : Mk K (He.ga K "Parts") (He.ma K (He.ga K "Parts") "__init__")
  na_Parts_rows : NoAttr K (He.ga K "Parts") "rows"
  me_Parts_part_in : Meth K (He.ga K "Parts") "part_in" (He.ma K (He.ga K "Parts") "part_in")
theorem facts_of {h : Heap} {K : PySem.W.Frag} {mg : Str → Option Value} (X : K.In h) (G : h.Ns mainGlobals mg) (c : He.SaysD fa fn K) : Facts K mg where
  d_rests_of := c.def_ 0 rfl
  g_rests_of := He.glo_ok X G (c.fact 0 rfl)
  d_parts_and_roots := c.def_ 1 rfl
  g_parts_and_roots := He.glo_ok X G (c.fact 1 rfl)
  d_parts_of := c.def_ 2 rfl
  g_parts_of := He.glo_ok X G (c.fact 2 rfl)
  d_roots_of := c.def_ 3 rfl
  g_roots_of := He.glo_ok X G (c.fact 3 rfl)
  d_law_cell := c.def_ 4 rfl
  g_law_cell := He.glo_ok X G (c.fact 4 rfl)
  d_law_stream := c.def_ 5 rfl
  g_law_stream := He.glo_ok X G (c.fact 5 rfl)
  d_law_take := c.def_ 6 rfl
  g_law_take := He.glo_ok X G (c.fact 6 rfl)
  d_law_e := c.def_ 7 rfl
  g_law_e := He.glo_ok X G (c.fact 7 rfl)
  d_law_sets := c.def_ 8 rfl
  g_law_sets := He.glo_ok X G (c.fact 8 rfl)
  d_law_part := c.def_ 9 rfl
  g_law_part := He.glo_ok X G (c.fact 9 rfl)
  d_law_parts := c.def_ 10 rfl
  g_law_parts := He.glo_ok X G (c.fact 10 rfl)
  d_law_is := c.def_ 11 rfl
  g_law_is := He.glo_ok X G (c.fact 11 rfl)
  d_law := c.def_ 12 rfl
  g_law := He.glo_ok X G (c.fact 12 rfl)
  f_bool := He.free_ok X G (c.fact 13 rfl)
  f_int := He.free_ok X G (c.fact 14 rfl)
  f_isinstance := He.free_ok X G (c.fact 15 rfl)
  f_len := He.free_ok X G (c.fact 16 rfl)
  f_list := He.free_ok X G (c.fact 17 rfl)
  f_max := He.free_ok X G (c.fact 18 rfl)
  f_min := He.free_ok X G (c.fact 19 rfl)
  f_range := He.free_ok X G (c.fact 20 rfl)
  f_str := He.free_ok X G (c.fact 21 rfl)
  f_tuple := He.free_ok X G (c.fact 22 rfl)
  dm_Parts___init__ := c.def_ 13 rfl
  dm_Parts_part_in := c.def_ 14 rfl
  gc_Parts := He.glo_ok X G (c.fact 23 rfl)
  cl_Parts := He.cls_ok (c.fact 24 rfl)
  mk_Parts := He.mkr_ok (c.fact 25 rfl)
  na_Parts_rows := He.noat_ok (c.fact 26 rfl)
  me_Parts_part_in := He.meth_ok (c.fact 27 rfl)
end J
namespace J
open PySem PySem.Spec PyProof.Rows L2
local macro_rules | `(tactic| walk_at "cls") => `(tactic| first
  | with_reducible exact Facts.cl_Parts)
local macro_rules | `(tactic| walk_at "na") => `(tactic| first
  | with_reducible exact Facts.na_Parts_rows)
local macro_rules | `(tactic| walk_at "ty") => `(tactic| first
  | with_reducible exact ty_int
  | with_reducible exact ty_bl
  | with_reducible exact ty_str
  | with_reducible exact ty_non
  | ((with_reducible refine' ty_lst ?vv); (case vv => walk_at "tr"))
  | ((with_reducible refine' ty_sqT ?vv); (case vv => walk_at "tr"))
  | ((with_reducible refine' ty_dic ?vv); (case vv => walk_at "tr")))
local macro_rules | `(tactic| walk_at "ix") => `(tactic| first | exact at0 | exact at1 | exact at2 | assumption)
local macro_rules | `(tactic| walk_at "size") => `(tactic| first
  | assumption
  | (show _ < sizeLine; rw [sizeLine_eq]; (try simp only [List.length_cons, List.length_nil, List.length_append, List.length_map]); omega)
  | (show _ ≤ sizeLine; rw [sizeLine_eq]; (try simp only [List.length_cons, List.length_nil, List.length_append, List.length_map]); omega))
local macro_rules | `(tactic| walk_at "side") => `(tactic| first
  | assumption
  | ((with_reducible refine cdw ?_ ?_) <;> omega)
  | omega
  | (exact ⟨by omega, by omega⟩)
  | (exact Or.inl ⟨by omega, by omega⟩)
  | (exact Or.inr ⟨by omega, by omega⟩)
  | decide
  | (simp only [List.length_cons, List.length_nil, List.length_append, List.length_map]; omega)
  | (show _ ≤ _; decide))
local macro_rules | `(tactic| walk_at "as") => `(tactic| with_reducible assumption)
local macro_rules | `(tactic| walk_at "tr") => `(tactic| first
  | with_reducible assumption
  | with_reducible exact upd_same
  | ((with_reducible refine' SqL.of ?hh); (case hh => walk_at "as"))
  | ((with_reducible refine' SqT.of ?hh); (case hh => walk_at "as"))
  | ((with_reducible refine' Same.stm ?ee ?gg); (case ee => walk_at "as"); (case gg => walk_at "tr"))
  | ((with_reducible refine' Same.sqT ?ee ?gg); (case ee => walk_at "as"); (case gg => walk_at "tr"))
  | ((with_reducible refine' Same.sqL ?ee ?gg); (case ee => walk_at "as"); (case gg => walk_at "tr"))
  | ((with_reducible refine' Same.at ?ee ?gg); (case ee => walk_at "as"); (case gg => walk_at "tr"))
  | ((with_reducible refine' But.stm ?ee ?ff ?gg); (case ee => walk_at "as"); (case ff => walk_at "ne"); (case gg => walk_at "tr"))
  | ((with_reducible refine' But.tup ?ee ?ff ?gg); (case ee => walk_at "as"); (case ff => walk_at "tr1"); (case gg => walk_at "tr"))
  | ((with_reducible refine' But.sqT ?ee ?ff ?gg); (case ee => walk_at "as"); (case ff => walk_at "tr1"); (case gg => walk_at "tr"))
  | ((with_reducible refine' But.tupL ?ee ?ff ?gg); (case ee => walk_at "as"); (case ff => walk_at "tr1"); (case gg => walk_at "tr"))
  | ((with_reducible refine' But.sqTL ?ee ?ff ?gg); (case ee => walk_at "as"); (case ff => walk_at "tr1"); (case gg => walk_at "tr"))
  | ((with_reducible refine' But.sqL ?ee ?ff ?gg); (case ee => walk_at "as"); (case ff => walk_at "ne"); (case gg => walk_at "tr"))
  | ((with_reducible refine' But.at ?ee ?ff ?gg); (case ee => walk_at "as"); (case ff => walk_at "ne"); (case gg => walk_at "tr")))
local macro_rules | `(tactic| walk_at "ts") => `(tactic| first
  | with_reducible assumption
  | with_reducible exact TS.refl _
  | ((with_reducible refine' TS.trans ?gg (TS.of ?ee)); (case ee => walk_at "as"); (case gg => walk_at "ts"))
  | ((with_reducible refine' TS.trans ?gg (TS.butS ?ee ?ff)); (case ee => walk_at "as"); (case ff => walk_at "tr1"); (case gg => walk_at "ts"))
  | ((with_reducible refine' TS.trans ?gg (TS.butL ?ee ?ff)); (case ee => walk_at "as"); (case ff => walk_at "tr1"); (case gg => walk_at "ts"))
  | ((with_reducible refine' TS.trans ?gg (TS.butI ?ee ?ff)); (case ee => walk_at "as"); (case ff => walk_at "tr1"); (case gg => walk_at "ts")))
local macro_rules | `(tactic| walk_at "sm") => `(tactic| first
  | with_reducible assumption
  | with_reducible exact Same.refl _
  | ((with_reducible refine' Same.trans ?gg ?ee); (case ee => walk_at "as"); (case gg => walk_at "sm"))
  | ((with_reducible refine' But.new ?gg ?nn ?ee); (case ee => walk_at "as"); (case nn => walk_at "fr"); (case gg => walk_at "sm")))
local macro_rules | `(tactic| walk_at "fr") => `(tactic| first
  | with_reducible assumption
  | ((with_reducible refine' Same.back ?ee ?nn); (case nn => walk_at "as"); (case ee => walk_at "sm"))
  | ((with_reducible refine' But.back ?ee ?ff ?nn); (case nn => walk_at "as"); (case ff => walk_at "ne0"); (case ee => walk_at "bu")))
local macro_rules | `(tactic| walk_at "bu") => `(tactic| first
  | with_reducible assumption
  | with_reducible exact But.refl _ _
  | ((with_reducible refine' But.trans ?gg ?ee); (case ee => walk_at "as"); (case gg => walk_at "bu"))
  | ((with_reducible refine' But.trans ?gg (But.of ?ee)); (case ee => walk_at "as"); (case gg => walk_at "bu"))
  | ((with_reducible refine' But.new2 ?gg ?nn ?ee); (case ee => walk_at "as"); (case nn => walk_at "frB"); (case gg => walk_at "bu")))
local macro_rules | `(tactic| walk_at "frB") => `(tactic| first
  | with_reducible assumption
  | ((with_reducible refine' Same.back ?ee ?nn); (case nn => walk_at "as"); (case ee => walk_at "sm"))
  | ((with_reducible refine' But.back' ?ee ?ff ?nn); (case nn => walk_at "as"); (case ee => walk_at "bu"); (case ff => walk_at "tr1")))
local macro_rules | `(tactic| walk_at "tr1") => `(tactic| first
  | with_reducible assumption
  | ((with_reducible refine' Same.stm ?ee ?gg); (case ee => walk_at "as"); (case gg => walk_at "tr1"))
  | ((with_reducible refine' Same.at ?ee ?gg); (case ee => walk_at "as"); (case gg => walk_at "tr1"))
  | ((with_reducible refine' But.at ?ee ?ff ?gg); (case ee => walk_at "as"); (case ff => walk_at "ne0"); (case gg => walk_at "tr1"))
  | ((with_reducible refine' But.stm ?ee ?ff ?gg); (case ee => walk_at "as"); (case ff => walk_at "ne0"); (case gg => walk_at "tr1")))
local macro_rules | `(tactic| walk_at "ne0") => `(tactic| first
  | with_reducible assumption
  | (with_reducible apply Ne.symm; with_reducible assumption))
local macro_rules | `(tactic| walk_at "ne") => `(tactic| first
  | with_reducible assumption
  | (with_reducible apply Ne.symm; with_reducible assumption)
  | ((with_reducible refine' stm_ne ?hh ?nn); (case nn => walk_at "as"); (case hh => walk_at "tr1"))
  | ((with_reducible refine' ne_of_none ?hh ?nn); (case nn => walk_at "as"); (case hh => walk_at "tr1"))
  | ((with_reducible apply Ne.symm); (with_reducible refine' ne_of_none ?hh ?nn); (case nn => walk_at "as"); (case hh => walk_at "tr1")))
local macro_rules | `(tactic| walk_at "v") => `(tactic| first
  | with_reducible refine w_seq ?_
  | ((with_reducible refine' w_var ?vv ?_); (case vv => exact rfl))
  | with_reducible refine w_c ?_
  | with_reducible refine w_op ?_
  | with_reducible refine w_asg ?_
  | with_reducible refine w_gName ?_
  | with_reducible refine w_ret ?_
  | with_reducible refine w_ifS ?_
  | with_reducible refine w_drop ?_
  | with_reducible refine w_next ?_
  | with_reducible refine w_cons ?_
  | with_reducible refine w_nil ?_
  | with_reducible refine w_call ?_
  | with_reducible refine w_cb ?_
  | with_reducible refine w_rI0 ?_
  | with_reducible refine w_addI ?_
  | with_reducible refine w_eqI ?_
  | with_reducible refine w_neI ?_
  | with_reducible refine w_eqS ?_
  | with_reducible refine w_neS ?_
  | with_reducible refine w_eqB ?_
  | with_reducible refine w_neB ?_
  | with_reducible refine w_chain ?_
  | with_reducible refine w_test ?_
  | with_reducible refine w_tB ?_
  | with_reducible refine w_bl ?_
  | ((with_reducible refine' w_mulI ?vv ?_); (case vv => walk_at "side"))
  | ((with_reducible refine' w_rI ?vv ?_); (case vv => walk_at "side"))
  | with_reducible refine w_int1 ?_
  | with_reducible refine w_int1b ?_
  | with_reducible refine w_tup ?_
  | with_reducible refine w_lst ?_
  | with_reducible refine w_un ?_
  | with_reducible refine w_rU ?_
  | with_reducible refine w_not ?_
  | with_reducible refine w_notV ?_
  | with_reducible refine w_ifE ?_
  | with_reducible refine w_nT ?_
  | with_reducible refine w_nF ?_
  | with_reducible refine iteT ?_
  | with_reducible refine iteF ?_
  | ((with_reducible refine' w_ixT ?vv ?ww ?_); (case vv => walk_at "tr"); (case ww => walk_at "ix"))
  | ((with_reducible refine' w_ixL ?vv ?ww ?_); (case vv => walk_at "tr"); (case ww => walk_at "ix"))
  | with_reducible refine w_gSub ?_
  | ((with_reducible refine' w_setL ?vv ?ww ?_); (case vv => walk_at "tr"); (case ww => first | rfl | decide | assumption))
  | ((with_reducible refine' w_lenL ?vv ?_); (case vv => walk_at "tr"))
  | ((with_reducible refine' w_lenT ?vv ?_); (case vv => walk_at "tr"))
  | with_reducible refine w_max2 ?_
  | with_reducible refine w_min2 ?_
  | with_reducible refine w_bm ?_
  | with_reducible refine w_bm0 ?_
  | ((with_reducible refine' w_tyL ?vv ?_); (case vv => walk_at "tr"))
  | ((with_reducible refine' w_append ?vv ?ww ?_); (case vv => walk_at "tr"); (case ww => walk_at "size"))
  | ((with_reducible refine' w_size ?vv ?_); (case vv => walk_at "size"))
  | with_reducible refine w_forL ?_
  | with_reducible refine w_forT ?_
  | with_reducible refine w_forR1 ?_
  | with_reducible refine w_forR2 ?_
  | with_reducible refine w_lcL ?_
  | with_reducible refine w_lcT ?_
  | with_reducible refine w_lcR1 ?_
  | with_reducible refine w_yes ?_
  | with_reducible refine w_sl ?_
  | with_reducible refine w_noPart ?_
  | with_reducible refine w_part ?_
  | with_reducible refine w_int ?_
  | ((with_reducible refine' w_slL ?vv ?_); (case vv => walk_at "tr"))
  | ((with_reducible refine' w_seqL ?vv ?ww ?_); (case vv => walk_at "tr"); (case ww => rfl))
  | ((with_reducible refine' w_seqT ?vv ?ww ?_); (case vv => walk_at "tr"); (case ww => rfl))
  | with_reducible refine w_gNil ?_
  | with_reducible refine w_gCons ?_
  | with_reducible refine w_forZ ?_
  | with_reducible refine w_forE ?_
  | with_reducible refine w_forV ?_
  | with_reducible refine w_lcZ ?_
  | with_reducible refine w_lcE ?_
  | ((with_reducible refine' w_isi (b := true) ?vv ?ww ?_); (case vv => walk_at "ty"); (case ww => decide +kernel))
  | ((with_reducible refine' w_isi (b := false) ?vv ?ww ?_); (case vv => walk_at "ty"); (case ww => decide +kernel))
  | with_reducible refine w_revL ?_
  | with_reducible refine w_pairN ?_
  | with_reducible refine w_pairC ?_
  | with_reducible refine w_dget ?_
  | with_reducible refine w_met ?_
  | ((with_reducible refine' w_metAt ?vv ?ww ?_); (case vv => walk_at "tr"); (case ww => rfl))
  | with_reducible refine w_mkI ?_
  | with_reducible refine w_fld ?_
  | ((with_reducible refine' w_fldAt ?vv ?cc ?nn ?ww ?_); (case vv => walk_at "tr"); (case cc => walk_at "cls"); (case nn => walk_at "na"); (case ww => rfl))
  | with_reducible refine w_sfld ?_
  | ((with_reducible refine' w_sfldAt ?vv ?cc ?nn ?ll ?ee ?_); (case vv => walk_at "tr"); (case cc => walk_at "cls"); (case nn => walk_at "na"); (case ll => simp); (case ee => rfl))
  | ((with_reducible refine' w_tupL ?vv ?_); (case vv => walk_at "tr"))
  | ((with_reducible refine' w_tupT ?vv ?_); (case vv => walk_at "tr"))
  | ((with_reducible refine' w_listL ?vv ?_); (case vv => walk_at "tr"))
  | ((with_reducible refine' w_listT ?vv ?_); (case vv => walk_at "tr"))
  | with_reducible refine w_tyS ?_
  | with_reducible refine w_retN ?_
  | with_reducible refine w_break ?_
  | with_reducible refine w_cont ?_)
local macro_rules | `(tactic| walk_at "w") => `(tactic| first
  | walk_at "v"
  | with_reducible refine w_or ?_
  | with_reducible refine w_and ?_
  | with_reducible refine w_andV ?_
  | with_reducible refine w_orV ?_)
local macro_rules | `(tactic| walk_at "wd") => `(tactic| first
  | walk_at "w"
  | ((with_reducible refine' w_decT ?vv ?_); (case vv => decide +kernel))
  | ((with_reducible refine' w_decF ?vv ?_); (case vv => decide +kernel)))
local macro_rules | `(tactic| walk_at "tz") => `(tactic| (intro S z; (repeat walk_at "w"); exact z))
local macro_rules | `(tactic| walk_at "wf") => `(tactic| first
  | walk_at "wd"
  | ((with_reducible refine' w_decF ?vv ?_); (case vv => with_reducible assumption)))
/-! ### the draws, alike in all laws -/
def spCell (K : PySem.W.Frag) : Sp := fun vs H Q _ => ∃ (a : Addr) (ns : List Int) (k : Int), vs = [.ref a, .int k] ∧ SqL K H a (ns.map V.int) ∧ 0 ≤ k ∧ ∀ n : Int, Q (.int n) H
def spStream : Sp := fun vs H Q _ => ∃ c : Int, vs = [.int c] ∧ ∀ s H', Same H H' → H s = none → Stm H' s → Q (.ref s) H'
def spTake : Sp := fun vs H Q _ => ∃ (s : Addr) (m : Int), vs = [.ref s, .int m] ∧ Stm H s ∧ 0 < m ∧ m < 2 ^ 200 ∧ ∀ d H', 0 ≤ d → d < m → Stm H' s → But s H H' → Q (.int d) H'
theorem len_law_cell {K : PySem.W.Frag} {vs H Q E} (h : spCell K vs H Q E) : vs.length = 2 := by obtain ⟨_, _, _, rfl, _⟩ := h; rfl
theorem len_law_stream {vs H Q E} (h : spStream vs H Q E) : vs.length = 1 := by obtain ⟨_, rfl, _⟩ := h; rfl
theorem len_law_take {vs H Q E} (h : spTake vs H Q E) : vs.length = 2 := by obtain ⟨_, _, rfl, _⟩ := h; rfl
def spLaw (K : PySem.W.Frag) : Sp := fun vs H Q _ => ∃ (a : Addr) (ns : List Int), vs = [.ref a] ∧ SqL K H a (ns.map V.int) ∧ ns.length ≤ 63 ∧ ∀ H', Q (.bl true) H'
theorem len_law {K : PySem.W.Frag} {vs H Q E} (h : spLaw K vs H Q E) : vs.length = 1 := by obtain ⟨_, _, rfl, _⟩ := h; rfl
theorem law_in {K : PySem.W.Frag} {H : Hp} {a : Addr} {ns : List Int} (hl : ns.length ≤ 63) (_ : Only H) (hS : SqL K H a (ns.map V.int)) : spLaw K [.ref a] H (fun v _ => v = .bl true) fun _ _ _ => False :=
  ⟨a, ns, rfl, hS, hl, fun _ => rfl⟩
section
variable {P : Program} {w : World} {K : PySem.W.Frag} {mg : Str → Option Value}
theorem ok_law_cell [c : Facts K mg] : Fn P w K mg "_law_cell" 1 ["script", "k"] ((spCell K)) := by
  obtain ⟨fd, F⟩ := c.d_law_cell
  refine Fn.mk' F c.g_law_cell sc_law_cell (k := 0) (fun vs H Q E h => ?_) (fun _ _ _ _ _ _ us hl => match us, hl with | [_, _], _ => rfl) (fun base cdv A outer s H vs Q E hr h => ?_)
  · exact len_law_cell h
  · have nd := sc_law_cell.nd
    have hu := hu_of hr
    refine ⟨_, (pss_cons (ps_if (pt_cmpR op_lt (pv 1) (pe_callB (call_lenA (K := K) rfl) (by rfl) c.f_len boot_len (pa_cons (pv 0) pa_nil)) (nomark _)) (pss_one (ps_ret (pe_ix (ix_any (K := K) rfl) (pv 0) (pv 1) (fun _ _ => rfl)))) pss_nil)
      (pss_one (ps_ret (pe_op (op_addA (K := K) rfl) (pe_op op_mulA pe_int (pv 1)) pe_int)))), ?_⟩
    try dsimp only [cxOf, Cx.nox, Cx.wish]
    obtain ⟨a, ns, k, rfl, hS, h0, q⟩ := h
    repeat walk_at "w"
    refine ite2 (fun hk => ?_) (fun hk => ?_)
    · rw [decide_eq_true_eq] at hk
      repeat walk_at "w"
      obtain ⟨v, e1, e2, _⟩ := atI_some h0 hk
      obtain ⟨n, _, rfl⟩ := List.mem_map.mp e2
      exact w_ixL hS e1 (q n)
    · repeat walk_at "w"
      exact q _
theorem ok_law_stream [c : Facts K mg] : Fn P w K mg "_law_stream" 1 ["cell"] (spStream) := by
  obtain ⟨fd, F⟩ := c.d_law_stream
  refine Fn.mk' F c.g_law_stream sc_law_stream (k := 0) (fun vs H Q E h => ?_) (fun _ _ _ _ _ _ us hl => match us, hl with | [_], _ => rfl) (fun base cdv A outer s H vs Q E hr h => ?_)
  · exact len_law_stream h
  · have nd := sc_law_stream.nd
    have hu := hu_of hr
    refine ⟨_, (pss_one (ps_ret (pe_lst (pa_cons (pe_op op_mulA (pv 0) (pe_callTy call_int1A (by rfl) c.f_int boot_int (pa_cons (pe_cmpR op_ge (pv 0) (pe_op op_pow pe_int pe_int) (nomark _)) pa_nil))) (pa_cons (pe_op op_mod (pv 0) pe_int) (pa_cons pe_int pa_nil)))))), ?_⟩
    try dsimp only [cxOf, Cx.nox, Cx.wish]
    obtain ⟨n, rfl, q⟩ := h
    repeat walk_at "w"
    exact w_new fun p H1 n1 s1 f1 => q _ _ s1 n1 ⟨_, _, _, f1⟩
theorem ok_law_take [c : Facts K mg] : Fn P w K mg "_law_take" 1 ["stream", "many"] (spTake) := by
  obtain ⟨fd, F⟩ := c.d_law_take
  refine Fn.mk' F c.g_law_take sc_law_take (k := 0) (fun vs H Q E h => ?_) (fun _ _ _ _ _ _ us hl => match us, hl with | [_, _], _ => rfl) (fun base cdv A outer s H vs Q E hr h => ?_)
  · exact len_law_take h
  · have nd := sc_law_take.nd
    have hu := hu_of hr
    refine ⟨_, (pss_cons (ps_if (pt_cmpR op_gt (pe_ix (ix_any (K := K) rfl) (pv 0) pe_int (fun _ _ => rfl)) pe_int (nomark _)) (pss_cons (ps_set (i := 2) nd rfl (Or.inl rfl) (pe_op op_mod (pe_ix (ix_any (K := K) rfl) (pv 0) pe_int (fun _ _ => rfl)) (pv 1)))
      (pss_cons (ps_asg (pe_op op_fdivW (pe_ix (ix_any (K := K) rfl) (pv 0) pe_int (fun _ _ => rfl)) (pv 1)) (pg_sub (pv 0) pe_int set_list))
      (pss_one (ps_ret (pv 2))))) pss_nil)
      (pss_cons (ps_asg (pe_op (op_addA (K := K) rfl) (pe_ix (ix_any (K := K) rfl) (pv 0) pe_int (fun _ _ => rfl)) pe_int) (pg_sub (pv 0) pe_int set_list))
      (pss_cons (ps_set (i := 3) nd rfl (Or.inl rfl) (pe_op op_mod (pe_op (op_addA (K := K) rfl) (pe_op op_mulA (pe_op (op_addA (K := K) rfl) (pe_ix (ix_any (K := K) rfl) (pv 0) pe_int (fun _ _ => rfl)) (pe_op op_mulA pe_int (pe_ix (ix_any (K := K) rfl) (pv 0) pe_int (fun _ _ => rfl)))) pe_int) pe_int) pe_int))
      (pss_cons (ps_set (i := 3) nd rfl (Or.inl rfl) (pe_op op_mod (pe_op op_mulA (pv 3) (pv 3)) pe_int))
      (pss_one (ps_ret (pe_op op_mod (pe_op op_fdivW (pe_op op_mod (pe_op (op_addA (K := K) rfl) (pe_op op_mulA (pv 3) (pv 3)) (pe_op op_mulA pe_int (pe_ix (ix_any (K := K) rfl) (pv 0) pe_int (fun _ _ => rfl)))) pe_int) pe_int) (pv 1)))))))), ?_⟩
    try dsimp only [cxOf, Cx.nox, Cx.wish]
    obtain ⟨s, m, rfl, ⟨a, b, d, hs⟩, hm, hl, q⟩ := h
    repeat walk_at "w"
    refine ite2 (fun hk => ?_) (fun hk => ?_)
    · repeat walk_at "w"
      refine w_chg fun H1 e1 f1 => ?_
      repeat walk_at "w"
      exact q _ _ (Int.emod_nonneg _ (by omega)) (Int.emod_lt_of_pos _ hm) ⟨_, _, _, f1⟩ e1
    · repeat walk_at "w"
      refine w_chg fun H1 e1 f1 => ?_
      repeat walk_at "w"
      exact q _ _ (Int.emod_nonneg _ (by omega)) (Int.emod_lt_of_pos _ hm) ⟨_, _, _, f1⟩ e1
end


end J
namespace J
open PySem PySem.Spec PyProof.Rows L2
local macro_rules | `(tactic| walk_at "cls") => `(tactic| first
  | with_reducible exact Facts.cl_Parts)
local macro_rules | `(tactic| walk_at "na") => `(tactic| first
  | with_reducible exact Facts.na_Parts_rows)
local macro_rules | `(tactic| walk_at "ty") => `(tactic| first
  | with_reducible exact ty_int
  | with_reducible exact ty_bl
  | with_reducible exact ty_str
  | with_reducible exact ty_non
  | ((with_reducible refine' ty_lst ?vv); (case vv => walk_at "tr"))
  | ((with_reducible refine' ty_sqT ?vv); (case vv => walk_at "tr"))
  | ((with_reducible refine' ty_dic ?vv); (case vv => walk_at "tr")))
local macro_rules | `(tactic| walk_at "ix") => `(tactic| first | exact at0 | exact at1 | exact at2 | assumption)
local macro_rules | `(tactic| walk_at "size") => `(tactic| first
  | assumption
  | (show _ < sizeLine; rw [sizeLine_eq]; (try simp only [List.length_cons, List.length_nil, List.length_append, List.length_map]); omega)
  | (show _ ≤ sizeLine; rw [sizeLine_eq]; (try simp only [List.length_cons, List.length_nil, List.length_append, List.length_map]); omega))
local macro_rules | `(tactic| walk_at "side") => `(tactic| first
  | assumption
  | ((with_reducible refine cdw ?_ ?_) <;> omega)
  | omega
  | (exact ⟨by omega, by omega⟩)
  | (exact Or.inl ⟨by omega, by omega⟩)
  | (exact Or.inr ⟨by omega, by omega⟩)
  | decide
  | (simp only [List.length_cons, List.length_nil, List.length_append, List.length_map]; omega)
  | (show _ ≤ _; decide))
local macro_rules | `(tactic| walk_at "as") => `(tactic| with_reducible assumption)
local macro_rules | `(tactic| walk_at "tr") => `(tactic| first
  | with_reducible assumption
  | with_reducible exact upd_same
  | ((with_reducible refine' SqL.of ?hh); (case hh => walk_at "as"))
  | ((with_reducible refine' SqT.of ?hh); (case hh => walk_at "as"))
  | ((with_reducible refine' Same.stm ?ee ?gg); (case ee => walk_at "as"); (case gg => walk_at "tr"))
  | ((with_reducible refine' Same.sqT ?ee ?gg); (case ee => walk_at "as"); (case gg => walk_at "tr"))
  | ((with_reducible refine' Same.sqL ?ee ?gg); (case ee => walk_at "as"); (case gg => walk_at "tr"))
  | ((with_reducible refine' Same.at ?ee ?gg); (case ee => walk_at "as"); (case gg => walk_at "tr"))
  | ((with_reducible refine' But.stm ?ee ?ff ?gg); (case ee => walk_at "as"); (case ff => walk_at "ne"); (case gg => walk_at "tr"))
  | ((with_reducible refine' But.tup ?ee ?ff ?gg); (case ee => walk_at "as"); (case ff => walk_at "tr1"); (case gg => walk_at "tr"))
  | ((with_reducible refine' But.sqT ?ee ?ff ?gg); (case ee => walk_at "as"); (case ff => walk_at "tr1"); (case gg => walk_at "tr"))
  | ((with_reducible refine' But.tupL ?ee ?ff ?gg); (case ee => walk_at "as"); (case ff => walk_at "tr1"); (case gg => walk_at "tr"))
  | ((with_reducible refine' But.sqTL ?ee ?ff ?gg); (case ee => walk_at "as"); (case ff => walk_at "tr1"); (case gg => walk_at "tr"))
  | ((with_reducible refine' But.sqL ?ee ?ff ?gg); (case ee => walk_at "as"); (case ff => walk_at "ne"); (case gg => walk_at "tr"))
  | ((with_reducible refine' But.at ?ee ?ff ?gg); (case ee => walk_at "as"); (case ff => walk_at "ne"); (case gg => walk_at "tr")))
local macro_rules | `(tactic| walk_at "ts") => `(tactic| first
  | with_reducible assumption
  | with_reducible exact TS.refl _
  | ((with_reducible refine' TS.trans ?gg (TS.of ?ee)); (case ee => walk_at "as"); (case gg => walk_at "ts"))
  | ((with_reducible refine' TS.trans ?gg (TS.butS ?ee ?ff)); (case ee => walk_at "as"); (case ff => walk_at "tr1"); (case gg => walk_at "ts"))
  | ((with_reducible refine' TS.trans ?gg (TS.butL ?ee ?ff)); (case ee => walk_at "as"); (case ff => walk_at "tr1"); (case gg => walk_at "ts"))
  | ((with_reducible refine' TS.trans ?gg (TS.butI ?ee ?ff)); (case ee => walk_at "as"); (case ff => walk_at "tr1"); (case gg => walk_at "ts")))
local macro_rules | `(tactic| walk_at "sm") => `(tactic| first
  | with_reducible assumption
  | with_reducible exact Same.refl _
  | ((with_reducible refine' Same.trans ?gg ?ee); (case ee => walk_at "as"); (case gg => walk_at "sm"))
  | ((with_reducible refine' But.new ?gg ?nn ?ee); (case ee => walk_at "as"); (case nn => walk_at "fr"); (case gg => walk_at "sm")))
local macro_rules | `(tactic| walk_at "fr") => `(tactic| first
  | with_reducible assumption
  | ((with_reducible refine' Same.back ?ee ?nn); (case nn => walk_at "as"); (case ee => walk_at "sm"))
  | ((with_reducible refine' But.back ?ee ?ff ?nn); (case nn => walk_at "as"); (case ff => walk_at "ne0"); (case ee => walk_at "bu")))
local macro_rules | `(tactic| walk_at "bu") => `(tactic| first
  | with_reducible assumption
  | with_reducible exact But.refl _ _
  | ((with_reducible refine' But.trans ?gg ?ee); (case ee => walk_at "as"); (case gg => walk_at "bu"))
  | ((with_reducible refine' But.trans ?gg (But.of ?ee)); (case ee => walk_at "as"); (case gg => walk_at "bu"))
  | ((with_reducible refine' But.new2 ?gg ?nn ?ee); (case ee => walk_at "as"); (case nn => walk_at "frB"); (case gg => walk_at "bu")))
local macro_rules | `(tactic| walk_at "frB") => `(tactic| first
  | with_reducible assumption
  | ((with_reducible refine' Same.back ?ee ?nn); (case nn => walk_at "as"); (case ee => walk_at "sm"))
  | ((with_reducible refine' But.back' ?ee ?ff ?nn); (case nn => walk_at "as"); (case ee => walk_at "bu"); (case ff => walk_at "tr1")))
local macro_rules | `(tactic| walk_at "tr1") => `(tactic| first
  | with_reducible assumption
  | ((with_reducible refine' Same.stm ?ee ?gg); (case ee => walk_at "as"); (case gg => walk_at "tr1"))
  | ((with_reducible refine' Same.at ?ee ?gg); (case ee => walk_at "as"); (case gg => walk_at "tr1"))
  | ((with_reducible refine' But.at ?ee ?ff ?gg); (case ee => walk_at "as"); (case ff => walk_at "ne0"); (case gg => walk_at "tr1"))
  | ((with_reducible refine' But.stm ?ee ?ff ?gg); (case ee => walk_at "as"); (case ff => walk_at "ne0"); (case gg => walk_at "tr1")))
local macro_rules | `(tactic| walk_at "ne0") => `(tactic| first
  | with_reducible assumption
  | (with_reducible apply Ne.symm; with_reducible assumption))
local macro_rules | `(tactic| walk_at "ne") => `(tactic| first
  | with_reducible assumption
  | (with_reducible apply Ne.symm; with_reducible assumption)
  | ((with_reducible refine' stm_ne ?hh ?nn); (case nn => walk_at "as"); (case hh => walk_at "tr1"))
  | ((with_reducible refine' ne_of_none ?hh ?nn); (case nn => walk_at "as"); (case hh => walk_at "tr1"))
  | ((with_reducible apply Ne.symm); (with_reducible refine' ne_of_none ?hh ?nn); (case nn => walk_at "as"); (case hh => walk_at "tr1")))
local macro_rules | `(tactic| walk_at "v") => `(tactic| first
  | with_reducible refine w_seq ?_
  | ((with_reducible refine' w_var ?vv ?_); (case vv => exact rfl))
  | with_reducible refine w_c ?_
  | with_reducible refine w_op ?_
  | with_reducible refine w_asg ?_
  | with_reducible refine w_gName ?_
  | with_reducible refine w_ret ?_
  | with_reducible refine w_ifS ?_
  | with_reducible refine w_drop ?_
  | with_reducible refine w_next ?_
  | with_reducible refine w_cons ?_
  | with_reducible refine w_nil ?_
  | with_reducible refine w_call ?_
  | with_reducible refine w_cb ?_
  | with_reducible refine w_rI0 ?_
  | with_reducible refine w_addI ?_
  | with_reducible refine w_eqI ?_
  | with_reducible refine w_neI ?_
  | with_reducible refine w_eqS ?_
  | with_reducible refine w_neS ?_
  | with_reducible refine w_eqB ?_
  | with_reducible refine w_neB ?_
  | with_reducible refine w_chain ?_
  | with_reducible refine w_test ?_
  | with_reducible refine w_tB ?_
  | with_reducible refine w_bl ?_
  | ((with_reducible refine' w_mulI ?vv ?_); (case vv => walk_at "side"))
  | ((with_reducible refine' w_rI ?vv ?_); (case vv => walk_at "side"))
  | with_reducible refine w_int1 ?_
  | with_reducible refine w_int1b ?_
  | with_reducible refine w_tup ?_
  | with_reducible refine w_lst ?_
  | with_reducible refine w_un ?_
  | with_reducible refine w_rU ?_
  | with_reducible refine w_not ?_
  | with_reducible refine w_notV ?_
  | with_reducible refine w_ifE ?_
  | with_reducible refine w_nT ?_
  | with_reducible refine w_nF ?_
  | with_reducible refine iteT ?_
  | with_reducible refine iteF ?_
  | ((with_reducible refine' w_ixT ?vv ?ww ?_); (case vv => walk_at "tr"); (case ww => walk_at "ix"))
  | ((with_reducible refine' w_ixL ?vv ?ww ?_); (case vv => walk_at "tr"); (case ww => walk_at "ix"))
  | with_reducible refine w_gSub ?_
  | ((with_reducible refine' w_setL ?vv ?ww ?_); (case vv => walk_at "tr"); (case ww => first | rfl | decide | assumption))
  | ((with_reducible refine' w_lenL ?vv ?_); (case vv => walk_at "tr"))
  | ((with_reducible refine' w_lenT ?vv ?_); (case vv => walk_at "tr"))
  | with_reducible refine w_max2 ?_
  | with_reducible refine w_min2 ?_
  | with_reducible refine w_bm ?_
  | with_reducible refine w_bm0 ?_
  | ((with_reducible refine' w_tyL ?vv ?_); (case vv => walk_at "tr"))
  | ((with_reducible refine' w_append ?vv ?ww ?_); (case vv => walk_at "tr"); (case ww => walk_at "size"))
  | ((with_reducible refine' w_size ?vv ?_); (case vv => walk_at "size"))
  | with_reducible refine w_forL ?_
  | with_reducible refine w_forT ?_
  | with_reducible refine w_forR1 ?_
  | with_reducible refine w_forR2 ?_
  | with_reducible refine w_lcL ?_
  | with_reducible refine w_lcT ?_
  | with_reducible refine w_lcR1 ?_
  | with_reducible refine w_yes ?_
  | with_reducible refine w_sl ?_
  | with_reducible refine w_noPart ?_
  | with_reducible refine w_part ?_
  | with_reducible refine w_int ?_
  | ((with_reducible refine' w_slL ?vv ?_); (case vv => walk_at "tr"))
  | ((with_reducible refine' w_seqL ?vv ?ww ?_); (case vv => walk_at "tr"); (case ww => rfl))
  | ((with_reducible refine' w_seqT ?vv ?ww ?_); (case vv => walk_at "tr"); (case ww => rfl))
  | with_reducible refine w_gNil ?_
  | with_reducible refine w_gCons ?_
  | with_reducible refine w_forZ ?_
  | with_reducible refine w_forE ?_
  | with_reducible refine w_forV ?_
  | with_reducible refine w_lcZ ?_
  | with_reducible refine w_lcE ?_
  | ((with_reducible refine' w_isi (b := true) ?vv ?ww ?_); (case vv => walk_at "ty"); (case ww => decide +kernel))
  | ((with_reducible refine' w_isi (b := false) ?vv ?ww ?_); (case vv => walk_at "ty"); (case ww => decide +kernel))
  | with_reducible refine w_revL ?_
  | with_reducible refine w_pairN ?_
  | with_reducible refine w_pairC ?_
  | with_reducible refine w_dget ?_
  | with_reducible refine w_met ?_
  | ((with_reducible refine' w_metAt ?vv ?ww ?_); (case vv => walk_at "tr"); (case ww => rfl))
  | with_reducible refine w_mkI ?_
  | with_reducible refine w_fld ?_
  | ((with_reducible refine' w_fldAt ?vv ?cc ?nn ?ww ?_); (case vv => walk_at "tr"); (case cc => walk_at "cls"); (case nn => walk_at "na"); (case ww => rfl))
  | with_reducible refine w_sfld ?_
  | ((with_reducible refine' w_sfldAt ?vv ?cc ?nn ?ll ?ee ?_); (case vv => walk_at "tr"); (case cc => walk_at "cls"); (case nn => walk_at "na"); (case ll => simp); (case ee => rfl))
  | ((with_reducible refine' w_tupL ?vv ?_); (case vv => walk_at "tr"))
  | ((with_reducible refine' w_tupT ?vv ?_); (case vv => walk_at "tr"))
  | ((with_reducible refine' w_listL ?vv ?_); (case vv => walk_at "tr"))
  | ((with_reducible refine' w_listT ?vv ?_); (case vv => walk_at "tr"))
  | with_reducible refine w_tyS ?_
  | with_reducible refine w_retN ?_
  | with_reducible refine w_break ?_
  | with_reducible refine w_cont ?_)
local macro_rules | `(tactic| walk_at "w") => `(tactic| first
  | walk_at "v"
  | with_reducible refine w_or ?_
  | with_reducible refine w_and ?_
  | with_reducible refine w_andV ?_
  | with_reducible refine w_orV ?_)
local macro_rules | `(tactic| walk_at "wd") => `(tactic| first
  | walk_at "w"
  | ((with_reducible refine' w_decT ?vv ?_); (case vv => decide +kernel))
  | ((with_reducible refine' w_decF ?vv ?_); (case vv => decide +kernel)))
local macro_rules | `(tactic| walk_at "tz") => `(tactic| (intro S z; (repeat walk_at "w"); exact z))
local macro_rules | `(tactic| walk_at "wf") => `(tactic| first
  | walk_at "wd"
  | ((with_reducible refine' w_decF ?vv ?_); (case vv => with_reducible assumption)))
/-! ### expressions, sets, parts: plain -/
def selD (k : Str) (n : Int) : PyData := .tuple [.str k, .int n]
inductive Exp where
  | num (n : Int)
  | fld (n : Int)
  | plc (k : Str) (n : Int)
  | mrk (k : Str) (n : Int)
  | cell (a : Exp)
  | two (o : Str) (a b : Exp)
def Exp.d : Exp → PyData
  | .num n => .tuple [.str "number", .int n]
  | .fld n => .tuple [.str "field", .int n]
  | .plc k n => .tuple [.str "place", selD k n]
  | .mrk k n => .tuple [.str "mark", selD k n]
  | .cell a => .tuple [.str "cell", a.d]
  | .two o a b => .tuple [.str o, a.d, b.d]
def Exp.dep : Exp → Nat
  | .cell a => a.dep + 1
  | .two _ a b => max a.dep b.dep + 1
  | _ => 1
def OpS (o : Str) : Prop := o = "+" ∨ o = "-" ∨ o = "&" ∨ o = "|" ∨ o = "^" ∨ o = "<<" ∨ o = ">>" ∨ o = "<" ∨ o = "="
def SelS (k : Str) : Prop := k = "is" ∨ k = "by"
theorem OpS.ok {o : Str} (h : OpS o) : PyData.strOk o = true := by
  rcases h with rfl | rfl | rfl | rfl | rfl | rfl | rfl | rfl | rfl <;> decide +kernel
theorem SelS.ok {o : Str} (h : SelS o) : PyData.strOk o = true := by
  rcases h with rfl | rfl <;> decide +kernel
theorem OpS.ne {o : Str} (h : OpS o) : o ≠ "number" ∧ o ≠ "field" ∧ o ≠ "place" ∧ o ≠ "mark" ∧ o ≠ "cell" := by
  rcases h with rfl | rfl | rfl | rfl | rfl | rfl | rfl | rfl | rfl <;> decide +kernel
def Exp.good : Exp → Prop
  | .plc k _ => SelS k
  | .mrk k _ => SelS k
  | .cell a => a.good
  | .two o a b => OpS o ∧ a.good ∧ b.good
  | _ => True
def OkE (n : Nat) (e : Exp) : Prop := e.dep ≤ n ∧ e.good
theorem OkE.mono {m n : Nat} {e : Exp} (h : OkE m e) (l : m ≤ n) : OkE n e := ⟨Nat.le_trans h.1 l, h.2⟩
theorem Exp.dep_pos : ∀ e : Exp, 1 ≤ e.dep
  | .num _ | .fld _ | .plc _ _ | .mrk _ _ => Nat.le_refl 1
  | .cell _ | .two _ _ _ => Nat.succ_le_succ (Nat.zero_le _)
theorem okE_0 {e : Exp} (h : OkE 0 e) : False := by have := e.dep_pos; have := h.1; omega
theorem okE_cell {n : Nat} {a : Exp} (h : OkE (n + 1) (.cell a)) : OkE n a := ⟨Nat.le_of_succ_le_succ h.1, h.2⟩
theorem okE_two {n : Nat} {o : Str} {a b : Exp} (h : OkE (n + 1) (.two o a b)) : OpS o ∧ OkE n a ∧ OkE n b := by
  obtain ⟨h1, h2, h3, h4⟩ := h
  have h5 : max a.dep b.dep ≤ n := Nat.le_of_succ_le_succ h1
  exact ⟨h2, ⟨by omega, h3⟩, by omega, h4⟩
theorem tupD_sel (k : Str) (n : Int) : tupD (selD k n) = true := by simp [selD, tupD, tupAll]
theorem Exp.tup : ∀ e : Exp, tupD e.d = true
  | .num _ => by simp [Exp.d, tupD, tupAll]
  | .fld _ => by simp [Exp.d, tupD, tupAll]
  | .plc _ _ => by simp [Exp.d, tupD, tupAll, tupD_sel]
  | .mrk _ _ => by simp [Exp.d, tupD, tupAll, tupD_sel]
  | .cell a => by simp [Exp.d, tupD, tupAll, Exp.tup a]
  | .two _ a b => by simp [Exp.d, tupD, tupAll, Exp.tup a, Exp.tup b]
theorem Exp.cln : ∀ {e : Exp}, e.good → clean e.d = true
  | .num _, _ => by
    simp only [Exp.d, clean, cleanAll]
    decide +kernel
  | .fld _, _ => by
    simp only [Exp.d, clean, cleanAll]
    decide +kernel
  | .plc _ _, h => by
    have := SelS.ok h
    simp only [Exp.d, selD, clean, cleanAll, this]
    decide +kernel
  | .mrk _ _, h => by
    have := SelS.ok h
    simp only [Exp.d, selD, clean, cleanAll, this]
    decide +kernel
  | .cell a, h => by
    have := Exp.cln (e := a) h
    simp only [Exp.d, clean, cleanAll, this]
    decide +kernel
  | .two _ a b, h => by
    have := Exp.cln (e := a) h.2.1
    have := Exp.cln (e := b) h.2.2
    have := h.1.ok
    simp only [Exp.d, clean, cleanAll, *]
    decide +kernel
theorem Exp.depth : ∀ e : Exp, e.d.depth ≤ e.dep + 1
  | .num _ | .fld _ | .plc _ _ | .mrk _ _ => by simp [Exp.d, selD, PyData.depth, PyData.depthAll, Exp.dep]
  | .cell a => by
    have := Exp.depth a
    simp only [Exp.d, PyData.depth, PyData.depthAll, Exp.dep]
    omega
  | .two _ a b => by
    have := Exp.depth a
    have := Exp.depth b
    simp only [Exp.d, PyData.depth, PyData.depthAll, Exp.dep]
    omega
/-- sets -/
inductive SetE where
  | cell (a b : Exp)
  | sel (m : Bool) (k : Str) (n : Int) (e : Exp)
def SetE.d : SetE → PyData
  | .cell a b => .tuple [.str "cell", a.d, b.d]
  | .sel m k n e => .tuple [.str (if m then "mark" else "place"), selD k n, e.d]
def OkS (n : Nat) : SetE → Prop
  | .cell a b => OkE n a ∧ OkE n b
  | .sel _ k _ e => SelS k ∧ OkE n e
theorem SetE.tup : ∀ s : SetE, tupD s.d = true
  | .cell a b => by simp [SetE.d, tupD, tupAll, a.tup, b.tup]
  | .sel _ _ _ e => by simp [SetE.d, tupD, tupAll, e.tup, tupD_sel]
theorem OkE.cln' {n : Nat} {e : Exp} (h : OkE n e) : clean e.d = true := Exp.cln h.2
theorem SetE.cln {n : Nat} : ∀ {s : SetE}, OkS n s → clean s.d = true
  | .cell a b, h => by
    have := h.1.cln'
    have := h.2.cln'
    simp only [SetE.d, clean, cleanAll, *]
    decide +kernel
  | .sel m k _ e, h => by
    have := h.1.ok
    have := h.2.cln'
    cases m <;> simp only [SetE.d, selD, clean, cleanAll, *] <;> decide +kernel
theorem SetE.depth {n : Nat} : ∀ {s : SetE}, OkS n s → s.d.depth ≤ n + 2
  | .cell a b, h => by
    have := a.depth
    have := b.depth
    have := h.1.1
    have := h.2.1
    simp only [SetE.d, PyData.depth, PyData.depthAll]
    omega
  | .sel m k _ e, h => by
    have := e.depth
    have := h.2.1
    simp only [SetE.d, selD, PyData.depth, PyData.depthAll]
    omega
theorem sets_cmp : ∀ {ss : List SetE}, (∀ s ∈ ss, OkS 4 s) → cleanAll (ss.map SetE.d) = true ∧ PyData.depthAll (ss.map SetE.d) ≤ 6
  | [], _ => by simp [cleanAll, PyData.depthAll]
  | s :: ss, h => by
    obtain ⟨a, b⟩ := sets_cmp (ss := ss) (fun x hx => h x (List.mem_cons_of_mem _ hx))
    have c := h s List.mem_cons_self
    have d := SetE.cln c
    have e := SetE.depth c
    rw [List.map_cons, cleanAll, PyData.depthAll, d, a]
    exact ⟨rfl, by omega⟩
theorem cmpL {ss : List SetE} (h : ∀ s ∈ ss, OkS 4 s) : Cmp (.list (ss.map SetE.d)) := by
  obtain ⟨a, b⟩ := sets_cmp h
  refine ⟨by rw [clean]; exact a, ?_⟩
  rw [PyData.depth]
  omega
def setsD (ss : List SetE) : PyData := .tuple (ss.map SetE.d)
theorem setsD_tup : ∀ ss : List SetE, tupAll (ss.map SetE.d) = true
  | [] => rfl
  | s :: ss => by rw [List.map_cons, tupAll, s.tup, setsD_tup ss]; rfl
/-! rows of items -/
inductive Item : PyData → Prop
  | int (n : Int) : Item (.int n)
  | str {s : Str} (h : PyData.strOk s = true) : Item (.str s)
  | pair {s : Str} (h : PyData.strOk s = true) (n : Int) : Item (.tuple [.str s, .int n])
def Row (d : PyData) : Prop := ∃ xs, d = .tuple xs ∧ ∀ x ∈ xs, Item x
def Rows (ds : List PyData) : Prop := ∀ d ∈ ds, Row d
theorem Item.tup {d : PyData} (h : Item d) : tupD d = true := by cases h <;> simp [tupD, tupAll]
theorem Item.cln {d : PyData} (h : Item d) : clean d = true := by
  cases h with
  | int => simp [clean]
  | str h => rw [clean]; exact h
  | pair h => rw [clean, cleanAll, cleanAll, cleanAll, clean, clean, h]; rfl
theorem Item.dep {d : PyData} (h : Item d) : d.depth ≤ 1 := by
  cases h <;> simp [PyData.depth, PyData.depthAll]
theorem items_all : ∀ {xs : List PyData}, (∀ x ∈ xs, Item x) → tupAll xs = true ∧ cleanAll xs = true ∧ PyData.depthAll xs ≤ 1
  | [], _ => by simp [tupAll, cleanAll, PyData.depthAll]
  | x :: xs, h => by
    obtain ⟨a, b, c⟩ := items_all (xs := xs) (fun y hy => h y (List.mem_cons_of_mem _ hy))
    have i := h x List.mem_cons_self
    refine ⟨by rw [tupAll, i.tup, a]; rfl, by rw [cleanAll, i.cln, b]; rfl, ?_⟩
    rw [PyData.depthAll]
    have := i.dep
    omega
theorem Row.all {d : PyData} (h : Row d) : tupD d = true ∧ clean d = true ∧ d.depth ≤ 2 := by
  obtain ⟨xs, rfl, h⟩ := h
  obtain ⟨a, b, c⟩ := items_all h
  refine ⟨by rw [tupD]; exact a, by rw [clean]; exact b, ?_⟩
  rw [PyData.depth]
  omega
theorem rows_all : ∀ {ds : List PyData}, Rows ds → tupAll ds = true ∧ cleanAll ds = true ∧ PyData.depthAll ds ≤ 2
  | [], _ => by simp [tupAll, cleanAll, PyData.depthAll]
  | x :: xs, h => by
    obtain ⟨a, b, c⟩ := rows_all (ds := xs) (fun y hy => h y (List.mem_cons_of_mem _ hy))
    have i := (h x List.mem_cons_self).all
    refine ⟨by rw [tupAll, i.1, a]; rfl, by rw [cleanAll, i.2.1, b]; rfl, ?_⟩
    rw [PyData.depthAll]
    omega
theorem Rows.cmp {ds : List PyData} (h : Rows ds) : Cmp (.list ds) := by
  obtain ⟨_, b, c⟩ := rows_all h
  refine ⟨by rw [clean]; exact b, ?_⟩
  rw [PyData.depth]
  omega
theorem rows_nil : Rows [] := fun _ h => (List.not_mem_nil h).elim
theorem rows_snoc {ds : List PyData} {d : PyData} (h : Rows ds) (i : Row d) : Rows (ds ++ [d]) := fun x hx => by
  rcases List.mem_append.mp hx with q | q
  · exact h x q
  · rw [List.mem_singleton.mp q]; exact i
/-! parts and roots -/
def Exp.part : Exp → List PyData → PyData × List PyData
  | .num n, ps => (.tuple [.str "number", .int n], ps)
  | .fld n, ps => (.tuple [.str "field", .int n], ps)
  | .plc k n, ps => (.int ps.length, ps ++ [.tuple [.str "get", selD k n]])
  | .mrk k n, ps => (.int ps.length, ps ++ [.tuple [.str "ask", selD k n]])
  | .cell a, ps => (.int (a.part ps).2.length, (a.part ps).2 ++ [.tuple [.str "cell", (a.part ps).1]])
  | .two o a b, ps => (.int (b.part (a.part ps).2).2.length, (b.part (a.part ps).2).2 ++ [.tuple [.str o, (a.part ps).1, (b.part (a.part ps).2).1]])
def Exp.cnt : Exp → Nat
  | .num _ => 0
  | .fld _ => 0
  | .plc _ _ => 1
  | .mrk _ _ => 1
  | .cell a => a.cnt + 1
  | .two _ a b => a.cnt + b.cnt + 1
theorem Exp.part_len : ∀ (e : Exp) (ps : List PyData), (e.part ps).2.length = ps.length + e.cnt
  | .num _, ps => rfl
  | .fld _, ps => rfl
  | .plc _ _, ps => by simp [Exp.part, Exp.cnt]
  | .mrk _ _, ps => by simp [Exp.part, Exp.cnt]
  | .cell a, ps => by simp [Exp.part, Exp.cnt, Exp.part_len a]; omega
  | .two _ a b, ps => by simp [Exp.part, Exp.cnt, Exp.part_len a, Exp.part_len b]; omega
theorem Exp.cnt_le : ∀ e : Exp, e.cnt + 1 ≤ 2 ^ e.dep
  | .num _ | .fld _ | .plc _ _ | .mrk _ _ => by simp [Exp.cnt, Exp.dep]
  | .cell a => by
    have := Exp.cnt_le a
    simp only [Exp.cnt, Exp.dep, Nat.pow_succ]
    have := Nat.two_pow_pos a.dep
    omega
  | .two _ a b => by
    have := Exp.cnt_le a
    have := Exp.cnt_le b
    simp only [Exp.cnt, Exp.dep, Nat.pow_succ]
    have := Nat.pow_le_pow_right (show 0 < 2 by decide) (Nat.le_max_left a.dep b.dep)
    have := Nat.pow_le_pow_right (show 0 < 2 by decide) (Nat.le_max_right a.dep b.dep)
    omega
theorem cnt4 {n : Nat} {e : Exp} (h : OkE n e) (hn : n ≤ 4) : e.cnt ≤ 15 := by
  have := e.cnt_le
  have := Nat.pow_le_pow_right (show 0 < 2 by decide) (Nat.le_trans h.1 hn)
  omega
theorem row_sel {s k : Str} {n : Int} (h : PyData.strOk s = true) (hk : SelS k) : Row (.tuple [.str s, selD k n]) := ⟨_, rfl, fun x hx => by
  simp only [List.mem_cons, List.mem_nil_iff, or_false] at hx
  rcases hx with rfl | rfl
  · exact .str h
  · exact .pair hk.ok n⟩
theorem Exp.part_ok : ∀ (e : Exp) {ps : List PyData}, e.good → Rows ps → Item (e.part ps).1 ∧ Rows (e.part ps).2
  | .num n, ps, _, h => ⟨.pair (by decide +kernel) _, h⟩
  | .fld n, ps, _, h => ⟨.pair (by decide +kernel) _, h⟩
  | .plc k n, ps, g, h => ⟨.int _, rows_snoc h (row_sel (by decide +kernel) g)⟩
  | .mrk k n, ps, g, h => ⟨.int _, rows_snoc h (row_sel (by decide +kernel) g)⟩
  | .cell a, ps, g, h => by
    obtain ⟨i, r⟩ := Exp.part_ok a g h
    refine ⟨.int _, rows_snoc r ⟨_, rfl, fun x hx => ?_⟩⟩
    simp only [List.mem_cons, List.mem_nil_iff, or_false] at hx
    rcases hx with rfl | rfl
    · exact .str (by decide +kernel)
    · exact i
  | .two o a b, ps, g, h => by
    obtain ⟨i, r⟩ := Exp.part_ok a g.2.1 h
    obtain ⟨j, q⟩ := Exp.part_ok b g.2.2 r
    refine ⟨.int _, rows_snoc q ⟨_, rfl, fun x hx => ?_⟩⟩
    simp only [List.mem_cons, List.mem_nil_iff, or_false] at hx
    rcases hx with rfl | rfl | rfl
    · exact .str g.1.ok
    · exact i
    · exact j
/-- one behind the other -/
def parts : List Exp → List PyData → List PyData × List PyData
  | [], ps => ([], ps)
  | e :: es, ps => ((e.part ps).1 :: (parts es (e.part ps).2).1, (parts es (e.part ps).2).2)
theorem parts_snoc : ∀ (es : List Exp) (e : Exp) (ps : List PyData), parts (es ++ [e]) ps = ((parts es ps).1 ++ [(e.part (parts es ps).2).1], (e.part (parts es ps).2).2)
  | [], e, ps => rfl
  | x :: es, e, ps => by
    rw [List.cons_append, parts, parts_snoc es e]
    rfl
def SetE.rests : SetE → List Exp
  | .cell a b => [a, b]
  | .sel _ _ _ e => [e]
def proots : List SetE → List PyData → List PyData × List PyData
  | [], ps => ([], ps)
  | s :: ss, ps => (.tuple (parts s.rests ps).1 :: (proots ss (parts s.rests ps).2).1, (proots ss (parts s.rests ps).2).2)
theorem proots_snoc : ∀ (ss : List SetE) (s : SetE) (ps : List PyData), proots (ss ++ [s]) ps = ((proots ss ps).1 ++ [.tuple (parts s.rests (proots ss ps).2).1], (parts s.rests (proots ss ps).2).2)
  | [], s, ps => rfl
  | x :: ss, s, ps => by
    rw [List.cons_append, proots, proots_snoc ss s]
    rfl
theorem take_snoc {α : Type} {xs : List α} {i : Nat} {x : α} (h : xs[i]? = some x) : xs.take (i + 1) = xs.take i ++ [x] := by
  obtain ⟨hl, rfl⟩ := List.getElem?_eq_some_iff.mp h
  exact List.take_succ_eq_append_getElem hl
theorem parts_ok : ∀ (es : List Exp) {ps : List PyData}, (∀ e ∈ es, e.good) → Rows ps → (∀ x ∈ (parts es ps).1, Item x) ∧ Rows (parts es ps).2
  | [], ps, _, h => ⟨fun _ q => (List.not_mem_nil q).elim, h⟩
  | e :: es, ps, g, h => by
    obtain ⟨i, r⟩ := e.part_ok (g e List.mem_cons_self) h
    obtain ⟨j, q⟩ := parts_ok es (ps := (e.part ps).2) (fun x hx => g x (List.mem_cons_of_mem _ hx)) r
    refine ⟨fun x hx => ?_, q⟩
    rcases List.mem_cons.mp hx with rfl | hx
    · exact i
    · exact j x hx
theorem okS_rests {n : Nat} {s : SetE} (h : OkS n s) : ∀ e ∈ s.rests, OkE n e := by
  cases s with
  | cell a b =>
    intro e he
    simp only [SetE.rests, List.mem_cons, List.mem_nil_iff, or_false] at he
    rcases he with rfl | rfl
    · exact h.1
    · exact h.2
  | sel m k j e =>
    intro x hx
    rw [List.mem_singleton.mp hx]
    exact h.2
theorem proots_ok : ∀ (ss : List SetE) {n : Nat} {ps : List PyData}, (∀ s ∈ ss, OkS n s) → Rows ps → Rows (proots ss ps).1 ∧ Rows (proots ss ps).2
  | [], n, ps, _, h => ⟨rows_nil, h⟩
  | s :: ss, n, ps, g, h => by
    obtain ⟨i, r⟩ := parts_ok s.rests (fun e he => (okS_rests (g s List.mem_cons_self) e he).2) h
    obtain ⟨j, q⟩ := proots_ok ss (ps := (parts s.rests ps).2) (fun x hx => g x (List.mem_cons_of_mem _ hx)) r
    refine ⟨fun x hx => ?_, q⟩
    rcases List.mem_cons.mp hx with rfl | hx
    · exact ⟨_, rfl, i⟩
    · exact j x hx
def cnts : List Exp → Nat
  | [] => 0
  | e :: es => e.cnt + cnts es
theorem parts_len : ∀ (es : List Exp) (ps : List PyData), (parts es ps).2.length = ps.length + cnts es
  | [], ps => rfl
  | e :: es, ps => by rw [parts, parts_len es, e.part_len, cnts]; omega
theorem cnts_le : ∀ (es : List Exp), (∀ e ∈ es, OkE 4 e) → cnts es ≤ 15 * es.length
  | [], _ => Nat.le_refl 0
  | e :: es, h => by
    have := cnts_le es (fun x hx => h x (List.mem_cons_of_mem _ hx))
    have := cnt4 (h e List.mem_cons_self) (Nat.le_refl 4)
    rw [cnts, List.length_cons]
    omega
theorem proots_len : ∀ (ss : List SetE) (ps : List PyData), (∀ s ∈ ss, OkS 4 s) → (proots ss ps).2.length ≤ ps.length + 30 * ss.length ∧ (proots ss ps).1.length = ss.length
  | [], ps, _ => ⟨Nat.le_refl _, rfl⟩
  | s :: ss, ps, h => by
    obtain ⟨a, b⟩ := proots_len ss (parts s.rests ps).2 (fun x hx => h x (List.mem_cons_of_mem _ hx))
    have c := cnts_le s.rests (okS_rests (h s List.mem_cons_self))
    have d : s.rests.length ≤ 2 := by cases s <;> simp [SetE.rests]
    rw [parts_len] at a
    refine ⟨?_, ?_⟩
    · rw [proots, List.length_cons]
      show (proots ss (parts s.rests ps).2).2.length ≤ _
      omega
    · rw [proots, List.length_cons, List.length_cons]
      show (proots ss (parts s.rests ps).2).1.length + 1 = _
      omega

end J
namespace J
open PySem PySem.Spec PyProof.Rows L2
local macro_rules | `(tactic| walk_at "cls") => `(tactic| first
  | with_reducible exact Facts.cl_Parts)
local macro_rules | `(tactic| walk_at "na") => `(tactic| first
  | with_reducible exact Facts.na_Parts_rows)
local macro_rules | `(tactic| walk_at "ty") => `(tactic| first
  | with_reducible exact ty_int
  | with_reducible exact ty_bl
  | with_reducible exact ty_str
  | with_reducible exact ty_non
  | ((with_reducible refine' ty_lst ?vv); (case vv => walk_at "tr"))
  | ((with_reducible refine' ty_sqT ?vv); (case vv => walk_at "tr"))
  | ((with_reducible refine' ty_dic ?vv); (case vv => walk_at "tr")))
local macro_rules | `(tactic| walk_at "ix") => `(tactic| first | exact at0 | exact at1 | exact at2 | assumption)
local macro_rules | `(tactic| walk_at "size") => `(tactic| first
  | assumption
  | (show _ < sizeLine; rw [sizeLine_eq]; (try simp only [List.length_cons, List.length_nil, List.length_append, List.length_map]); omega)
  | (show _ ≤ sizeLine; rw [sizeLine_eq]; (try simp only [List.length_cons, List.length_nil, List.length_append, List.length_map]); omega))
local macro_rules | `(tactic| walk_at "side") => `(tactic| first
  | assumption
  | ((with_reducible refine cdw ?_ ?_) <;> omega)
  | omega
  | (exact ⟨by omega, by omega⟩)
  | (exact Or.inl ⟨by omega, by omega⟩)
  | (exact Or.inr ⟨by omega, by omega⟩)
  | decide
  | (simp only [List.length_cons, List.length_nil, List.length_append, List.length_map]; omega)
  | (show _ ≤ _; decide))
local macro_rules | `(tactic| walk_at "as") => `(tactic| with_reducible assumption)
local macro_rules | `(tactic| walk_at "tr") => `(tactic| first
  | with_reducible assumption
  | with_reducible exact upd_same
  | ((with_reducible refine' SqL.of ?hh); (case hh => walk_at "as"))
  | ((with_reducible refine' SqT.of ?hh); (case hh => walk_at "as"))
  | ((with_reducible refine' Same.stm ?ee ?gg); (case ee => walk_at "as"); (case gg => walk_at "tr"))
  | ((with_reducible refine' Same.sqT ?ee ?gg); (case ee => walk_at "as"); (case gg => walk_at "tr"))
  | ((with_reducible refine' Same.sqL ?ee ?gg); (case ee => walk_at "as"); (case gg => walk_at "tr"))
  | ((with_reducible refine' Same.at ?ee ?gg); (case ee => walk_at "as"); (case gg => walk_at "tr"))
  | ((with_reducible refine' But.stm ?ee ?ff ?gg); (case ee => walk_at "as"); (case ff => walk_at "ne"); (case gg => walk_at "tr"))
  | ((with_reducible refine' But.tup ?ee ?ff ?gg); (case ee => walk_at "as"); (case ff => walk_at "tr1"); (case gg => walk_at "tr"))
  | ((with_reducible refine' But.sqT ?ee ?ff ?gg); (case ee => walk_at "as"); (case ff => walk_at "tr1"); (case gg => walk_at "tr"))
  | ((with_reducible refine' But.tupL ?ee ?ff ?gg); (case ee => walk_at "as"); (case ff => walk_at "tr1"); (case gg => walk_at "tr"))
  | ((with_reducible refine' But.sqTL ?ee ?ff ?gg); (case ee => walk_at "as"); (case ff => walk_at "tr1"); (case gg => walk_at "tr"))
  | ((with_reducible refine' But.sqL ?ee ?ff ?gg); (case ee => walk_at "as"); (case ff => walk_at "ne"); (case gg => walk_at "tr"))
  | ((with_reducible refine' But.at ?ee ?ff ?gg); (case ee => walk_at "as"); (case ff => walk_at "ne"); (case gg => walk_at "tr")))
local macro_rules | `(tactic| walk_at "ts") => `(tactic| first
  | with_reducible assumption
  | with_reducible exact TS.refl _
  | ((with_reducible refine' TS.trans ?gg (TS.of ?ee)); (case ee => walk_at "as"); (case gg => walk_at "ts"))
  | ((with_reducible refine' TS.trans ?gg (TS.butS ?ee ?ff)); (case ee => walk_at "as"); (case ff => walk_at "tr1"); (case gg => walk_at "ts"))
  | ((with_reducible refine' TS.trans ?gg (TS.butL ?ee ?ff)); (case ee => walk_at "as"); (case ff => walk_at "tr1"); (case gg => walk_at "ts"))
  | ((with_reducible refine' TS.trans ?gg (TS.butI ?ee ?ff)); (case ee => walk_at "as"); (case ff => walk_at "tr1"); (case gg => walk_at "ts")))
local macro_rules | `(tactic| walk_at "sm") => `(tactic| first
  | with_reducible assumption
  | with_reducible exact Same.refl _
  | ((with_reducible refine' Same.trans ?gg ?ee); (case ee => walk_at "as"); (case gg => walk_at "sm"))
  | ((with_reducible refine' But.new ?gg ?nn ?ee); (case ee => walk_at "as"); (case nn => walk_at "fr"); (case gg => walk_at "sm")))
local macro_rules | `(tactic| walk_at "fr") => `(tactic| first
  | with_reducible assumption
  | ((with_reducible refine' Same.back ?ee ?nn); (case nn => walk_at "as"); (case ee => walk_at "sm"))
  | ((with_reducible refine' But.back ?ee ?ff ?nn); (case nn => walk_at "as"); (case ff => walk_at "ne0"); (case ee => walk_at "bu")))
local macro_rules | `(tactic| walk_at "bu") => `(tactic| first
  | with_reducible assumption
  | with_reducible exact But.refl _ _
  | ((with_reducible refine' But.trans ?gg ?ee); (case ee => walk_at "as"); (case gg => walk_at "bu"))
  | ((with_reducible refine' But.trans ?gg (But.of ?ee)); (case ee => walk_at "as"); (case gg => walk_at "bu"))
  | ((with_reducible refine' But.new2 ?gg ?nn ?ee); (case ee => walk_at "as"); (case nn => walk_at "frB"); (case gg => walk_at "bu")))
local macro_rules | `(tactic| walk_at "frB") => `(tactic| first
  | with_reducible assumption
  | ((with_reducible refine' Same.back ?ee ?nn); (case nn => walk_at "as"); (case ee => walk_at "sm"))
  | ((with_reducible refine' But.back' ?ee ?ff ?nn); (case nn => walk_at "as"); (case ee => walk_at "bu"); (case ff => walk_at "tr1")))
local macro_rules | `(tactic| walk_at "tr1") => `(tactic| first
  | with_reducible assumption
  | ((with_reducible refine' Same.stm ?ee ?gg); (case ee => walk_at "as"); (case gg => walk_at "tr1"))
  | ((with_reducible refine' Same.at ?ee ?gg); (case ee => walk_at "as"); (case gg => walk_at "tr1"))
  | ((with_reducible refine' But.at ?ee ?ff ?gg); (case ee => walk_at "as"); (case ff => walk_at "ne0"); (case gg => walk_at "tr1"))
  | ((with_reducible refine' But.stm ?ee ?ff ?gg); (case ee => walk_at "as"); (case ff => walk_at "ne0"); (case gg => walk_at "tr1")))
local macro_rules | `(tactic| walk_at "ne0") => `(tactic| first
  | with_reducible assumption
  | (with_reducible apply Ne.symm; with_reducible assumption))
local macro_rules | `(tactic| walk_at "ne") => `(tactic| first
  | with_reducible assumption
  | (with_reducible apply Ne.symm; with_reducible assumption)
  | ((with_reducible refine' stm_ne ?hh ?nn); (case nn => walk_at "as"); (case hh => walk_at "tr1"))
  | ((with_reducible refine' ne_of_none ?hh ?nn); (case nn => walk_at "as"); (case hh => walk_at "tr1"))
  | ((with_reducible apply Ne.symm); (with_reducible refine' ne_of_none ?hh ?nn); (case nn => walk_at "as"); (case hh => walk_at "tr1")))
local macro_rules | `(tactic| walk_at "v") => `(tactic| first
  | with_reducible refine w_seq ?_
  | ((with_reducible refine' w_var ?vv ?_); (case vv => exact rfl))
  | with_reducible refine w_c ?_
  | with_reducible refine w_op ?_
  | with_reducible refine w_asg ?_
  | with_reducible refine w_gName ?_
  | with_reducible refine w_ret ?_
  | with_reducible refine w_ifS ?_
  | with_reducible refine w_drop ?_
  | with_reducible refine w_next ?_
  | with_reducible refine w_cons ?_
  | with_reducible refine w_nil ?_
  | with_reducible refine w_call ?_
  | with_reducible refine w_cb ?_
  | with_reducible refine w_rI0 ?_
  | with_reducible refine w_addI ?_
  | with_reducible refine w_eqI ?_
  | with_reducible refine w_neI ?_
  | with_reducible refine w_eqS ?_
  | with_reducible refine w_neS ?_
  | with_reducible refine w_eqB ?_
  | with_reducible refine w_neB ?_
  | with_reducible refine w_chain ?_
  | with_reducible refine w_test ?_
  | with_reducible refine w_tB ?_
  | with_reducible refine w_bl ?_
  | ((with_reducible refine' w_mulI ?vv ?_); (case vv => walk_at "side"))
  | ((with_reducible refine' w_rI ?vv ?_); (case vv => walk_at "side"))
  | with_reducible refine w_int1 ?_
  | with_reducible refine w_int1b ?_
  | with_reducible refine w_tup ?_
  | with_reducible refine w_lst ?_
  | with_reducible refine w_un ?_
  | with_reducible refine w_rU ?_
  | with_reducible refine w_not ?_
  | with_reducible refine w_notV ?_
  | with_reducible refine w_ifE ?_
  | with_reducible refine w_nT ?_
  | with_reducible refine w_nF ?_
  | with_reducible refine iteT ?_
  | with_reducible refine iteF ?_
  | ((with_reducible refine' w_ixT ?vv ?ww ?_); (case vv => walk_at "tr"); (case ww => walk_at "ix"))
  | ((with_reducible refine' w_ixL ?vv ?ww ?_); (case vv => walk_at "tr"); (case ww => walk_at "ix"))
  | with_reducible refine w_gSub ?_
  | ((with_reducible refine' w_setL ?vv ?ww ?_); (case vv => walk_at "tr"); (case ww => first | rfl | decide | assumption))
  | ((with_reducible refine' w_lenL ?vv ?_); (case vv => walk_at "tr"))
  | ((with_reducible refine' w_lenT ?vv ?_); (case vv => walk_at "tr"))
  | with_reducible refine w_max2 ?_
  | with_reducible refine w_min2 ?_
  | with_reducible refine w_bm ?_
  | with_reducible refine w_bm0 ?_
  | ((with_reducible refine' w_tyL ?vv ?_); (case vv => walk_at "tr"))
  | ((with_reducible refine' w_append ?vv ?ww ?_); (case vv => walk_at "tr"); (case ww => walk_at "size"))
  | ((with_reducible refine' w_size ?vv ?_); (case vv => walk_at "size"))
  | with_reducible refine w_forL ?_
  | with_reducible refine w_forT ?_
  | with_reducible refine w_forR1 ?_
  | with_reducible refine w_forR2 ?_
  | with_reducible refine w_lcL ?_
  | with_reducible refine w_lcT ?_
  | with_reducible refine w_lcR1 ?_
  | with_reducible refine w_yes ?_
  | with_reducible refine w_sl ?_
  | with_reducible refine w_noPart ?_
  | with_reducible refine w_part ?_
  | with_reducible refine w_int ?_
  | ((with_reducible refine' w_slL ?vv ?_); (case vv => walk_at "tr"))
  | ((with_reducible refine' w_seqL ?vv ?ww ?_); (case vv => walk_at "tr"); (case ww => rfl))
  | ((with_reducible refine' w_seqT ?vv ?ww ?_); (case vv => walk_at "tr"); (case ww => rfl))
  | with_reducible refine w_gNil ?_
  | with_reducible refine w_gCons ?_
  | with_reducible refine w_forZ ?_
  | with_reducible refine w_forE ?_
  | with_reducible refine w_forV ?_
  | with_reducible refine w_lcZ ?_
  | with_reducible refine w_lcE ?_
  | ((with_reducible refine' w_isi (b := true) ?vv ?ww ?_); (case vv => walk_at "ty"); (case ww => decide +kernel))
  | ((with_reducible refine' w_isi (b := false) ?vv ?ww ?_); (case vv => walk_at "ty"); (case ww => decide +kernel))
  | with_reducible refine w_revL ?_
  | with_reducible refine w_pairN ?_
  | with_reducible refine w_pairC ?_
  | with_reducible refine w_dget ?_
  | with_reducible refine w_met ?_
  | ((with_reducible refine' w_metAt ?vv ?ww ?_); (case vv => walk_at "tr"); (case ww => rfl))
  | with_reducible refine w_mkI ?_
  | with_reducible refine w_fld ?_
  | ((with_reducible refine' w_fldAt ?vv ?cc ?nn ?ww ?_); (case vv => walk_at "tr"); (case cc => walk_at "cls"); (case nn => walk_at "na"); (case ww => rfl))
  | with_reducible refine w_sfld ?_
  | ((with_reducible refine' w_sfldAt ?vv ?cc ?nn ?ll ?ee ?_); (case vv => walk_at "tr"); (case cc => walk_at "cls"); (case nn => walk_at "na"); (case ll => simp); (case ee => rfl))
  | ((with_reducible refine' w_tupL ?vv ?_); (case vv => walk_at "tr"))
  | ((with_reducible refine' w_tupT ?vv ?_); (case vv => walk_at "tr"))
  | ((with_reducible refine' w_listL ?vv ?_); (case vv => walk_at "tr"))
  | ((with_reducible refine' w_listT ?vv ?_); (case vv => walk_at "tr"))
  | with_reducible refine w_tyS ?_
  | with_reducible refine w_retN ?_
  | with_reducible refine w_break ?_
  | with_reducible refine w_cont ?_)
local macro_rules | `(tactic| walk_at "w") => `(tactic| first
  | walk_at "v"
  | with_reducible refine w_or ?_
  | with_reducible refine w_and ?_
  | with_reducible refine w_andV ?_
  | with_reducible refine w_orV ?_)
local macro_rules | `(tactic| walk_at "wd") => `(tactic| first
  | walk_at "w"
  | ((with_reducible refine' w_decT ?vv ?_); (case vv => decide +kernel))
  | ((with_reducible refine' w_decF ?vv ?_); (case vv => decide +kernel)))
local macro_rules | `(tactic| walk_at "tz") => `(tactic| (intro S z; (repeat walk_at "w"); exact z))
local macro_rules | `(tactic| walk_at "wf") => `(tactic| first
  | walk_at "wd"
  | ((with_reducible refine' w_decF ?vv ?_); (case vv => with_reducible assumption)))
/-! ### drawn expressions and sets -/
def spE (K : PySem.W.Frag) (n : Nat) : Sp := fun vs H Q _ => ∃ (s : Addr) (k : Int), vs = [.ref s, .int k] ∧ Stm H s ∧ k ≤ n ∧ 1 ≤ n ∧ ∀ v e H', Dp K H' v (Exp.d e) → OkE n e → Stm H' s → But s H H' → Q v H'
theorem len_law_e {K : PySem.W.Frag} {n : Nat} {vs H Q E} (h : spE K n vs H Q E) : vs.length = 2 := by obtain ⟨_, _, rfl, _⟩ := h; rfl
theorem no_law_e {K : PySem.W.Frag} {vs H Q E} (h : spE K 0 vs H Q E) : False := by obtain ⟨_, _, _, _, _, h, _⟩ := h; omega
theorem dp_pair {K : PySem.W.Frag} {H : Hp} {p : Addr} {k : Str} {n : Int} (h : SqT K H p [.str k, .int n]) : Dp K H (.ref p) (selD k n) := .tup h (.cons (.str k) (.cons (.int n) .nil))
theorem op_at {i : Int} {H : Hp} {Q : VK} {K : PySem.W.Frag} {p : Addr} (h : SqL K H p [.str "+", .str "-", .str "&", .str "|", .str "^", .str "<<", .str ">>", .str "<", .str "="]) (h0 : 0 ≤ i) (h1 : i < 9) (k : ∀ o, OpS o → Q (.str o) H) : rIx K (.ref p) (.int i) H Q := by
  have c : i = 0 ∨ i = 1 ∨ i = 2 ∨ i = 3 ∨ i = 4 ∨ i = 5 ∨ i = 6 ∨ i = 7 ∨ i = 8 := by omega
  rcases c with rfl | rfl | rfl | rfl | rfl | rfl | rfl | rfl | rfl <;> exact w_ixL h (atI_of (by decide) rfl) (k _ (by unfold OpS; simp))
theorem sel_at {i x y : Int} {H : Hp} {Q : VK} {K : PySem.W.Frag} {p a b : Addr} (h : SqL K H p [.ref a, .ref b]) (ha : SqT K H a [.str "is", .int x]) (hb : SqT K H b [.str "by", .int y]) (h0 : 0 ≤ i) (h1 : i < 2)
    (k : ∀ q k n, SelS k → SqT K H q [.str k, .int n] → Q (.ref q) H) : rIx K (.ref p) (.int i) H Q := by
  have c : i = 0 ∨ i = 1 := by omega
  rcases c with rfl | rfl
  · exact w_ixL h at0 (k _ _ _ (.inl rfl) ha)
  · exact w_ixL h at1 (k _ _ _ (.inr rfl) hb)
theorem num_at {i : Int} {H : Hp} {Q : VK} {K : PySem.W.Frag} {p : Addr} (h : SqL K H p [.int 4, .int (2 ^ (24 : Int).toNat)]) (h0 : 0 ≤ i) (h1 : i < 2) (k : ∀ m : Int, 0 < m → m < 2 ^ 200 → Q (.int m) H) : rIx K (.ref p) (.int i) H Q := by
  have c : i = 0 ∨ i = 1 := by omega
  rcases c with rfl | rfl
  · exact w_ixL h at0 (k _ (by decide) (by decide))
  · exact w_ixL h at1 (k _ (by decide) (by decide))
theorem leaf_at {i m f n : Int} {k : Str} {H : Hp} {Q : VK} {K : PySem.W.Frag} {p a b c d e s : Addr} (h : SqL K H p [.ref a, .ref b, .ref c, .ref d, .ref e]) (ha : SqT K H a [.str "number", .int m]) (hb : SqT K H b [.str "field", .int f])
    (hc : SqT K H c [.str "place", .ref s]) (hd : SqT K H d [.str "mark", .ref s]) (he : SqT K H e [.str "place", .ref s]) (hs : SqT K H s [.str k, .int n]) (ks : SelS k) (h0 : 0 ≤ i) (h1 : i < 5)
    (q : ∀ v e, Dp K H v (Exp.d e) → OkE 1 e → Q v H) : rIx K (.ref p) (.int i) H Q := by
  have z : i = 0 ∨ i = 1 ∨ i = 2 ∨ i = 3 ∨ i = 4 := by omega
  rcases z with rfl | rfl | rfl | rfl | rfl
  · exact w_ixL h at0 (q _ (.num m) (.tup ha (.cons (.str _) (.cons (.int _) .nil))) ⟨Nat.le_refl 1, trivial⟩)
  · exact w_ixL h at1 (q _ (.fld f) (.tup hb (.cons (.str _) (.cons (.int _) .nil))) ⟨Nat.le_refl 1, trivial⟩)
  · exact w_ixL h at2 (q _ (.plc k n) (.tup hc (.cons (.str _) (.cons (dp_pair hs) .nil))) ⟨Nat.le_refl 1, ks⟩)
  · exact w_ixL h (atI_of (by decide) rfl) (q _ (.mrk k n) (.tup hd (.cons (.str _) (.cons (dp_pair hs) .nil))) ⟨Nat.le_refl 1, ks⟩)
  · exact w_ixL h (atI_of (by decide) rfl) (q _ (.plc k n) (.tup he (.cons (.str _) (.cons (dp_pair hs) .nil))) ⟨Nat.le_refl 1, ks⟩)
theorem Exp.ts {K : PySem.W.Frag} {H H' : Hp} {e : Exp} {v : V} (t : TS H H') (h : Dp K H v e.d) : Dp K H' v e.d := dp_ts t _ _ e.tup h
section
variable {P : Program} {w : World} {K : PySem.W.Frag} {mg : Str → Option Value}
theorem ok_law_e [c : Facts K mg] (G__law_take : Fn P w K mg "_law_take" 1 ["stream", "many"] (spTake)) : ∀ n : Nat, Fn P w K mg "_law_e" (n + 2) ["stream", "deep"] ((spE K n))
  | 0 => by
    obtain ⟨fd, F⟩ := c.d_law_e
    exact Fn.mk' (k := 1) F c.g_law_e sc_law_e (fun vs H Q E h => (no_law_e h).elim) (fun _ _ _ _ _ _ us hl => match us, hl with | [_, _], _ => rfl) (fun base cdv A outer s H vs Q E hr h => (no_law_e h).elim)
  | n + 1 => by
    have G__law_e := ok_law_e G__law_take n
    obtain ⟨fd, F⟩ := c.d_law_e
    refine Fn.mk' F c.g_law_e sc_law_e (k := n + 2) (fun vs H Q E h => ?_) (fun _ _ _ _ _ _ us hl => match us, hl with | [_, _], _ => rfl) (fun base cdv A outer s H vs Q E hr h => ?_)
    · exact len_law_e h
    · have nd := sc_law_e.nd
      have hu := hu_of hr
      have hr__law_e : Room (n + 2) _ := hr.mono (by omega)
      have hr__law_take : Room 1 _ := hr.mono (by omega)
      refine ⟨_, (pss_cons (ps_set (i := 2) nd rfl (Or.inl rfl) (pe_fn G__law_take hr__law_take (by rfl) (pa_cons (pv 0) (pa_cons pe_int pa_nil))))
      (pss_cons (ps_if (PW.pt (pw_or (pt_cmpR op_lt (pv 1) pe_int (nomark _)) (pw_or1 (pt_cmpR op_lt (pv 2) pe_int (nomark _))))) (pss_cons (ps_set (i := 3) nd rfl (Or.inl rfl) (pe_ix (ix_any (K := K) rfl) (pe_lst (pa_cons (pe_tup (pa_cons pe_str (pa_cons (pe_fn G__law_take hr__law_take (by rfl) (pa_cons (pv 0) (pa_cons pe_int pa_nil))) pa_nil))) (pa_cons (pe_tup (pa_cons pe_str (pa_cons (pe_fn G__law_take hr__law_take (by rfl) (pa_cons (pv 0) (pa_cons pe_int pa_nil))) pa_nil))) pa_nil))) (pe_fn G__law_take hr__law_take (by rfl) (pa_cons (pv 0) (pa_cons pe_int pa_nil))) (fun _ _ => rfl)))
      (pss_cons (ps_set (i := 4) nd rfl (Or.inl rfl) (pe_tup (pa_cons pe_str (pa_cons (pe_fn G__law_take hr__law_take (by rfl) (pa_cons (pv 0) (pa_cons (pe_ix (ix_any (K := K) rfl) (pe_lst (pa_cons pe_int (pa_cons (pe_op op_pow pe_int pe_int) pa_nil))) (pe_fn G__law_take hr__law_take (by rfl) (pa_cons (pv 0) (pa_cons pe_int pa_nil))) (fun _ _ => rfl)) pa_nil))) pa_nil))))
      (pss_cons (ps_set (i := 5) nd rfl (Or.inl rfl) (pe_tup (pa_cons pe_str (pa_cons (pe_fn G__law_take hr__law_take (by rfl) (pa_cons (pv 0) (pa_cons pe_int pa_nil))) pa_nil))))
      (pss_one (ps_ret (pe_ix (ix_any (K := K) rfl) (pe_lst (pa_cons (pv 4) (pa_cons (pv 5) (pa_cons (pe_tup (pa_cons pe_str (pa_cons (pv 3) pa_nil))) (pa_cons (pe_tup (pa_cons pe_str (pa_cons (pv 3) pa_nil))) (pa_cons (pe_tup (pa_cons pe_str (pa_cons (pv 3) pa_nil))) pa_nil)))))) (pe_fn G__law_take hr__law_take (by rfl) (pa_cons (pv 0) (pa_cons pe_int pa_nil))) (fun _ _ => rfl))))))) pss_nil)
      (pss_cons (ps_if (pt_cmpR (op_eqA (K := K) rfl hr.units) (pv 2) pe_int (nomark _)) (pss_one (ps_ret (pe_tup (pa_cons pe_str (pa_cons (pe_fn G__law_e hr__law_e (by rfl) (pa_cons (pv 0) (pa_cons (pe_op op_sub (pv 1) pe_int) pa_nil))) pa_nil))))) pss_nil)
      (pss_cons (ps_set (i := 6) nd rfl (Or.inl rfl) (pe_ix (ix_any (K := K) rfl) (pe_lst (pa_cons pe_str (pa_cons pe_str (pa_cons pe_str (pa_cons pe_str (pa_cons pe_str (pa_cons pe_str (pa_cons pe_str (pa_cons pe_str (pa_cons pe_str pa_nil)))))))))) (pe_fn G__law_take hr__law_take (by rfl) (pa_cons (pv 0) (pa_cons pe_int pa_nil))) (fun _ _ => rfl)))
      (pss_one (ps_ret (pe_tup (pa_cons (pv 6) (pa_cons (pe_fn G__law_e hr__law_e (by rfl) (pa_cons (pv 0) (pa_cons (pe_op op_sub (pv 1) pe_int) pa_nil))) (pa_cons (pe_fn G__law_e hr__law_e (by rfl) (pa_cons (pv 0) (pa_cons (pe_op op_sub (pv 1) pe_int) pa_nil))) pa_nil)))))))))), ?_⟩
      try dsimp only [cxOf, Cx.nox, Cx.wish]
      obtain ⟨s, k, rfl, hs, hk, hn, q⟩ := h
      repeat walk_at "w"
      refine ⟨s, 7, rfl, hs, by decide, by decide, fun way H1 w0 w1 hs1 e1 => ?_⟩
      repeat walk_at "v"
      refine w_orP (k < 2) (way < 3) (by walk_at "tz") (by walk_at "tz") (fun b hb => ?_)
      refine ite2 (fun hk => ?_) (fun hk => ?_)
      · repeat walk_at "w"
        refine ⟨s, 4, rfl, hs1, by decide, by decide, fun x H2 x0 x1 hs2 e2 => ?_⟩
        repeat walk_at "w"
        refine w_new fun p3 H3 n3 s3 f3 => ?_
        have hs3 : Stm H3 s := s3.stm hs2
        repeat walk_at "w"
        refine ⟨s, 3, rfl, hs3, by decide, by decide, fun y H4 y0 y1 hs4 e4 => ?_⟩
        repeat walk_at "w"
        refine w_new fun p5 H5 n5 s5 f5 => ?_
        repeat walk_at "w"
        refine w_new fun p6 H6 n6 s6 f6 => ?_
        have hs6 : Stm H6 s := s6.stm (s5.stm hs4)
        repeat walk_at "w"
        refine ⟨s, 2, rfl, hs6, by decide, by decide, fun z H7 z0 z1 hs7 e7 => ?_⟩
        have t35 : TS H3 H5 := (TS.butS e4 hs3).trans (TS.of s5)
        have t57 : TS H5 H7 := (TS.of s6).trans (TS.butS e7 hs6)
        refine sel_at (SqL.of (e7.at (fun q => by rw [q] at f6; obtain ⟨_, _, _, g⟩ := hs6; rw [f6] at g; cases g) f6)) ((t35.trans t57).sqT (SqT.of f3)) (t57.sqT (SqT.of f5)) z0 z1 fun sl kk nn ks hsl => ?_
        repeat walk_at "w"
        refine w_new fun p8 H8 n8 s8 f8 => ?_
        have hs8 : Stm H8 s := s8.stm hs7
        repeat walk_at "w"
        refine ⟨s, 2, rfl, hs8, by decide, by decide, fun z2 H9 z20 z21 hs9 e9 => ?_⟩
        repeat walk_at "w"
        refine num_at (by walk_at "tr") z20 z21 fun m m0 m1 => ?_
        repeat walk_at "w"
        refine ⟨s, m, rfl, hs9, m0, m1, fun nb H10 _ _ hs10 e10 => ?_⟩
        repeat walk_at "w"
        refine w_new fun p11 H11 n11 s11 f11 => ?_
        have hs11 : Stm H11 s := s11.stm hs10
        repeat walk_at "w"
        refine ⟨s, 3, rfl, hs11, by decide, by decide, fun fd H12 _ _ hs12 e12 => ?_⟩
        repeat walk_at "w"
        refine w_new fun p13 H13 n13 s13 f13 => ?_
        repeat walk_at "w"
        refine w_new fun p14 H14 n14 s14 f14 => ?_
        repeat walk_at "w"
        refine w_new fun p15 H15 n15 s15 f15 => ?_
        repeat walk_at "w"
        refine w_new fun p16 H16 n16 s16 f16 => ?_
        repeat walk_at "w"
        refine w_new fun p17 H17 n17 s17 f17 => ?_
        have hs17 : Stm H17 s := s17.stm (s16.stm (s15.stm (s14.stm (s13.stm hs12))))
        repeat walk_at "w"
        refine ⟨s, 5, rfl, hs17, by decide, by decide, fun lf H18 l0 l1 hs18 e18 => ?_⟩
        refine leaf_at (k := kk) (n := nn) (by walk_at "tr") (by walk_at "tr") (by walk_at "tr") (by walk_at "tr") (by walk_at "tr") (by walk_at "tr") (by walk_at "tr") ks l0 l1 fun v e de oe => ?_
        exact q v e H18 de (oe.mono hn) hs18 (by walk_at "bu")
      · have hw : ¬ (k < 2) := fun z => hk (hb.mpr (.inl z))
        repeat walk_at "w"
        refine ite2 (fun hk3 => ?_) (fun hk3 => ?_)
        · repeat walk_at "w"
          refine ⟨s, _, rfl, hs1, by omega, by omega, fun v e H2 de oe hs2 e2 => ?_⟩
          repeat walk_at "w"
          refine w_new fun p3 H3 n3 s3 f3 => ?_
          exact q _ (.cell e) H3 (.tup (SqT.of f3) (.cons (.str _) (.cons (Exp.ts (TS.of s3) de) .nil))) ⟨Nat.succ_le_succ oe.1, oe.2⟩ (s3.stm hs2) (by walk_at "bu")
        · repeat walk_at "w"
          refine w_new fun p2 H2 n2 s2 f2 => ?_
          have hs2 : Stm H2 s := s2.stm hs1
          repeat walk_at "w"
          refine ⟨s, 9, rfl, hs2, by decide, by decide, fun ow H3 o0 o1 hs3 e3 => ?_⟩
          refine op_at (by walk_at "tr") o0 o1 fun o ho => ?_
          repeat walk_at "w"
          refine ⟨s, _, rfl, hs3, by omega, by omega, fun v e H4 de oe hs4 e4 => ?_⟩
          repeat walk_at "w"
          refine ⟨s, _, rfl, hs4, by omega, by omega, fun v2 f H5 df of hs5 e5 => ?_⟩
          repeat walk_at "w"
          refine w_new fun p6 H6 n6 s6 f6 => ?_
          exact q _ (.two o e f) H6 (.tup (SqT.of f6) (.cons (.str _) (.cons (Exp.ts ((TS.butS e5 hs4).trans (TS.of s6)) de) (.cons (Exp.ts (TS.of s6) df) .nil))))
            ⟨Nat.succ_le_succ (Nat.max_le.mpr ⟨oe.1, of.1⟩), ho, oe.2, of.2⟩ (s6.stm hs5) (by walk_at "bu")
end

end J
namespace J
open PySem PySem.Spec PyProof.Rows L2
local macro_rules | `(tactic| walk_at "cls") => `(tactic| first
  | with_reducible exact Facts.cl_Parts)
local macro_rules | `(tactic| walk_at "na") => `(tactic| first
  | with_reducible exact Facts.na_Parts_rows)
local macro_rules | `(tactic| walk_at "ty") => `(tactic| first
  | with_reducible exact ty_int
  | with_reducible exact ty_bl
  | with_reducible exact ty_str
  | with_reducible exact ty_non
  | ((with_reducible refine' ty_lst ?vv); (case vv => walk_at "tr"))
  | ((with_reducible refine' ty_sqT ?vv); (case vv => walk_at "tr"))
  | ((with_reducible refine' ty_dic ?vv); (case vv => walk_at "tr")))
local macro_rules | `(tactic| walk_at "ix") => `(tactic| first | exact at0 | exact at1 | exact at2 | assumption)
local macro_rules | `(tactic| walk_at "size") => `(tactic| first
  | assumption
  | (show _ < sizeLine; rw [sizeLine_eq]; (try simp only [List.length_cons, List.length_nil, List.length_append, List.length_map]); omega)
  | (show _ ≤ sizeLine; rw [sizeLine_eq]; (try simp only [List.length_cons, List.length_nil, List.length_append, List.length_map]); omega))
local macro_rules | `(tactic| walk_at "side") => `(tactic| first
  | assumption
  | ((with_reducible refine cdw ?_ ?_) <;> omega)
  | omega
  | (exact ⟨by omega, by omega⟩)
  | (exact Or.inl ⟨by omega, by omega⟩)
  | (exact Or.inr ⟨by omega, by omega⟩)
  | decide
  | (simp only [List.length_cons, List.length_nil, List.length_append, List.length_map]; omega)
  | (show _ ≤ _; decide))
local macro_rules | `(tactic| walk_at "as") => `(tactic| with_reducible assumption)
local macro_rules | `(tactic| walk_at "tr") => `(tactic| first
  | with_reducible assumption
  | with_reducible exact upd_same
  | ((with_reducible refine' SqL.of ?hh); (case hh => walk_at "as"))
  | ((with_reducible refine' SqT.of ?hh); (case hh => walk_at "as"))
  | ((with_reducible refine' Same.stm ?ee ?gg); (case ee => walk_at "as"); (case gg => walk_at "tr"))
  | ((with_reducible refine' Same.sqT ?ee ?gg); (case ee => walk_at "as"); (case gg => walk_at "tr"))
  | ((with_reducible refine' Same.sqL ?ee ?gg); (case ee => walk_at "as"); (case gg => walk_at "tr"))
  | ((with_reducible refine' Same.at ?ee ?gg); (case ee => walk_at "as"); (case gg => walk_at "tr"))
  | ((with_reducible refine' But.stm ?ee ?ff ?gg); (case ee => walk_at "as"); (case ff => walk_at "ne"); (case gg => walk_at "tr"))
  | ((with_reducible refine' But.tup ?ee ?ff ?gg); (case ee => walk_at "as"); (case ff => walk_at "tr1"); (case gg => walk_at "tr"))
  | ((with_reducible refine' But.sqT ?ee ?ff ?gg); (case ee => walk_at "as"); (case ff => walk_at "tr1"); (case gg => walk_at "tr"))
  | ((with_reducible refine' But.tupL ?ee ?ff ?gg); (case ee => walk_at "as"); (case ff => walk_at "tr1"); (case gg => walk_at "tr"))
  | ((with_reducible refine' But.sqTL ?ee ?ff ?gg); (case ee => walk_at "as"); (case ff => walk_at "tr1"); (case gg => walk_at "tr"))
  | ((with_reducible refine' But.sqL ?ee ?ff ?gg); (case ee => walk_at "as"); (case ff => walk_at "ne"); (case gg => walk_at "tr"))
  | ((with_reducible refine' But.at ?ee ?ff ?gg); (case ee => walk_at "as"); (case ff => walk_at "ne"); (case gg => walk_at "tr")))
local macro_rules | `(tactic| walk_at "ts") => `(tactic| first
  | with_reducible assumption
  | with_reducible exact TS.refl _
  | ((with_reducible refine' TS.trans ?gg (TS.of ?ee)); (case ee => walk_at "as"); (case gg => walk_at "ts"))
  | ((with_reducible refine' TS.trans ?gg (TS.butS ?ee ?ff)); (case ee => walk_at "as"); (case ff => walk_at "tr1"); (case gg => walk_at "ts"))
  | ((with_reducible refine' TS.trans ?gg (TS.butL ?ee ?ff)); (case ee => walk_at "as"); (case ff => walk_at "tr1"); (case gg => walk_at "ts"))
  | ((with_reducible refine' TS.trans ?gg (TS.butI ?ee ?ff)); (case ee => walk_at "as"); (case ff => walk_at "tr1"); (case gg => walk_at "ts")))
local macro_rules | `(tactic| walk_at "sm") => `(tactic| first
  | with_reducible assumption
  | with_reducible exact Same.refl _
  | ((with_reducible refine' Same.trans ?gg ?ee); (case ee => walk_at "as"); (case gg => walk_at "sm"))
  | ((with_reducible refine' But.new ?gg ?nn ?ee); (case ee => walk_at "as"); (case nn => walk_at "fr"); (case gg => walk_at "sm")))
local macro_rules | `(tactic| walk_at "fr") => `(tactic| first
  | with_reducible assumption
  | ((with_reducible refine' Same.back ?ee ?nn); (case nn => walk_at "as"); (case ee => walk_at "sm"))
  | ((with_reducible refine' But.back ?ee ?ff ?nn); (case nn => walk_at "as"); (case ff => walk_at "ne0"); (case ee => walk_at "bu")))
local macro_rules | `(tactic| walk_at "bu") => `(tactic| first
  | with_reducible assumption
  | with_reducible exact But.refl _ _
  | ((with_reducible refine' But.trans ?gg ?ee); (case ee => walk_at "as"); (case gg => walk_at "bu"))
  | ((with_reducible refine' But.trans ?gg (But.of ?ee)); (case ee => walk_at "as"); (case gg => walk_at "bu"))
  | ((with_reducible refine' But.new2 ?gg ?nn ?ee); (case ee => walk_at "as"); (case nn => walk_at "frB"); (case gg => walk_at "bu")))
local macro_rules | `(tactic| walk_at "frB") => `(tactic| first
  | with_reducible assumption
  | ((with_reducible refine' Same.back ?ee ?nn); (case nn => walk_at "as"); (case ee => walk_at "sm"))
  | ((with_reducible refine' But.back' ?ee ?ff ?nn); (case nn => walk_at "as"); (case ee => walk_at "bu"); (case ff => walk_at "tr1")))
local macro_rules | `(tactic| walk_at "tr1") => `(tactic| first
  | with_reducible assumption
  | ((with_reducible refine' Same.stm ?ee ?gg); (case ee => walk_at "as"); (case gg => walk_at "tr1"))
  | ((with_reducible refine' Same.at ?ee ?gg); (case ee => walk_at "as"); (case gg => walk_at "tr1"))
  | ((with_reducible refine' But.at ?ee ?ff ?gg); (case ee => walk_at "as"); (case ff => walk_at "ne0"); (case gg => walk_at "tr1"))
  | ((with_reducible refine' But.stm ?ee ?ff ?gg); (case ee => walk_at "as"); (case ff => walk_at "ne0"); (case gg => walk_at "tr1")))
local macro_rules | `(tactic| walk_at "ne0") => `(tactic| first
  | with_reducible assumption
  | (with_reducible apply Ne.symm; with_reducible assumption))
local macro_rules | `(tactic| walk_at "ne") => `(tactic| first
  | with_reducible assumption
  | (with_reducible apply Ne.symm; with_reducible assumption)
  | ((with_reducible refine' stm_ne ?hh ?nn); (case nn => walk_at "as"); (case hh => walk_at "tr1"))
  | ((with_reducible refine' ne_of_none ?hh ?nn); (case nn => walk_at "as"); (case hh => walk_at "tr1"))
  | ((with_reducible apply Ne.symm); (with_reducible refine' ne_of_none ?hh ?nn); (case nn => walk_at "as"); (case hh => walk_at "tr1")))
local macro_rules | `(tactic| walk_at "v") => `(tactic| first
  | with_reducible refine w_seq ?_
  | ((with_reducible refine' w_var ?vv ?_); (case vv => exact rfl))
  | with_reducible refine w_c ?_
  | with_reducible refine w_op ?_
  | with_reducible refine w_asg ?_
  | with_reducible refine w_gName ?_
  | with_reducible refine w_ret ?_
  | with_reducible refine w_ifS ?_
  | with_reducible refine w_drop ?_
  | with_reducible refine w_next ?_
  | with_reducible refine w_cons ?_
  | with_reducible refine w_nil ?_
  | with_reducible refine w_call ?_
  | with_reducible refine w_cb ?_
  | with_reducible refine w_rI0 ?_
  | with_reducible refine w_addI ?_
  | with_reducible refine w_eqI ?_
  | with_reducible refine w_neI ?_
  | with_reducible refine w_eqS ?_
  | with_reducible refine w_neS ?_
  | with_reducible refine w_eqB ?_
  | with_reducible refine w_neB ?_
  | with_reducible refine w_chain ?_
  | with_reducible refine w_test ?_
  | with_reducible refine w_tB ?_
  | with_reducible refine w_bl ?_
  | ((with_reducible refine' w_mulI ?vv ?_); (case vv => walk_at "side"))
  | ((with_reducible refine' w_rI ?vv ?_); (case vv => walk_at "side"))
  | with_reducible refine w_int1 ?_
  | with_reducible refine w_int1b ?_
  | with_reducible refine w_tup ?_
  | with_reducible refine w_lst ?_
  | with_reducible refine w_un ?_
  | with_reducible refine w_rU ?_
  | with_reducible refine w_not ?_
  | with_reducible refine w_notV ?_
  | with_reducible refine w_ifE ?_
  | with_reducible refine w_nT ?_
  | with_reducible refine w_nF ?_
  | with_reducible refine iteT ?_
  | with_reducible refine iteF ?_
  | ((with_reducible refine' w_ixT ?vv ?ww ?_); (case vv => walk_at "tr"); (case ww => walk_at "ix"))
  | ((with_reducible refine' w_ixL ?vv ?ww ?_); (case vv => walk_at "tr"); (case ww => walk_at "ix"))
  | with_reducible refine w_gSub ?_
  | ((with_reducible refine' w_setL ?vv ?ww ?_); (case vv => walk_at "tr"); (case ww => first | rfl | decide | assumption))
  | ((with_reducible refine' w_lenL ?vv ?_); (case vv => walk_at "tr"))
  | ((with_reducible refine' w_lenT ?vv ?_); (case vv => walk_at "tr"))
  | with_reducible refine w_max2 ?_
  | with_reducible refine w_min2 ?_
  | with_reducible refine w_bm ?_
  | with_reducible refine w_bm0 ?_
  | ((with_reducible refine' w_tyL ?vv ?_); (case vv => walk_at "tr"))
  | ((with_reducible refine' w_append ?vv ?ww ?_); (case vv => walk_at "tr"); (case ww => walk_at "size"))
  | ((with_reducible refine' w_size ?vv ?_); (case vv => walk_at "size"))
  | with_reducible refine w_forL ?_
  | with_reducible refine w_forT ?_
  | with_reducible refine w_forR1 ?_
  | with_reducible refine w_forR2 ?_
  | with_reducible refine w_lcL ?_
  | with_reducible refine w_lcT ?_
  | with_reducible refine w_lcR1 ?_
  | with_reducible refine w_yes ?_
  | with_reducible refine w_sl ?_
  | with_reducible refine w_noPart ?_
  | with_reducible refine w_part ?_
  | with_reducible refine w_int ?_
  | ((with_reducible refine' w_slL ?vv ?_); (case vv => walk_at "tr"))
  | ((with_reducible refine' w_seqL ?vv ?ww ?_); (case vv => walk_at "tr"); (case ww => rfl))
  | ((with_reducible refine' w_seqT ?vv ?ww ?_); (case vv => walk_at "tr"); (case ww => rfl))
  | with_reducible refine w_gNil ?_
  | with_reducible refine w_gCons ?_
  | with_reducible refine w_forZ ?_
  | with_reducible refine w_forE ?_
  | with_reducible refine w_forV ?_
  | with_reducible refine w_lcZ ?_
  | with_reducible refine w_lcE ?_
  | ((with_reducible refine' w_isi (b := true) ?vv ?ww ?_); (case vv => walk_at "ty"); (case ww => decide +kernel))
  | ((with_reducible refine' w_isi (b := false) ?vv ?ww ?_); (case vv => walk_at "ty"); (case ww => decide +kernel))
  | with_reducible refine w_revL ?_
  | with_reducible refine w_pairN ?_
  | with_reducible refine w_pairC ?_
  | with_reducible refine w_dget ?_
  | with_reducible refine w_met ?_
  | ((with_reducible refine' w_metAt ?vv ?ww ?_); (case vv => walk_at "tr"); (case ww => rfl))
  | with_reducible refine w_mkI ?_
  | with_reducible refine w_fld ?_
  | ((with_reducible refine' w_fldAt ?vv ?cc ?nn ?ww ?_); (case vv => walk_at "tr"); (case cc => walk_at "cls"); (case nn => walk_at "na"); (case ww => rfl))
  | with_reducible refine w_sfld ?_
  | ((with_reducible refine' w_sfldAt ?vv ?cc ?nn ?ll ?ee ?_); (case vv => walk_at "tr"); (case cc => walk_at "cls"); (case nn => walk_at "na"); (case ll => simp); (case ee => rfl))
  | ((with_reducible refine' w_tupL ?vv ?_); (case vv => walk_at "tr"))
  | ((with_reducible refine' w_tupT ?vv ?_); (case vv => walk_at "tr"))
  | ((with_reducible refine' w_listL ?vv ?_); (case vv => walk_at "tr"))
  | ((with_reducible refine' w_listT ?vv ?_); (case vv => walk_at "tr"))
  | with_reducible refine w_tyS ?_
  | with_reducible refine w_retN ?_
  | with_reducible refine w_break ?_
  | with_reducible refine w_cont ?_)
local macro_rules | `(tactic| walk_at "w") => `(tactic| first
  | walk_at "v"
  | with_reducible refine w_or ?_
  | with_reducible refine w_and ?_
  | with_reducible refine w_andV ?_
  | with_reducible refine w_orV ?_)
local macro_rules | `(tactic| walk_at "wd") => `(tactic| first
  | walk_at "w"
  | ((with_reducible refine' w_decT ?vv ?_); (case vv => decide +kernel))
  | ((with_reducible refine' w_decF ?vv ?_); (case vv => decide +kernel)))
local macro_rules | `(tactic| walk_at "tz") => `(tactic| (intro S z; (repeat walk_at "w"); exact z))
local macro_rules | `(tactic| walk_at "wf") => `(tactic| first
  | walk_at "wd"
  | ((with_reducible refine' w_decF ?vv ?_); (case vv => with_reducible assumption)))
def spSets (K : PySem.W.Frag) : Sp := fun vs H Q _ => ∃ (s : Addr), vs = [.ref s] ∧ Stm H s ∧ ∀ v ss H', Dp K H' v (setsD ss) → ss.length ≤ 4 → (∀ x ∈ ss, OkS 4 x) → Stm H' s → But s H H' → Q v H'
theorem len_law_sets {K : PySem.W.Frag} {vs H Q E} (h : spSets K vs H Q E) : vs.length = 1 := by obtain ⟨_, rfl, _⟩ := h; rfl
theorem times_at {i : Int} {H : Hp} {Q : VK} {K : PySem.W.Frag} {p : Addr} (h : SqL K H p [.int 1, .int 2, .int 3, .int 4, .int 0]) (h0 : 0 ≤ i) (h1 : i < 5) (k : ∀ m : Int, 0 ≤ m → m ≤ 4 → Q (.int m) H) : rIx K (.ref p) (.int i) H Q := by
  have z : i = 0 ∨ i = 1 ∨ i = 2 ∨ i = 3 ∨ i = 4 := by omega
  rcases z with rfl | rfl | rfl | rfl | rfl
  · exact w_ixL h at0 (k _ (by decide) (by decide))
  · exact w_ixL h at1 (k _ (by decide) (by decide))
  · exact w_ixL h at2 (k _ (by decide) (by decide))
  · exact w_ixL h (atI_of (by decide) rfl) (k _ (by decide) (by decide))
  · exact w_ixL h (atI_of (by decide) rfl) (k _ (by decide) (by decide))
theorem kind_at {b : Bool} {H : Hp} {Q : VK} {K : PySem.W.Frag} {p : Addr} {x y : Str} (h : SqL K H p [.str x, .str y]) (k : Q (.str (if b = true then y else x)) H) : rIx K (.ref p) (.int (if b = true then 1 else 0)) H Q := by
  cases b
  · exact w_ixL h at0 k
  · exact w_ixL h at1 k
def SetE.kind : SetE → Str
  | .cell _ _ => "cell"
  | .sel m _ _ _ => if m then "mark" else "place"
theorem SetE.at0 {K : PySem.W.Frag} {H : Hp} {v : V} : ∀ {s : SetE}, Dp K H v s.d → ∃ p r, v = .ref p ∧ SqT K H p (.str s.kind :: r)
  | .cell a b, h => by
    obtain ⟨p, xs, rfl, hs, ha⟩ := dp_tup h
    obtain ⟨x, r, rfl, hx, _⟩ := dpa_cons ha
    rw [dp_str hx] at hs
    exact ⟨p, r, rfl, hs⟩
  | .sel _ _ _ _, h => by
    obtain ⟨p, xs, rfl, hs, ha⟩ := dp_tup h
    obtain ⟨x, r, rfl, hx, _⟩ := dpa_cons ha
    rw [dp_str hx] at hs
    exact ⟨p, r, rfl, hs⟩
/-- a list of drawn sets -/
def SL (K : PySem.W.Frag) (H : Hp) (p : Addr) (ss : List SetE) : Prop := ∃ xs, H p = some (.lst xs) ∧ DpAll K H xs (ss.map SetE.d) ∧ ∀ x ∈ ss, OkS 4 x
theorem SL.new {K : PySem.W.Frag} {H : Hp} {p : Addr} (h : H p = some (.lst [])) : SL K H p [] := ⟨[], h, .nil, fun _ q => (List.not_mem_nil q).elim⟩
theorem SL.len {K : PySem.W.Frag} {H : Hp} {p : Addr} {ss : List SetE} (h : SL K H p ss) : ∃ xs, H p = some (.lst xs) ∧ xs.length = ss.length := by
  obtain ⟨xs, h, d, _⟩ := h
  exact ⟨xs, h, by rw [dpa_len d, List.length_map]⟩
theorem SL.ts {K : PySem.W.Frag} {H H' : Hp} {p : Addr} {ss : List SetE} (h : SL K H p ss) (e : TS H H') (k : ∀ xs, H p = some (.lst xs) → H' p = some (.lst xs)) : SL K H' p ss := by
  obtain ⟨xs, h, d, o⟩ := h
  exact ⟨xs, k _ h, dpAll_ts e _ _ (setsD_tup ss) d, o⟩
section
variable {P : Program} {w : World} {K : PySem.W.Frag} {mg : Str → Option Value}
theorem ok_law_sets [c : Facts K mg] (G__law_e : Fn P w K mg "_law_e" 6 ["stream", "deep"] ((spE K 4))) (G__law_take : Fn P w K mg "_law_take" 1 ["stream", "many"] (spTake)) : Fn P w K mg "_law_sets" 7 ["stream"] ((spSets K)) := by
  obtain ⟨fd, F⟩ := c.d_law_sets
  refine Fn.mk' F c.g_law_sets sc_law_sets (k := 6) (fun vs H Q E h => ?_) (fun _ _ _ _ _ _ us hl => match us, hl with | [_], _ => rfl) (fun base cdv A outer s H vs Q E hr h => ?_)
  · exact len_law_sets h
  · have nd := sc_law_sets.nd
    have hu := hu_of hr
    have hr__law_e : Room 6 _ := hr.mono (by omega)
    have hr__law_take : Room 1 _ := hr.mono (by omega)
    refine ⟨_, (pss_cons (ps_set (i := 1) nd rfl (Or.inl rfl) (pe_lst pa_nil))
      (pss_cons (ps_set (i := 2) nd rfl (Or.inl rfl) (pe_op (op_addA (K := K) rfl) pe_int (pe_fn G__law_take hr__law_take (by rfl) (pa_cons (pv 0) (pa_cons pe_int pa_nil)))))
      (pss_cons (ps_for PassesOwn.never rfl (pi_range1 (by rfl) c.f_range (pa_cons (pe_ix (ix_any (K := K) rfl) (pe_lst (pa_cons pe_int (pa_cons pe_int (pa_cons pe_int (pa_cons pe_int (pa_cons pe_int pa_nil)))))) (pe_fn G__law_take hr__law_take (by rfl) (pa_cons (pv 0) (pa_cons pe_int pa_nil))) (fun _ _ => rfl)) pa_nil)) (pg_name (i := 3) nd rfl (Or.inl rfl)) (pss_cons (ps_set (i := 4) nd rfl (Or.inl rfl) (pe_fn G__law_take hr__law_take (by rfl) (pa_cons (pv 0) (pa_cons pe_int pa_nil))))
      (pss_cons (ps_set (i := 5) nd rfl (Or.inl rfl) (pe_ix (ix_any (K := K) rfl) (pe_lst (pa_cons (pe_tup (pa_cons pe_str (pa_cons (pe_fn G__law_take hr__law_take (by rfl) (pa_cons (pv 0) (pa_cons pe_int pa_nil))) pa_nil))) (pa_cons (pe_tup (pa_cons pe_str (pa_cons (pe_fn G__law_take hr__law_take (by rfl) (pa_cons (pv 0) (pa_cons pe_int pa_nil))) pa_nil))) pa_nil))) (pe_fn G__law_take hr__law_take (by rfl) (pa_cons (pv 0) (pa_cons pe_int pa_nil))) (fun _ _ => rfl)))
      (pss_one (ps_if (PW.pt (pw_and (pt_cmpR (op_eqA (K := K) rfl hr.units) (pv 4) pe_int (nomark _)) (pw_and1 (pt_cmpR (op_eqA (K := K) rfl hr.units) (pe_lc (own := [("one", 6)]) rfl nd (pi_list (pv 1)) (blkOk_by (N := N_law_sets) (sc := defScope s_law_sets) (by decide +kernel)) (fun _ _ _ _ _ => (pg_name (i := 6) nd rfl (Or.inl rfl))) (fun _ _ _ _ _ => pts_one (pt_cmpR (op_eqA (K := K) rfl hr.units) (pe_ix (ix_any (K := K) rfl) (pv 6) pe_int (fun _ _ => rfl)) pe_str (nomark _))) (fun _ _ _ _ _ => (pv 6))) (pe_lst pa_nil) (nomark _))))) (pss_one (ps_expr (pe_bm PySem.F.plainAttrs_list PySem.F.slot_list_append PySem.F.type_list_append mt_append (pv 1) (pa_cons (pe_tup (pa_cons pe_str (pa_cons (pe_fn G__law_e hr__law_e (by rfl) (pa_cons (pv 0) (pa_cons (pv 2) pa_nil))) (pa_cons (pe_fn G__law_e hr__law_e (by rfl) (pa_cons (pv 0) (pa_cons (pv 2) pa_nil))) pa_nil)))) pa_nil)))) (pss_one (ps_expr (pe_bm PySem.F.plainAttrs_list PySem.F.slot_list_append PySem.F.type_list_append mt_append (pv 1) (pa_cons (pe_tup (pa_cons (pe_ix (ix_any (K := K) rfl) (pe_lst (pa_cons pe_str (pa_cons pe_str pa_nil))) (pe_callTy call_int1A (by rfl) c.f_int boot_int (pa_cons (pe_cmpR (op_eqA (K := K) rfl hr.units) (pv 4) pe_int (nomark _)) pa_nil)) (fun _ _ => rfl)) (pa_cons (pv 5) (pa_cons (pe_fn G__law_e hr__law_e (by rfl) (pa_cons (pv 0) (pa_cons (pv 2) pa_nil))) pa_nil)))) pa_nil)))))))))
      (pss_one (ps_ret (pe_callTy (call_tupA (K := K) rfl) (by rfl) c.f_tuple boot_tuple (pa_cons (pv 1) pa_nil))))))), ?_⟩
    try dsimp only [cxOf, Cx.nox, Cx.wish]
    obtain ⟨s, rfl, hs, q⟩ := h
    repeat walk_at "w"
    refine w_new fun p1 H1 n1 s1 f1 => ?_
    have hs1 : Stm H1 s := s1.stm hs
    repeat walk_at "w"
    refine ⟨s, 4, rfl, hs1, by decide, by decide, fun dp H2 d0 d1 hs2 e2 => ?_⟩
    repeat walk_at "w"
    refine w_new fun p3 H3 n3 s3 f3 => ?_
    have hs3 : Stm H3 s := s3.stm hs2
    repeat walk_at "w"
    refine ⟨s, 5, rfl, hs3, by decide, by decide, fun tm H4 t0 t1 hs4 e4 => ?_⟩
    repeat walk_at "w"
    refine times_at (by walk_at "tr") t0 t1 fun m m0 m1 => ?_
    repeat walk_at "w"
    have f4 : H4 p1 = some (.lst []) := by walk_at "tr"
    have b4 : But s H H4 := by walk_at "bu"
    have np : p1 ≠ s := stm_ne hs n1
    refine fl_rng1 (fun i σ H' => ∃ ss k y z, ss.length = i ∧ SL K H' p1 ss ∧ Stm H' s ∧ But s H H' ∧ σ = [some (.ref s), some (.ref p1), some (.int (1 + dp)), k, y, z, none]) (by omega) (by omega) ⟨[], _, _, _, rfl, SL.new f4, hs4, b4, rfl⟩ (fun i σ H5 hi hp => ?_) (fun σ H5 hp => ?_)
    · obtain ⟨ss, k, y, z, hl, hS, hs5, b5, rfl⟩ := hp
      repeat walk_at "w"
      refine ⟨s, 3, rfl, hs5, by decide, by decide, fun wy H6 w0 w1 hs6 e6 => ?_⟩
      repeat walk_at "w"
      refine ⟨s, 4, rfl, hs6, by decide, by decide, fun x H7 x0 x1 hs7 e7 => ?_⟩
      repeat walk_at "w"
      refine w_new fun p8 H8 n8 s8 f8 => ?_
      have hs8 : Stm H8 s := s8.stm hs7
      repeat walk_at "w"
      refine ⟨s, 3, rfl, hs8, by decide, by decide, fun y H9 y0 y1 hs9 e9 => ?_⟩
      repeat walk_at "w"
      refine w_new fun p10 H10 n10 s10 f10 => ?_
      repeat walk_at "w"
      refine w_new fun p11 H11 n11 s11 f11 => ?_
      have hs11 : Stm H11 s := s11.stm (s10.stm hs9)
      repeat walk_at "w"
      refine ⟨s, 2, rfl, hs11, by decide, by decide, fun z H12 z0 z1 hs12 e12 => ?_⟩
      refine sel_at (by walk_at "tr") (by walk_at "tr") (by walk_at "tr") z0 z1 fun sl kk nn ks hsl => ?_
      have hS12 : SL K H12 p1 ss := by
        refine hS.ts (by walk_at "ts") fun xs hx => ?_
        walk_at "tr"
      have b12 : But s H H12 := by walk_at "bu"
      clear hS e12 e9 e7 e6 s8 s10 s11 hs8 hs9 hs11 hs6 hs7 f8 f10 f11 n8 n10 n11 b5 hs5
      repeat walk_at "v"
      refine w_andK (Same H12) (fun b H' sm => ?_) (fun hR => ?_)
      · obtain ⟨xs, hx, hd, ho⟩ : SL K H' p1 ss := hS12.ts (TS.of sm) fun xs hx => sm _ _ hx
        have hs' : Stm H' s := sm.stm hs12
        have hxl : xs.length = i := by rw [dpa_len hd, List.length_map, hl]
        have b' : But s H H' := b12.trans (But.of sm)
        have hsl' : SqT K H' sl [.str kk, .int nn] := sm.sqT hsl
        clear b12 hs12 hS12 hsl
        refine ite2 (fun hb => ?_) (fun hb => ?_)
        · repeat walk_at "w"
          refine ⟨s, _, rfl, hs', by omega, by decide, fun v e H13 de oe hs13 e13 => ?_⟩
          repeat walk_at "w"
          refine ⟨s, _, rfl, hs13, by omega, by decide, fun v2 f H14 df of hs14 e14 => ?_⟩
          repeat walk_at "w"
          refine w_new fun p15 H15 n15 s15 f15 => ?_
          repeat walk_at "w"
          refine w_chg fun H16 e16 f16 => ?_
          repeat walk_at "w"
          have f15' : H15 p1 = some (.lst xs) := by walk_at "tr"
          have t16 : TS H15 H16 := TS.butL e16 f15'
          have t13 : TS H' H15 := ((TS.butS e13 hs').trans (TS.butS e14 hs13)).trans (TS.of s15)
          have hs15 : Stm H15 s := s15.stm hs14
          refine ⟨ss ++ [.cell e f], _, _, _, by rw [List.length_append, hl]; rfl, ⟨_, f16, ?_, ?_⟩, e16.stm np.symm hs15, ?_, rfl⟩
          · rw [List.map_append]
            refine dpa_app (dpAll_ts (t13.trans t16) _ _ (setsD_tup ss) hd) (dpa_one (.tup (t16.sqT (SqT.of f15)) (.cons (.str _) (.cons (Exp.ts ((TS.butS e14 hs13).trans ((TS.of s15).trans t16)) de) (.cons (Exp.ts ((TS.of s15).trans t16) df) .nil)))))
          · intro x hx
            rcases List.mem_append.mp hx with g | g
            · exact ho x g
            · rw [List.mem_singleton.mp g]; exact ⟨oe, of⟩
          · walk_at "bu"
        · repeat walk_at "w"
          refine w_new fun p13 H13 n13 s13 f13 => ?_
          repeat walk_at "w"
          refine kind_at (SqL.of f13) ?_
          repeat walk_at "w"
          refine ⟨s, _, rfl, s13.stm hs', by omega, by decide, fun v e H14 de oe hs14 e14 => ?_⟩
          repeat walk_at "w"
          refine w_new fun p15 H15 n15 s15 f15 => ?_
          repeat walk_at "w"
          refine w_chg fun H16 e16 f16 => ?_
          repeat walk_at "w"
          have f15' : H15 p1 = some (.lst xs) := by walk_at "tr"
          have t16 : TS H15 H16 := TS.butL e16 f15'
          have t13 : TS H' H15 := ((TS.of s13).trans (TS.butS e14 (s13.stm hs'))).trans (TS.of s15)
          have hs15 : Stm H15 s := s15.stm hs14
          refine ⟨ss ++ [.sel (decide (wy = 1)) kk nn e], _, _, _, by rw [List.length_append, hl]; rfl, ⟨_, f16, ?_, ?_⟩, e16.stm np.symm hs15, ?_, rfl⟩
          · rw [List.map_append]
            refine dpa_app (dpAll_ts (t13.trans t16) _ _ (setsD_tup ss) hd) (dpa_one (.tup (t16.sqT (SqT.of f15)) (.cons (.str _) (.cons (dp_pair ((t13.trans t16).sqT hsl')) (.cons (Exp.ts ((TS.of s15).trans t16) de) .nil)))))
          · intro x hx
            rcases List.mem_append.mp hx with g | g
            · exact ho x g
            · rw [List.mem_singleton.mp g]; exact ⟨ks, oe⟩
          · walk_at "bu"
      · repeat walk_at "w"
        refine ite2 (fun hw => ?_) (fun hw => ?_)
        · repeat walk_at "w"
          obtain ⟨xs, hx, hd, ho⟩ := hS12
          refine lc_L xs (fun D i ys H' => Same H12 H' ∧ ∃ ts, DpAll K H' ys (ts.map SetE.d) ∧ ∀ x ∈ ts, OkS 4 x) (SqL.of hx) (fun D H' hD e f => ⟨e, [], .nil, fun _ q => (List.not_mem_nil q).elim⟩) (fun D hD i ys H' hi hy hp => hp.1.sqL (SqL.of hx)) (fun D hD j x ys H' hi hj hy hp => ?_) (fun D hD ys H' hl hy hp => ?_)
          · obtain ⟨e, ts, hts, ot⟩ := hp
            obtain ⟨d, hd1, hd2⟩ := dpa_at' (dpAll_ts (TS.of e) _ _ (setsD_tup ss) hd) hi
            obtain ⟨a, ha, rfl⟩ : ∃ a ∈ ss, a.d = d := List.mem_map.mp (List.mem_of_getElem? hd1)
            obtain ⟨pa, r, rfl, hpa⟩ := SetE.at0 hd2
            repeat walk_at "w"
            refine ite2 (fun hk => ?_) (fun hk => ?_)
            · repeat walk_at "w"
              refine lc_end hy hj (by have := (List.getElem?_eq_some_iff.mp hi).1; rw [sizeLine_eq]; have := dpa_len hd; rw [List.length_map] at this; omega) fun H'' e2 f2 => ?_
              have t2 : TS H' H'' := TS.butL e2 hy
              refine ⟨But.new e hD e2, ts ++ [a], ?_, ?_⟩
              · rw [List.map_append]
                exact dpa_app (dpAll_ts t2 _ _ (setsD_tup ts) hts) (dpa_one (dp_ts t2 _ _ a.tup hd2))
              · intro x hx
                rcases List.mem_append.mp hx with g | g
                · exact ot x g
                · rw [List.mem_singleton.mp g]; exact ho a ha
            · exact lc_skip hy hj ⟨e, ts, hts, ot⟩
          · obtain ⟨e, ts, hts, ot⟩ := hp
            repeat walk_at "w"
            refine w_new fun p14 H14 n14 s14 f14 => ?_
            refine w_eqP (e := .list []) (.lst (SqL.of (s14.at hy)) (dpAll_ts (TS.of s14) _ _ (setsD_tup ts) hts)) (.lst (SqL.of f14) .nil) (cmpL ot) (cmpL (ss := []) (fun _ q => (List.not_mem_nil q).elim)) fun b hb => ?_
            repeat walk_at "w"
            exact hR _ _ (e.trans s14)
        · exact hR _ _ (Same.refl _)
    · obtain ⟨ss, k, y, z, hl, ⟨xs, hx, hd, ho⟩, hs5, b5, rfl⟩ := hp
      repeat walk_at "w"
      refine w_new fun p6 H6 n6 s6 f6 => ?_
      exact q _ ss H6 (.tup (SqT.of f6) (dpAll_ts (TS.of s6) _ _ (setsD_tup ss) hd)) (by omega) ho (s6.stm hs5) (b5.trans (But.of s6))
end

end J
namespace J
open PySem PySem.Spec PyProof.Rows L2
local macro_rules | `(tactic| walk_at "cls") => `(tactic| first
  | with_reducible exact Facts.cl_Parts)
local macro_rules | `(tactic| walk_at "na") => `(tactic| first
  | with_reducible exact Facts.na_Parts_rows)
local macro_rules | `(tactic| walk_at "ty") => `(tactic| first
  | with_reducible exact ty_int
  | with_reducible exact ty_bl
  | with_reducible exact ty_str
  | with_reducible exact ty_non
  | ((with_reducible refine' ty_lst ?vv); (case vv => walk_at "tr"))
  | ((with_reducible refine' ty_sqT ?vv); (case vv => walk_at "tr"))
  | ((with_reducible refine' ty_dic ?vv); (case vv => walk_at "tr")))
local macro_rules | `(tactic| walk_at "ix") => `(tactic| first | exact at0 | exact at1 | exact at2 | assumption)
local macro_rules | `(tactic| walk_at "size") => `(tactic| first
  | assumption
  | (show _ < sizeLine; rw [sizeLine_eq]; (try simp only [List.length_cons, List.length_nil, List.length_append, List.length_map]); omega)
  | (show _ ≤ sizeLine; rw [sizeLine_eq]; (try simp only [List.length_cons, List.length_nil, List.length_append, List.length_map]); omega))
local macro_rules | `(tactic| walk_at "side") => `(tactic| first
  | assumption
  | ((with_reducible refine cdw ?_ ?_) <;> omega)
  | omega
  | (exact ⟨by omega, by omega⟩)
  | (exact Or.inl ⟨by omega, by omega⟩)
  | (exact Or.inr ⟨by omega, by omega⟩)
  | decide
  | (simp only [List.length_cons, List.length_nil, List.length_append, List.length_map]; omega)
  | (show _ ≤ _; decide))
local macro_rules | `(tactic| walk_at "as") => `(tactic| with_reducible assumption)
local macro_rules | `(tactic| walk_at "tr") => `(tactic| first
  | with_reducible assumption
  | with_reducible exact upd_same
  | ((with_reducible refine' SqL.of ?hh); (case hh => walk_at "as"))
  | ((with_reducible refine' SqT.of ?hh); (case hh => walk_at "as"))
  | ((with_reducible refine' Same.stm ?ee ?gg); (case ee => walk_at "as"); (case gg => walk_at "tr"))
  | ((with_reducible refine' Same.sqT ?ee ?gg); (case ee => walk_at "as"); (case gg => walk_at "tr"))
  | ((with_reducible refine' Same.sqL ?ee ?gg); (case ee => walk_at "as"); (case gg => walk_at "tr"))
  | ((with_reducible refine' Same.at ?ee ?gg); (case ee => walk_at "as"); (case gg => walk_at "tr"))
  | ((with_reducible refine' But.stm ?ee ?ff ?gg); (case ee => walk_at "as"); (case ff => walk_at "ne"); (case gg => walk_at "tr"))
  | ((with_reducible refine' But.tup ?ee ?ff ?gg); (case ee => walk_at "as"); (case ff => walk_at "tr1"); (case gg => walk_at "tr"))
  | ((with_reducible refine' But.sqT ?ee ?ff ?gg); (case ee => walk_at "as"); (case ff => walk_at "tr1"); (case gg => walk_at "tr"))
  | ((with_reducible refine' But.tupL ?ee ?ff ?gg); (case ee => walk_at "as"); (case ff => walk_at "tr1"); (case gg => walk_at "tr"))
  | ((with_reducible refine' But.sqTL ?ee ?ff ?gg); (case ee => walk_at "as"); (case ff => walk_at "tr1"); (case gg => walk_at "tr"))
  | ((with_reducible refine' But.sqL ?ee ?ff ?gg); (case ee => walk_at "as"); (case ff => walk_at "ne"); (case gg => walk_at "tr"))
  | ((with_reducible refine' But.at ?ee ?ff ?gg); (case ee => walk_at "as"); (case ff => walk_at "ne"); (case gg => walk_at "tr")))
local macro_rules | `(tactic| walk_at "ts") => `(tactic| first
  | with_reducible assumption
  | with_reducible exact TS.refl _
  | ((with_reducible refine' TS.trans ?gg (TS.of ?ee)); (case ee => walk_at "as"); (case gg => walk_at "ts"))
  | ((with_reducible refine' TS.trans ?gg (TS.butS ?ee ?ff)); (case ee => walk_at "as"); (case ff => walk_at "tr1"); (case gg => walk_at "ts"))
  | ((with_reducible refine' TS.trans ?gg (TS.butL ?ee ?ff)); (case ee => walk_at "as"); (case ff => walk_at "tr1"); (case gg => walk_at "ts"))
  | ((with_reducible refine' TS.trans ?gg (TS.butI ?ee ?ff)); (case ee => walk_at "as"); (case ff => walk_at "tr1"); (case gg => walk_at "ts")))
local macro_rules | `(tactic| walk_at "sm") => `(tactic| first
  | with_reducible assumption
  | with_reducible exact Same.refl _
  | ((with_reducible refine' Same.trans ?gg ?ee); (case ee => walk_at "as"); (case gg => walk_at "sm"))
  | ((with_reducible refine' But.new ?gg ?nn ?ee); (case ee => walk_at "as"); (case nn => walk_at "fr"); (case gg => walk_at "sm")))
local macro_rules | `(tactic| walk_at "fr") => `(tactic| first
  | with_reducible assumption
  | ((with_reducible refine' Same.back ?ee ?nn); (case nn => walk_at "as"); (case ee => walk_at "sm"))
  | ((with_reducible refine' But.back ?ee ?ff ?nn); (case nn => walk_at "as"); (case ff => walk_at "ne0"); (case ee => walk_at "bu")))
local macro_rules | `(tactic| walk_at "bu") => `(tactic| first
  | with_reducible assumption
  | with_reducible exact But.refl _ _
  | ((with_reducible refine' But.trans ?gg ?ee); (case ee => walk_at "as"); (case gg => walk_at "bu"))
  | ((with_reducible refine' But.trans ?gg (But.of ?ee)); (case ee => walk_at "as"); (case gg => walk_at "bu"))
  | ((with_reducible refine' But.new2 ?gg ?nn ?ee); (case ee => walk_at "as"); (case nn => walk_at "frB"); (case gg => walk_at "bu")))
local macro_rules | `(tactic| walk_at "frB") => `(tactic| first
  | with_reducible assumption
  | ((with_reducible refine' Same.back ?ee ?nn); (case nn => walk_at "as"); (case ee => walk_at "sm"))
  | ((with_reducible refine' But.back' ?ee ?ff ?nn); (case nn => walk_at "as"); (case ee => walk_at "bu"); (case ff => walk_at "tr1")))
local macro_rules | `(tactic| walk_at "tr1") => `(tactic| first
  | with_reducible assumption
  | ((with_reducible refine' Same.stm ?ee ?gg); (case ee => walk_at "as"); (case gg => walk_at "tr1"))
  | ((with_reducible refine' Same.at ?ee ?gg); (case ee => walk_at "as"); (case gg => walk_at "tr1"))
  | ((with_reducible refine' But.at ?ee ?ff ?gg); (case ee => walk_at "as"); (case ff => walk_at "ne0"); (case gg => walk_at "tr1"))
  | ((with_reducible refine' But.stm ?ee ?ff ?gg); (case ee => walk_at "as"); (case ff => walk_at "ne0"); (case gg => walk_at "tr1")))
local macro_rules | `(tactic| walk_at "ne0") => `(tactic| first
  | with_reducible assumption
  | (with_reducible apply Ne.symm; with_reducible assumption))
local macro_rules | `(tactic| walk_at "ne") => `(tactic| first
  | with_reducible assumption
  | (with_reducible apply Ne.symm; with_reducible assumption)
  | ((with_reducible refine' stm_ne ?hh ?nn); (case nn => walk_at "as"); (case hh => walk_at "tr1"))
  | ((with_reducible refine' ne_of_none ?hh ?nn); (case nn => walk_at "as"); (case hh => walk_at "tr1"))
  | ((with_reducible apply Ne.symm); (with_reducible refine' ne_of_none ?hh ?nn); (case nn => walk_at "as"); (case hh => walk_at "tr1")))
local macro_rules | `(tactic| walk_at "v") => `(tactic| first
  | with_reducible refine w_seq ?_
  | ((with_reducible refine' w_var ?vv ?_); (case vv => exact rfl))
  | with_reducible refine w_c ?_
  | with_reducible refine w_op ?_
  | with_reducible refine w_asg ?_
  | with_reducible refine w_gName ?_
  | with_reducible refine w_ret ?_
  | with_reducible refine w_ifS ?_
  | with_reducible refine w_drop ?_
  | with_reducible refine w_next ?_
  | with_reducible refine w_cons ?_
  | with_reducible refine w_nil ?_
  | with_reducible refine w_call ?_
  | with_reducible refine w_cb ?_
  | with_reducible refine w_rI0 ?_
  | with_reducible refine w_addI ?_
  | with_reducible refine w_eqI ?_
  | with_reducible refine w_neI ?_
  | with_reducible refine w_eqS ?_
  | with_reducible refine w_neS ?_
  | with_reducible refine w_eqB ?_
  | with_reducible refine w_neB ?_
  | with_reducible refine w_chain ?_
  | with_reducible refine w_test ?_
  | with_reducible refine w_tB ?_
  | with_reducible refine w_bl ?_
  | ((with_reducible refine' w_mulI ?vv ?_); (case vv => walk_at "side"))
  | ((with_reducible refine' w_rI ?vv ?_); (case vv => walk_at "side"))
  | with_reducible refine w_int1 ?_
  | with_reducible refine w_int1b ?_
  | with_reducible refine w_tup ?_
  | with_reducible refine w_lst ?_
  | with_reducible refine w_un ?_
  | with_reducible refine w_rU ?_
  | with_reducible refine w_not ?_
  | with_reducible refine w_notV ?_
  | with_reducible refine w_ifE ?_
  | with_reducible refine w_nT ?_
  | with_reducible refine w_nF ?_
  | with_reducible refine iteT ?_
  | with_reducible refine iteF ?_
  | ((with_reducible refine' w_ixT ?vv ?ww ?_); (case vv => walk_at "tr"); (case ww => walk_at "ix"))
  | ((with_reducible refine' w_ixL ?vv ?ww ?_); (case vv => walk_at "tr"); (case ww => walk_at "ix"))
  | with_reducible refine w_gSub ?_
  | ((with_reducible refine' w_setL ?vv ?ww ?_); (case vv => walk_at "tr"); (case ww => first | rfl | decide | assumption))
  | ((with_reducible refine' w_lenL ?vv ?_); (case vv => walk_at "tr"))
  | ((with_reducible refine' w_lenT ?vv ?_); (case vv => walk_at "tr"))
  | with_reducible refine w_max2 ?_
  | with_reducible refine w_min2 ?_
  | with_reducible refine w_bm ?_
  | with_reducible refine w_bm0 ?_
  | ((with_reducible refine' w_tyL ?vv ?_); (case vv => walk_at "tr"))
  | ((with_reducible refine' w_append ?vv ?ww ?_); (case vv => walk_at "tr"); (case ww => walk_at "size"))
  | ((with_reducible refine' w_size ?vv ?_); (case vv => walk_at "size"))
  | with_reducible refine w_forL ?_
  | with_reducible refine w_forT ?_
  | with_reducible refine w_forR1 ?_
  | with_reducible refine w_forR2 ?_
  | with_reducible refine w_lcL ?_
  | with_reducible refine w_lcT ?_
  | with_reducible refine w_lcR1 ?_
  | with_reducible refine w_yes ?_
  | with_reducible refine w_sl ?_
  | with_reducible refine w_noPart ?_
  | with_reducible refine w_part ?_
  | with_reducible refine w_int ?_
  | ((with_reducible refine' w_slL ?vv ?_); (case vv => walk_at "tr"))
  | ((with_reducible refine' w_seqL ?vv ?ww ?_); (case vv => walk_at "tr"); (case ww => rfl))
  | ((with_reducible refine' w_seqT ?vv ?ww ?_); (case vv => walk_at "tr"); (case ww => rfl))
  | with_reducible refine w_gNil ?_
  | with_reducible refine w_gCons ?_
  | with_reducible refine w_forZ ?_
  | with_reducible refine w_forE ?_
  | with_reducible refine w_forV ?_
  | with_reducible refine w_lcZ ?_
  | with_reducible refine w_lcE ?_
  | ((with_reducible refine' w_isi (b := true) ?vv ?ww ?_); (case vv => walk_at "ty"); (case ww => decide +kernel))
  | ((with_reducible refine' w_isi (b := false) ?vv ?ww ?_); (case vv => walk_at "ty"); (case ww => decide +kernel))
  | with_reducible refine w_revL ?_
  | with_reducible refine w_pairN ?_
  | with_reducible refine w_pairC ?_
  | with_reducible refine w_dget ?_
  | with_reducible refine w_met ?_
  | ((with_reducible refine' w_metAt ?vv ?ww ?_); (case vv => walk_at "tr"); (case ww => rfl))
  | with_reducible refine w_mkI ?_
  | with_reducible refine w_fld ?_
  | ((with_reducible refine' w_fldAt ?vv ?cc ?nn ?ww ?_); (case vv => walk_at "tr"); (case cc => walk_at "cls"); (case nn => walk_at "na"); (case ww => rfl))
  | with_reducible refine w_sfld ?_
  | ((with_reducible refine' w_sfldAt ?vv ?cc ?nn ?ll ?ee ?_); (case vv => walk_at "tr"); (case cc => walk_at "cls"); (case nn => walk_at "na"); (case ll => simp); (case ee => rfl))
  | ((with_reducible refine' w_tupL ?vv ?_); (case vv => walk_at "tr"))
  | ((with_reducible refine' w_tupT ?vv ?_); (case vv => walk_at "tr"))
  | ((with_reducible refine' w_listL ?vv ?_); (case vv => walk_at "tr"))
  | ((with_reducible refine' w_listT ?vv ?_); (case vv => walk_at "tr"))
  | with_reducible refine w_tyS ?_
  | with_reducible refine w_retN ?_
  | with_reducible refine w_break ?_
  | with_reducible refine w_cont ?_)
local macro_rules | `(tactic| walk_at "w") => `(tactic| first
  | walk_at "v"
  | with_reducible refine w_or ?_
  | with_reducible refine w_and ?_
  | with_reducible refine w_andV ?_
  | with_reducible refine w_orV ?_)
local macro_rules | `(tactic| walk_at "wd") => `(tactic| first
  | walk_at "w"
  | ((with_reducible refine' w_decT ?vv ?_); (case vv => decide +kernel))
  | ((with_reducible refine' w_decF ?vv ?_); (case vv => decide +kernel)))
local macro_rules | `(tactic| walk_at "tz") => `(tactic| (intro S z; (repeat walk_at "w"); exact z))
local macro_rules | `(tactic| walk_at "wf") => `(tactic| first
  | walk_at "wd"
  | ((with_reducible refine' w_decF ?vv ?_); (case vv => with_reducible assumption)))
/-! ### the law's own parts -/
/-- a list of rows -/
def PL (K : PySem.W.Frag) (H : Hp) (l : Addr) (ps : List PyData) : Prop := ∃ xs, H l = some (.lst xs) ∧ DpAll K H xs ps ∧ Rows ps
theorem PL.new {K : PySem.W.Frag} {H : Hp} {l : Addr} (h : H l = some (.lst [])) : PL K H l [] := ⟨[], h, .nil, rows_nil⟩
theorem PL.ts {K : PySem.W.Frag} {H H' : Hp} {l : Addr} {ps : List PyData} (h : PL K H l ps) (e : TS H H') (k : ∀ xs, H l = some (.lst xs) → H' l = some (.lst xs)) : PL K H' l ps := by
  obtain ⟨xs, h, d, o⟩ := h
  exact ⟨xs, k _ h, dpAll_ts e _ _ (rows_all o).1 d, o⟩
theorem PL.same {K : PySem.W.Frag} {H H' : Hp} {l : Addr} {ps : List PyData} (h : PL K H l ps) (e : Same H H') : PL K H' l ps := h.ts (TS.of e) fun _ => e _ _
theorem PL.but {K : PySem.W.Frag} {H H' : Hp} {l m : Addr} {ps qs : List PyData} (h : PL K H l ps) (g : PL K H m qs) (n : l ≠ m) (e : But m H H') : PL K H' l ps := by
  obtain ⟨_, g, _⟩ := g
  exact h.ts (TS.butL e g) fun _ q => e _ _ n q
theorem PL.tsB {K : PySem.W.Frag} {H H' : Hp} {l : Addr} {ps : List PyData} (h : PL K H l ps) (e : But l H H') : TS H H' := by
  obtain ⟨_, h, _⟩ := h
  exact TS.butL e h
/-- one row more -/
theorem PL.snoc {K : PySem.W.Frag} {H H' : Hp} {l : Addr} {ps : List PyData} {d : PyData} {xs : List V} {v : V} (h : PL K H l ps) (hx : H l = some (.lst xs)) (e : But l H H') (f : H' l = some (.lst (xs ++ [v]))) (hv : Dp K H v d) (r : Row d) : PL K H' l (ps ++ [d]) ∧ TS H H' := by
  obtain ⟨ys, h, hd, ho⟩ := h
  cases Option.some.inj (h.symm.trans hx)
  have t : TS H H' := TS.butL e h
  exact ⟨⟨_, f, dpa_app (dpAll_ts t _ _ (rows_all ho).1 hd) (dpa_one (dp_ts t _ _ r.all.1 hv)), rows_snoc ho r⟩, t⟩
theorem PL.len {K : PySem.W.Frag} {H : Hp} {l : Addr} {ps : List PyData} {xs : List V} (h : PL K H l ps) (hx : H l = some (.lst xs)) : xs.length = ps.length := by
  obtain ⟨ys, h, hd, ho⟩ := h
  cases Option.some.inj (h.symm.trans hx)
  exact dpa_len hd
theorem Item.ts {K : PySem.W.Frag} {H H' : Hp} {d : PyData} {v : V} (i : Item d) (t : TS H H') (h : Dp K H v d) : Dp K H' v d := dp_ts t _ _ i.tup h
def spPart (K : PySem.W.Frag) (n : Nat) : Sp := fun vs H Q _ => ∃ (v : V) (l : Addr) (e : Exp) (ps : List PyData), vs = [v, .ref l] ∧ Dp K H v e.d ∧ OkE n e ∧ PL K H l ps ∧ ps.length + e.cnt ≤ 1000 ∧
  ∀ r H', Dp K H' r (e.part ps).1 → PL K H' l (e.part ps).2 → But l H H' → Q r H'
theorem len_law_part {K : PySem.W.Frag} {n : Nat} {vs H Q E} (h : spPart K n vs H Q E) : vs.length = 2 := by obtain ⟨_, _, _, _, rfl, _⟩ := h; rfl
theorem no_law_part {K : PySem.W.Frag} {vs H Q E} (h : spPart K 0 vs H Q E) : False := by obtain ⟨_, _, _, _, _, _, h, _⟩ := h; exact okE_0 h
theorem exp_sel {K : PySem.W.Frag} {H : Hp} {v : V} {k s : Str} {n : Int} (h : Dp K H v (.tuple [.str s, selD k n])) : ∃ p u, v = .ref p ∧ SqT K H p [.str s, u] ∧ Dp K H u (selD k n) := by
  obtain ⟨p, xs, rfl, hs, ha⟩ := dp_tup h
  obtain ⟨x, r, rfl, hx, hr⟩ := dpa_cons ha
  obtain ⟨y, r, rfl, hy, hr⟩ := dpa_cons hr
  cases dpa_nil hr
  rw [dp_str hx] at hs
  exact ⟨p, y, rfl, hs, hy⟩
theorem exp_1 {K : PySem.W.Frag} {H : Hp} {v : V} {s : Str} {d : PyData} (h : Dp K H v (.tuple [.str s, d])) : ∃ p u, v = .ref p ∧ SqT K H p [.str s, u] ∧ Dp K H u d := by
  obtain ⟨p, xs, rfl, hs, ha⟩ := dp_tup h
  obtain ⟨x, r, rfl, hx, hr⟩ := dpa_cons ha
  obtain ⟨y, r, rfl, hy, hr⟩ := dpa_cons hr
  cases dpa_nil hr
  rw [dp_str hx] at hs
  exact ⟨p, y, rfl, hs, hy⟩
theorem exp_2 {K : PySem.W.Frag} {H : Hp} {v : V} {s : Str} {d e : PyData} (h : Dp K H v (.tuple [.str s, d, e])) : ∃ p u w, v = .ref p ∧ SqT K H p [.str s, u, w] ∧ Dp K H u d ∧ Dp K H w e := by
  obtain ⟨p, xs, rfl, hs, ha⟩ := dp_tup h
  obtain ⟨x, r, rfl, hx, hr⟩ := dpa_cons ha
  obtain ⟨y, r, rfl, hy, hr⟩ := dpa_cons hr
  obtain ⟨z, r, rfl, hz, hr⟩ := dpa_cons hr
  cases dpa_nil hr
  rw [dp_str hx] at hs
  exact ⟨p, y, z, rfl, hs, hy, hz⟩
theorem Exp.cases {n : Nat} {e : Exp} (h : OkE (n + 1) e) : (∃ j, e = .num j) ∨ (∃ j, e = .fld j) ∨ (∃ k j, e = .plc k j ∧ SelS k) ∨ (∃ k j, e = .mrk k j ∧ SelS k) ∨
    ∃ (o : Str) (es : List Exp), PyData.strOk o = true ∧ (o ≠ "number" ∧ o ≠ "field" ∧ o ≠ "place" ∧ o ≠ "mark") ∧ es.length ≤ 2 ∧ 1 ≤ es.length ∧ (∀ x ∈ es, OkE n x) ∧ e.d = .tuple (.str o :: es.map Exp.d) ∧
      (∀ ps, e.part ps = (.int (J.parts es ps).2.length, (J.parts es ps).2 ++ [.tuple (.str o :: (J.parts es ps).1)])) ∧ e.cnt = cnts es + 1 := by
  cases e with
  | num j => exact .inl ⟨j, rfl⟩
  | fld j => exact .inr (.inl ⟨j, rfl⟩)
  | plc k j => exact .inr (.inr (.inl ⟨k, j, rfl, h.2⟩))
  | mrk k j => exact .inr (.inr (.inr (.inl ⟨k, j, rfl, h.2⟩)))
  | cell a =>
    refine .inr (.inr (.inr (.inr ⟨"cell", [a], by decide +kernel, by decide +kernel, by simp, by simp, fun x hx => ?_, rfl, fun ps => rfl, by simp [Exp.cnt, cnts]⟩)))
    rw [List.mem_singleton.mp hx]
    exact okE_cell h
  | two o a b =>
    obtain ⟨oo, oa, ob⟩ := okE_two h
    obtain ⟨n1, n2, n3, n4, _⟩ := oo.ne
    refine .inr (.inr (.inr (.inr ⟨o, [a, b], oo.ok, ⟨n1, n2, n3, n4⟩, Nat.le_refl _, by simp, fun x hx => ?_, rfl, fun ps => rfl, by simp [Exp.cnt, cnts]⟩)))
    simp only [List.mem_cons, List.mem_nil_iff, or_false] at hx
    rcases hx with rfl | rfl
    · exact oa
    · exact ob
theorem exp_n {K : PySem.W.Frag} {H : Hp} {v : V} {s : Str} {ds : List PyData} (h : Dp K H v (.tuple (.str s :: ds))) : ∃ p us, v = .ref p ∧ SqT K H p (.str s :: us) ∧ DpAll K H us ds := by
  obtain ⟨p, xs, rfl, hs, ha⟩ := dp_tup h
  obtain ⟨x, r, rfl, hx, hr⟩ := dpa_cons ha
  rw [dp_str hx] at hs
  exact ⟨p, r, rfl, hs, hr⟩
theorem exps_tup : ∀ es : List Exp, tupAll (es.map Exp.d) = true
  | [] => rfl
  | e :: es => by rw [List.map_cons, tupAll, e.tup, exps_tup es]; rfl
theorem row_1 {s : Str} {d : PyData} (h : PyData.strOk s = true) (i : Item d) : Row (.tuple [.str s, d]) := ⟨_, rfl, fun x hx => by
  simp only [List.mem_cons, List.mem_nil_iff, or_false] at hx
  rcases hx with rfl | rfl
  · exact .str h
  · exact i⟩
theorem row_2 {s : Str} {d e : PyData} (h : PyData.strOk s = true) (i : Item d) (j : Item e) : Row (.tuple [.str s, d, e]) := ⟨_, rfl, fun x hx => by
  simp only [List.mem_cons, List.mem_nil_iff, or_false] at hx
  rcases hx with rfl | rfl | rfl
  · exact .str h
  · exact i
  · exact j⟩
theorem len_sub {xs : List V} {ps : List PyData} {v : V} (h : xs.length = ps.length) : ((((xs ++ [v]).length : Nat) : Int) - 1) = (ps.length : Int) := by
  rw [List.length_append, h, List.length_singleton]
  omega
section
variable {P : Program} {w : World} {K : PySem.W.Frag} {mg : Str → Option Value}
theorem ok_law_part [c : Facts K mg] : ∀ n : Nat, Fn P w K mg "_law_part" (n + 1) ["e", "parts"] ((spPart K n))
  | 0 => by
    obtain ⟨fd, F⟩ := c.d_law_part
    exact Fn.mk' (k := 0) F c.g_law_part sc_law_part (fun vs H Q E h => (no_law_part h).elim) (fun _ _ _ _ _ _ us hl => match us, hl with | [_, _], _ => rfl) (fun base cdv A outer s H vs Q E hr h => (no_law_part h).elim)
  | n + 1 => by
    have G__law_part := ok_law_part n
    obtain ⟨fd, F⟩ := c.d_law_part
    refine Fn.mk' F c.g_law_part sc_law_part (k := n + 1) (fun vs H Q E h => ?_) (fun _ _ _ _ _ _ us hl => match us, hl with | [_, _], _ => rfl) (fun base cdv A outer s H vs Q E hr h => ?_)
    · exact len_law_part h
    · have nd := sc_law_part.nd
      have hu := hu_of hr
      have hr__law_part : Room (n + 1) _ := hr.mono (by omega)
      refine ⟨_, (pss_cons (ps_if (PW.pt (pw_or (pt_cmpR (op_eqA (K := K) rfl hr.units) (pe_ix (ix_any (K := K) rfl) (pv 0) pe_int (fun _ _ => rfl)) pe_str (nomark _)) (pw_or1 (pt_cmpR (op_eqA (K := K) rfl hr.units) (pe_ix (ix_any (K := K) rfl) (pv 0) pe_int (fun _ _ => rfl)) pe_str (nomark _))))) (pss_one (ps_ret (pv 0))) pss_nil)
      (pss_cons (ps_if (PW.pt (pw_or (pt_cmpR (op_eqA (K := K) rfl hr.units) (pe_ix (ix_any (K := K) rfl) (pv 0) pe_int (fun _ _ => rfl)) pe_str (nomark _)) (pw_or1 (pt_cmpR (op_eqA (K := K) rfl hr.units) (pe_ix (ix_any (K := K) rfl) (pv 0) pe_int (fun _ _ => rfl)) pe_str (nomark _))))) (pss_one (ps_expr (pe_bm PySem.F.plainAttrs_list PySem.F.slot_list_append PySem.F.type_list_append mt_append (pv 1) (pa_cons (pe_tup (pa_cons (pe_ix (ix_any (K := K) rfl) (pe_lst (pa_cons pe_str (pa_cons pe_str pa_nil))) (pe_callTy call_int1A (by rfl) c.f_int boot_int (pa_cons (pe_cmpR (op_eqA (K := K) rfl hr.units) (pe_ix (ix_any (K := K) rfl) (pv 0) pe_int (fun _ _ => rfl)) pe_str (nomark _)) pa_nil)) (fun _ _ => rfl)) (pa_cons (pe_ix (ix_any (K := K) rfl) (pv 0) pe_int (fun _ _ => rfl)) pa_nil))) pa_nil)))) (pss_one (ps_if (pt_cmpR (op_eqA (K := K) rfl hr.units) (pe_ix (ix_any (K := K) rfl) (pv 0) pe_int (fun _ _ => rfl)) pe_str (nomark _)) (pss_cons (ps_set (i := 2) nd rfl (Or.inl rfl) (pe_fn G__law_part hr__law_part (by rfl) (pa_cons (pe_ix (ix_any (K := K) rfl) (pv 0) pe_int (fun _ _ => rfl)) (pa_cons (pv 1) pa_nil))))
      (pss_one (ps_expr (pe_bm PySem.F.plainAttrs_list PySem.F.slot_list_append PySem.F.type_list_append mt_append (pv 1) (pa_cons (pe_tup (pa_cons pe_str (pa_cons (pv 2) pa_nil))) pa_nil))))) (pss_cons (ps_set (i := 3) nd rfl (Or.inl rfl) (pe_fn G__law_part hr__law_part (by rfl) (pa_cons (pe_ix (ix_any (K := K) rfl) (pv 0) pe_int (fun _ _ => rfl)) (pa_cons (pv 1) pa_nil))))
      (pss_cons (ps_set (i := 4) nd rfl (Or.inl rfl) (pe_fn G__law_part hr__law_part (by rfl) (pa_cons (pe_ix (ix_any (K := K) rfl) (pv 0) pe_int (fun _ _ => rfl)) (pa_cons (pv 1) pa_nil))))
      (pss_one (ps_expr (pe_bm PySem.F.plainAttrs_list PySem.F.slot_list_append PySem.F.type_list_append mt_append (pv 1) (pa_cons (pe_tup (pa_cons (pe_ix (ix_any (K := K) rfl) (pv 0) pe_int (fun _ _ => rfl)) (pa_cons (pv 3) (pa_cons (pv 4) pa_nil)))) pa_nil)))))))))
      (pss_one (ps_ret (pe_op op_sub (pe_callB (call_lenA (K := K) rfl) (by rfl) c.f_len boot_len (pa_cons (pv 1) pa_nil)) pe_int))))), ?_⟩
      try dsimp only [cxOf, Cx.nox, Cx.wish]
      obtain ⟨v, l, e, ps, rfl, hv, oe, hP, hz, q⟩ := h
      cases e with
      | num j =>
        obtain ⟨p, u, rfl, hp, hu'⟩ := exp_1 hv
        repeat walk_at "wf"
        exact q _ H hv hP (But.refl _ _)
      | fld j =>
        obtain ⟨p, u, rfl, hp, hu'⟩ := exp_1 hv
        repeat walk_at "wf"
        exact q _ H hv hP (But.refl _ _)
      | plc k j =>
        obtain ⟨p, u, rfl, hp, hu'⟩ := exp_1 hv
        obtain ⟨xs, hx, _⟩ := id hP
        have hxl : xs.length ≤ 1000 := by rw [hP.len hx]; omega
        repeat walk_at "wf"
        refine w_new fun p1 H1 n1 s1 f1 => ?_
        repeat walk_at "w"
        refine w_new fun p2 H2 n2 s2 f2 => ?_
        repeat walk_at "w"
        refine w_chg fun H3 e3 f3 => ?_
        repeat walk_at "w"
        have s12 : Same H H2 := s1.trans s2
        have z := PL.snoc (hP.same s12) (s12 _ _ hx) e3 f3 (.tup (SqT.of f2) (.cons (.str _) (.cons (dp_ts (TS.of s12) _ _ (tupD_sel _ _) hu') .nil))) (row_sel (by decide +kernel) oe.2)
        rw [len_sub (hP.len hx)]
        exact q _ H3 (.int _) z.1 (by walk_at "bu")
      | mrk k j =>
        obtain ⟨p, u, rfl, hp, hu'⟩ := exp_1 hv
        obtain ⟨xs, hx, _⟩ := id hP
        have hxl : xs.length ≤ 1000 := by rw [hP.len hx]; omega
        repeat walk_at "wf"
        refine w_new fun p1 H1 n1 s1 f1 => ?_
        repeat walk_at "w"
        refine w_new fun p2 H2 n2 s2 f2 => ?_
        repeat walk_at "w"
        refine w_chg fun H3 e3 f3 => ?_
        repeat walk_at "w"
        have s12 : Same H H2 := s1.trans s2
        have z := PL.snoc (hP.same s12) (s12 _ _ hx) e3 f3 (.tup (SqT.of f2) (.cons (.str _) (.cons (dp_ts (TS.of s12) _ _ (tupD_sel _ _) hu') .nil))) (row_sel (by decide +kernel) oe.2)
        rw [len_sub (hP.len hx)]
        exact q _ H3 (.int _) z.1 (by walk_at "bu")
      | cell a =>
        obtain ⟨p, u, rfl, hp, hu'⟩ := exp_1 hv
        rw [Exp.cnt] at hz
        repeat walk_at "wf"
        refine ⟨u, l, a, ps, rfl, hu', okE_cell oe, hP, by omega, fun r H1 hr1 hP1 e1 => ?_⟩
        obtain ⟨xs, hx, _⟩ := id hP1
        have hxl : xs.length ≤ 1000 := by rw [hP1.len hx, a.part_len]; omega
        have i1 := (a.part_ok oe.2 hP.choose_spec.2.2).1
        repeat walk_at "w"
        refine w_new fun p2 H2 n2 s2 f2 => ?_
        repeat walk_at "w"
        refine w_chg fun H3 e3 f3 => ?_
        repeat walk_at "w"
        have z := PL.snoc (hP1.same s2) (s2 _ _ hx) e3 f3 (.tup (SqT.of f2) (.cons (.str _) (.cons (i1.ts (TS.of s2) hr1) .nil))) (row_1 (by decide +kernel) i1)
        rw [len_sub (hP1.len hx)]
        exact q _ H3 (.int _) z.1 (by walk_at "bu")
      | two o a b =>
        obtain ⟨p, u, u2, rfl, hp, hu', hu2⟩ := exp_2 hv
        obtain ⟨oo, oa, ob⟩ := okE_two oe
        obtain ⟨n1, n2, n3, n4, n5⟩ := oo.ne
        rw [Exp.cnt] at hz
        repeat walk_at "wf"
        refine ⟨u, l, a, ps, rfl, hu', oa, hP, by omega, fun r H1 hr1 hP1 e1 => ?_⟩
        have hp1 : SqT K H1 p _ := (hP.tsB e1).sqT hp
        have i1 := (a.part_ok oa.2 hP.choose_spec.2.2)
        repeat walk_at "w"
        refine ⟨u2, l, b, _, rfl, dp_ts (hP.tsB e1) _ _ b.tup hu2, ob, hP1, by rw [a.part_len]; omega, fun r2 H2 hr2 hP2 e2 => ?_⟩
        have hp2 : SqT K H2 p _ := (hP1.tsB e2).sqT hp1
        have i2 := (b.part_ok ob.2 i1.2)
        obtain ⟨xs, hx, _⟩ := id hP2
        have hxl : xs.length ≤ 1000 := by rw [hP2.len hx, b.part_len, a.part_len]; omega
        repeat walk_at "w"
        refine w_new fun p3 H3 n3 s3 f3 => ?_
        repeat walk_at "w"
        refine w_chg fun H4 e4 f4 => ?_
        repeat walk_at "w"
        have z := PL.snoc (hP2.same s3) (s3 _ _ hx) e4 f4 (.tup (SqT.of f3) (.cons (.str _) (.cons (i1.1.ts ((hP1.tsB e2).trans (TS.of s3)) hr1) (.cons (i2.1.ts (TS.of s3) hr2) .nil)))) (row_2 oo.ok i1.1 i2.1)
        rw [len_sub (hP2.len hx)]
        exact q _ H4 (.int _) z.1 (by walk_at "bu")
end

end J
namespace J
open PySem PySem.Spec PyProof.Rows L2
local macro_rules | `(tactic| walk_at "cls") => `(tactic| first
  | with_reducible exact Facts.cl_Parts)
local macro_rules | `(tactic| walk_at "na") => `(tactic| first
  | with_reducible exact Facts.na_Parts_rows)
local macro_rules | `(tactic| walk_at "ty") => `(tactic| first
  | with_reducible exact ty_int
  | with_reducible exact ty_bl
  | with_reducible exact ty_str
  | with_reducible exact ty_non
  | ((with_reducible refine' ty_lst ?vv); (case vv => walk_at "tr"))
  | ((with_reducible refine' ty_sqT ?vv); (case vv => walk_at "tr"))
  | ((with_reducible refine' ty_dic ?vv); (case vv => walk_at "tr")))
local macro_rules | `(tactic| walk_at "ix") => `(tactic| first | exact at0 | exact at1 | exact at2 | assumption)
local macro_rules | `(tactic| walk_at "size") => `(tactic| first
  | assumption
  | (show _ < sizeLine; rw [sizeLine_eq]; (try simp only [List.length_cons, List.length_nil, List.length_append, List.length_map]); omega)
  | (show _ ≤ sizeLine; rw [sizeLine_eq]; (try simp only [List.length_cons, List.length_nil, List.length_append, List.length_map]); omega))
local macro_rules | `(tactic| walk_at "side") => `(tactic| first
  | assumption
  | ((with_reducible refine cdw ?_ ?_) <;> omega)
  | omega
  | (exact ⟨by omega, by omega⟩)
  | (exact Or.inl ⟨by omega, by omega⟩)
  | (exact Or.inr ⟨by omega, by omega⟩)
  | decide
  | (simp only [List.length_cons, List.length_nil, List.length_append, List.length_map]; omega)
  | (show _ ≤ _; decide))
local macro_rules | `(tactic| walk_at "as") => `(tactic| with_reducible assumption)
local macro_rules | `(tactic| walk_at "tr") => `(tactic| first
  | with_reducible assumption
  | with_reducible exact upd_same
  | ((with_reducible refine' SqL.of ?hh); (case hh => walk_at "as"))
  | ((with_reducible refine' SqT.of ?hh); (case hh => walk_at "as"))
  | ((with_reducible refine' Same.stm ?ee ?gg); (case ee => walk_at "as"); (case gg => walk_at "tr"))
  | ((with_reducible refine' Same.sqT ?ee ?gg); (case ee => walk_at "as"); (case gg => walk_at "tr"))
  | ((with_reducible refine' Same.sqL ?ee ?gg); (case ee => walk_at "as"); (case gg => walk_at "tr"))
  | ((with_reducible refine' Same.at ?ee ?gg); (case ee => walk_at "as"); (case gg => walk_at "tr"))
  | ((with_reducible refine' But.stm ?ee ?ff ?gg); (case ee => walk_at "as"); (case ff => walk_at "ne"); (case gg => walk_at "tr"))
  | ((with_reducible refine' But.tup ?ee ?ff ?gg); (case ee => walk_at "as"); (case ff => walk_at "tr1"); (case gg => walk_at "tr"))
  | ((with_reducible refine' But.sqT ?ee ?ff ?gg); (case ee => walk_at "as"); (case ff => walk_at "tr1"); (case gg => walk_at "tr"))
  | ((with_reducible refine' But.tupL ?ee ?ff ?gg); (case ee => walk_at "as"); (case ff => walk_at "tr1"); (case gg => walk_at "tr"))
  | ((with_reducible refine' But.sqTL ?ee ?ff ?gg); (case ee => walk_at "as"); (case ff => walk_at "tr1"); (case gg => walk_at "tr"))
  | ((with_reducible refine' But.sqL ?ee ?ff ?gg); (case ee => walk_at "as"); (case ff => walk_at "ne"); (case gg => walk_at "tr"))
  | ((with_reducible refine' But.at ?ee ?ff ?gg); (case ee => walk_at "as"); (case ff => walk_at "ne"); (case gg => walk_at "tr")))
local macro_rules | `(tactic| walk_at "ts") => `(tactic| first
  | with_reducible assumption
  | with_reducible exact TS.refl _
  | ((with_reducible refine' TS.trans ?gg (TS.of ?ee)); (case ee => walk_at "as"); (case gg => walk_at "ts"))
  | ((with_reducible refine' TS.trans ?gg (TS.butS ?ee ?ff)); (case ee => walk_at "as"); (case ff => walk_at "tr1"); (case gg => walk_at "ts"))
  | ((with_reducible refine' TS.trans ?gg (TS.butL ?ee ?ff)); (case ee => walk_at "as"); (case ff => walk_at "tr1"); (case gg => walk_at "ts"))
  | ((with_reducible refine' TS.trans ?gg (TS.butI ?ee ?ff)); (case ee => walk_at "as"); (case ff => walk_at "tr1"); (case gg => walk_at "ts")))
local macro_rules | `(tactic| walk_at "sm") => `(tactic| first
  | with_reducible assumption
  | with_reducible exact Same.refl _
  | ((with_reducible refine' Same.trans ?gg ?ee); (case ee => walk_at "as"); (case gg => walk_at "sm"))
  | ((with_reducible refine' But.new ?gg ?nn ?ee); (case ee => walk_at "as"); (case nn => walk_at "fr"); (case gg => walk_at "sm")))
local macro_rules | `(tactic| walk_at "fr") => `(tactic| first
  | with_reducible assumption
  | ((with_reducible refine' Same.back ?ee ?nn); (case nn => walk_at "as"); (case ee => walk_at "sm"))
  | ((with_reducible refine' But.back ?ee ?ff ?nn); (case nn => walk_at "as"); (case ff => walk_at "ne0"); (case ee => walk_at "bu")))
local macro_rules | `(tactic| walk_at "bu") => `(tactic| first
  | with_reducible assumption
  | with_reducible exact But.refl _ _
  | ((with_reducible refine' But.trans ?gg ?ee); (case ee => walk_at "as"); (case gg => walk_at "bu"))
  | ((with_reducible refine' But.trans ?gg (But.of ?ee)); (case ee => walk_at "as"); (case gg => walk_at "bu"))
  | ((with_reducible refine' But.new2 ?gg ?nn ?ee); (case ee => walk_at "as"); (case nn => walk_at "frB"); (case gg => walk_at "bu")))
local macro_rules | `(tactic| walk_at "frB") => `(tactic| first
  | with_reducible assumption
  | ((with_reducible refine' Same.back ?ee ?nn); (case nn => walk_at "as"); (case ee => walk_at "sm"))
  | ((with_reducible refine' But.back' ?ee ?ff ?nn); (case nn => walk_at "as"); (case ee => walk_at "bu"); (case ff => walk_at "tr1")))
local macro_rules | `(tactic| walk_at "tr1") => `(tactic| first
  | with_reducible assumption
  | ((with_reducible refine' Same.stm ?ee ?gg); (case ee => walk_at "as"); (case gg => walk_at "tr1"))
  | ((with_reducible refine' Same.at ?ee ?gg); (case ee => walk_at "as"); (case gg => walk_at "tr1"))
  | ((with_reducible refine' But.at ?ee ?ff ?gg); (case ee => walk_at "as"); (case ff => walk_at "ne0"); (case gg => walk_at "tr1"))
  | ((with_reducible refine' But.stm ?ee ?ff ?gg); (case ee => walk_at "as"); (case ff => walk_at "ne0"); (case gg => walk_at "tr1")))
local macro_rules | `(tactic| walk_at "ne0") => `(tactic| first
  | with_reducible assumption
  | (with_reducible apply Ne.symm; with_reducible assumption))
local macro_rules | `(tactic| walk_at "ne") => `(tactic| first
  | with_reducible assumption
  | (with_reducible apply Ne.symm; with_reducible assumption)
  | ((with_reducible refine' stm_ne ?hh ?nn); (case nn => walk_at "as"); (case hh => walk_at "tr1"))
  | ((with_reducible refine' ne_of_none ?hh ?nn); (case nn => walk_at "as"); (case hh => walk_at "tr1"))
  | ((with_reducible apply Ne.symm); (with_reducible refine' ne_of_none ?hh ?nn); (case nn => walk_at "as"); (case hh => walk_at "tr1")))
local macro_rules | `(tactic| walk_at "v") => `(tactic| first
  | with_reducible refine w_seq ?_
  | ((with_reducible refine' w_var ?vv ?_); (case vv => exact rfl))
  | with_reducible refine w_c ?_
  | with_reducible refine w_op ?_
  | with_reducible refine w_asg ?_
  | with_reducible refine w_gName ?_
  | with_reducible refine w_ret ?_
  | with_reducible refine w_ifS ?_
  | with_reducible refine w_drop ?_
  | with_reducible refine w_next ?_
  | with_reducible refine w_cons ?_
  | with_reducible refine w_nil ?_
  | with_reducible refine w_call ?_
  | with_reducible refine w_cb ?_
  | with_reducible refine w_rI0 ?_
  | with_reducible refine w_addI ?_
  | with_reducible refine w_eqI ?_
  | with_reducible refine w_neI ?_
  | with_reducible refine w_eqS ?_
  | with_reducible refine w_neS ?_
  | with_reducible refine w_eqB ?_
  | with_reducible refine w_neB ?_
  | with_reducible refine w_chain ?_
  | with_reducible refine w_test ?_
  | with_reducible refine w_tB ?_
  | with_reducible refine w_bl ?_
  | ((with_reducible refine' w_mulI ?vv ?_); (case vv => walk_at "side"))
  | ((with_reducible refine' w_rI ?vv ?_); (case vv => walk_at "side"))
  | with_reducible refine w_int1 ?_
  | with_reducible refine w_int1b ?_
  | with_reducible refine w_tup ?_
  | with_reducible refine w_lst ?_
  | with_reducible refine w_un ?_
  | with_reducible refine w_rU ?_
  | with_reducible refine w_not ?_
  | with_reducible refine w_notV ?_
  | with_reducible refine w_ifE ?_
  | with_reducible refine w_nT ?_
  | with_reducible refine w_nF ?_
  | with_reducible refine iteT ?_
  | with_reducible refine iteF ?_
  | ((with_reducible refine' w_ixT ?vv ?ww ?_); (case vv => walk_at "tr"); (case ww => walk_at "ix"))
  | ((with_reducible refine' w_ixL ?vv ?ww ?_); (case vv => walk_at "tr"); (case ww => walk_at "ix"))
  | with_reducible refine w_gSub ?_
  | ((with_reducible refine' w_setL ?vv ?ww ?_); (case vv => walk_at "tr"); (case ww => first | rfl | decide | assumption))
  | ((with_reducible refine' w_lenL ?vv ?_); (case vv => walk_at "tr"))
  | ((with_reducible refine' w_lenT ?vv ?_); (case vv => walk_at "tr"))
  | with_reducible refine w_max2 ?_
  | with_reducible refine w_min2 ?_
  | with_reducible refine w_bm ?_
  | with_reducible refine w_bm0 ?_
  | ((with_reducible refine' w_tyL ?vv ?_); (case vv => walk_at "tr"))
  | ((with_reducible refine' w_append ?vv ?ww ?_); (case vv => walk_at "tr"); (case ww => walk_at "size"))
  | ((with_reducible refine' w_size ?vv ?_); (case vv => walk_at "size"))
  | with_reducible refine w_forL ?_
  | with_reducible refine w_forT ?_
  | with_reducible refine w_forR1 ?_
  | with_reducible refine w_forR2 ?_
  | with_reducible refine w_lcL ?_
  | with_reducible refine w_lcT ?_
  | with_reducible refine w_lcR1 ?_
  | with_reducible refine w_yes ?_
  | with_reducible refine w_sl ?_
  | with_reducible refine w_noPart ?_
  | with_reducible refine w_part ?_
  | with_reducible refine w_int ?_
  | ((with_reducible refine' w_slL ?vv ?_); (case vv => walk_at "tr"))
  | ((with_reducible refine' w_seqL ?vv ?ww ?_); (case vv => walk_at "tr"); (case ww => rfl))
  | ((with_reducible refine' w_seqT ?vv ?ww ?_); (case vv => walk_at "tr"); (case ww => rfl))
  | with_reducible refine w_gNil ?_
  | with_reducible refine w_gCons ?_
  | with_reducible refine w_forZ ?_
  | with_reducible refine w_forE ?_
  | with_reducible refine w_forV ?_
  | with_reducible refine w_lcZ ?_
  | with_reducible refine w_lcE ?_
  | ((with_reducible refine' w_isi (b := true) ?vv ?ww ?_); (case vv => walk_at "ty"); (case ww => decide +kernel))
  | ((with_reducible refine' w_isi (b := false) ?vv ?ww ?_); (case vv => walk_at "ty"); (case ww => decide +kernel))
  | with_reducible refine w_revL ?_
  | with_reducible refine w_pairN ?_
  | with_reducible refine w_pairC ?_
  | with_reducible refine w_dget ?_
  | with_reducible refine w_met ?_
  | ((with_reducible refine' w_metAt ?vv ?ww ?_); (case vv => walk_at "tr"); (case ww => rfl))
  | with_reducible refine w_mkI ?_
  | with_reducible refine w_fld ?_
  | ((with_reducible refine' w_fldAt ?vv ?cc ?nn ?ww ?_); (case vv => walk_at "tr"); (case cc => walk_at "cls"); (case nn => walk_at "na"); (case ww => rfl))
  | with_reducible refine w_sfld ?_
  | ((with_reducible refine' w_sfldAt ?vv ?cc ?nn ?ll ?ee ?_); (case vv => walk_at "tr"); (case cc => walk_at "cls"); (case nn => walk_at "na"); (case ll => simp); (case ee => rfl))
  | ((with_reducible refine' w_tupL ?vv ?_); (case vv => walk_at "tr"))
  | ((with_reducible refine' w_tupT ?vv ?_); (case vv => walk_at "tr"))
  | ((with_reducible refine' w_listL ?vv ?_); (case vv => walk_at "tr"))
  | ((with_reducible refine' w_listT ?vv ?_); (case vv => walk_at "tr"))
  | with_reducible refine w_tyS ?_
  | with_reducible refine w_retN ?_
  | with_reducible refine w_break ?_
  | with_reducible refine w_cont ?_)
local macro_rules | `(tactic| walk_at "w") => `(tactic| first
  | walk_at "v"
  | with_reducible refine w_or ?_
  | with_reducible refine w_and ?_
  | with_reducible refine w_andV ?_
  | with_reducible refine w_orV ?_)
local macro_rules | `(tactic| walk_at "wd") => `(tactic| first
  | walk_at "w"
  | ((with_reducible refine' w_decT ?vv ?_); (case vv => decide +kernel))
  | ((with_reducible refine' w_decF ?vv ?_); (case vv => decide +kernel)))
local macro_rules | `(tactic| walk_at "tz") => `(tactic| (intro S z; (repeat walk_at "w"); exact z))
local macro_rules | `(tactic| walk_at "wf") => `(tactic| first
  | walk_at "wd"
  | ((with_reducible refine' w_decF ?vv ?_); (case vv => with_reducible assumption)))
/-! ### the program's parts and roots -/
def spInit (C : Addr) : Sp := fun vs H Q _ => ∃ (p dx : Addr), vs = [.ref p] ∧ H p = some (.ins C dx []) ∧ ∀ l H', H' p = some (.ins C dx [("rows", .ref l)]) → H' l = some (.lst []) → H l = none → But p H H' → Q .non H'
theorem len_Partsu_initu {C : Addr} {vs H Q E} (h : spInit C vs H Q E) : vs.length = 1 := by obtain ⟨_, _, rfl, _⟩ := h; rfl
def spPartIn (K : PySem.W.Frag) (C : Addr) (n : Nat) : Sp := fun vs H Q _ => ∃ (v : V) (p dx l : Addr) (e : Exp) (ps : List PyData), vs = [.ref p, v] ∧ H p = some (.ins C dx [("rows", .ref l)]) ∧ Dp K H v e.d ∧ OkE n e ∧ PL K H l ps ∧ ps.length + e.cnt ≤ 1000 ∧
  ∀ r H', Dp K H' r (e.part ps).1 → PL K H' l (e.part ps).2 → But l H H' → Q r H'
theorem len_Parts_part_in {K : PySem.W.Frag} {C : Addr} {n : Nat} {vs H Q E} (h : spPartIn K C n vs H Q E) : vs.length = 2 := by obtain ⟨_, _, _, _, _, _, rfl, _⟩ := h; rfl
theorem no_Parts_part_in {K : PySem.W.Frag} {C : Addr} {vs H Q E} (h : spPartIn K C 0 vs H Q E) : False := by obtain ⟨_, _, _, _, _, _, _, _, _, h, _⟩ := h; exact okE_0 h
section
variable {P : Program} {w : World} {K : PySem.W.Frag} {mg : Str → Option Value}
theorem ok_Partsu_initu [c : Facts K mg] {f : Addr} {fd : FuncData} (F : FunD K "__init__" "Parts.__init__" (defArgs s_Partsu_initu) (defBody s_Partsu_initu) (defScope s_Partsu_initu) [] [] f fd) : FnA P w K mg f 1 ["self"] ((spInit (He.ga K "Parts"))) := by
  refine FnA.mk' F sc_Partsu_initu (k := 0) (fun vs H Q E h => ?_) (fun _ _ _ _ _ _ us hl => match us, hl with | [_], _ => rfl) (fun base cdv A outer s H vs Q E hr h => ?_)
  · exact len_Partsu_initu h
  · have nd := sc_Partsu_initu.nd
    have hu := hu_of hr
    refine ⟨_, (pss_one (ps_fld (pv 0) (pe_lst pa_nil) rfl)), ?_⟩
    try dsimp only [cxOf, Cx.nox, Cx.wish]
    obtain ⟨p, dx, rfl, hp, q⟩ := h
    repeat walk_at "w"
    refine w_new fun l H1 n1 s1 f1 => ?_
    repeat walk_at "w"
    refine w_chg fun H2 e2 f2 => ?_
    exact q l H2 f2 (e2 _ _ (ne_of f1 (s1 _ _ hp) (by intro z; cases z)) f1) n1 (But.trans (But.of s1) e2)
theorem ok_Parts_part_in [c : Facts K mg] : ∀ n : Nat, FnA P w K mg (He.ma K (He.ga K "Parts") "part_in") (n + 1) ["self", "e"] ((spPartIn K (He.ga K "Parts") n))
  | 0 => by
    obtain ⟨fd, F⟩ := c.dm_Parts_part_in
    exact FnA.mk' (k := 0) F sc_Parts_part_in (fun vs H Q E h => (no_Parts_part_in h).elim) (fun _ _ _ _ _ _ us hl => match us, hl with | [_, _], _ => rfl) (fun base cdv A outer s H vs Q E hr h => (no_Parts_part_in h).elim)
  | n + 1 => by
    have GM_Parts_part_in := ok_Parts_part_in n
    obtain ⟨fd, F⟩ := c.dm_Parts_part_in
    refine FnA.mk' F sc_Parts_part_in (k := n + 1) (fun vs H Q E h => ?_) (fun _ _ _ _ _ _ us hl => match us, hl with | [_, _], _ => rfl) (fun base cdv A outer s H vs Q E hr h => ?_)
    · exact len_Parts_part_in h
    · have nd := sc_Parts_part_in.nd
      have hu := hu_of hr
      have hrM_Parts_part_in : Room (n + 1) _ := hr.mono (by omega)
      refine ⟨_, (pss_cons (ps_if (PW.pt (pw_or (pt_cmpR (op_eqA (K := K) rfl hr.units) (pe_ix (ix_any (K := K) rfl) (pv 1) pe_int (fun _ _ => rfl)) pe_str (nomark _)) (pw_or1 (pt_cmpR (op_eqA (K := K) rfl hr.units) (pe_ix (ix_any (K := K) rfl) (pv 1) pe_int (fun _ _ => rfl)) pe_str (nomark _))))) (pss_one (ps_ret (pv 1))) pss_nil)
      (pss_cons (ps_if (pt_cmpR (op_eqA (K := K) rfl hr.units) (pe_ix (ix_any (K := K) rfl) (pv 1) pe_int (fun _ _ => rfl)) pe_str (nomark _)) (pss_one (ps_expr (pe_bm PySem.F.plainAttrs_list PySem.F.slot_list_append PySem.F.type_list_append mt_append (pe_fldK (K := K) rfl (pv 0)) (pa_cons (pe_tup (pa_cons pe_str (pa_cons (pe_ix (ix_any (K := K) rfl) (pv 1) pe_int (fun _ _ => rfl)) pa_nil))) pa_nil)))) (pss_one (ps_if (pt_cmpR (op_eqA (K := K) rfl hr.units) (pe_ix (ix_any (K := K) rfl) (pv 1) pe_int (fun _ _ => rfl)) pe_str (nomark _)) (pss_one (ps_expr (pe_bm PySem.F.plainAttrs_list PySem.F.slot_list_append PySem.F.type_list_append mt_append (pe_fldK (K := K) rfl (pv 0)) (pa_cons (pe_tup (pa_cons pe_str (pa_cons (pe_ix (ix_any (K := K) rfl) (pv 1) pe_int (fun _ _ => rfl)) pa_nil))) pa_nil)))) (pss_cons (ps_setLc (i := 2) (own := [("one", 3)]) rfl nd rfl rfl (sw_true rfl rfl rfl (by decide +kernel)) (pi_tup (pe_slice (sl_any (K := K) rfl) (pv 1) (po_some pe_int) po_none)) (blkOk_by (N := N_Parts_part_in) (sc := defScope s_Parts_part_in) (by decide +kernel)) (fun _ _ _ _ _ => (pg_name (i := 3) nd rfl (Or.inl rfl))) (fun _ _ _ _ _ => pts_nil) (fun _ _ _ _ _ => (pe_met GM_Parts_part_in rfl c.cl_Parts c.me_Parts_part_in hrM_Parts_part_in (pv 0) (pa_cons (pv 3) pa_nil))))
      (pss_one (ps_expr (pe_bm PySem.F.plainAttrs_list PySem.F.slot_list_append PySem.F.type_list_append mt_append (pe_fldK (K := K) rfl (pv 0)) (pa_cons (pe_callTy (call_tupA (K := K) rfl) (by rfl) c.f_tuple boot_tuple (pa_cons (pe_op (op_addA (K := K) rfl) (pe_lst (pa_cons (pe_ix (ix_any (K := K) rfl) (pv 1) pe_int (fun _ _ => rfl)) pa_nil)) (pv 2)) pa_nil)) pa_nil))))))))
      (pss_one (ps_ret (pe_op op_sub (pe_callB (call_lenA (K := K) rfl) (by rfl) c.f_len boot_len (pa_cons (pe_fldK (K := K) rfl (pv 0)) pa_nil)) pe_int))))), ?_⟩
      try dsimp only [cxOf, Cx.nox, Cx.wish]
      obtain ⟨v, p, dx, l, e, ps, rfl, hp, hv, oe, hP, hz, q⟩ := h
      have npl : p ≠ l := ne_of hp hP.choose_spec.1 (by intro z; cases z)
      rcases Exp.cases oe with ⟨j, rfl⟩ | ⟨j, rfl⟩ | ⟨k, j, rfl, ks⟩ | ⟨k, j, rfl, ks⟩ | ⟨o, es, oo, ⟨o1, o2, o3, o4⟩, l2, l1, oes, ed, ep, ec⟩
      · obtain ⟨t, u, rfl, ht, hu'⟩ := exp_1 hv
        repeat walk_at "wf"
        exact q _ H hv hP (But.refl _ _)
      · obtain ⟨t, u, rfl, ht, hu'⟩ := exp_1 hv
        repeat walk_at "wf"
        exact q _ H hv hP (But.refl _ _)
      · obtain ⟨t, u, rfl, ht, hu'⟩ := exp_1 hv
        obtain ⟨xs, hx, _⟩ := id hP
        have hxl : xs.length ≤ 1000 := by rw [hP.len hx]; omega
        repeat walk_at "wf"
        refine w_new fun p1 H1 n1 s1 f1 => ?_
        repeat walk_at "w"
        refine w_chg fun H2 e2 f2 => ?_
        repeat walk_at "w"
        have z := PL.snoc (hP.same s1) (s1 _ _ hx) e2 f2 (.tup (SqT.of f1) (.cons (.str _) (.cons (dp_ts (TS.of s1) _ _ (tupD_sel _ _) hu') .nil))) (row_sel (by decide +kernel) oe.2)
        rw [len_sub (hP.len hx)]
        exact q _ H2 (.int _) z.1 (by walk_at "bu")
      · obtain ⟨t, u, rfl, ht, hu'⟩ := exp_1 hv
        obtain ⟨xs, hx, _⟩ := id hP
        have hxl : xs.length ≤ 1000 := by rw [hP.len hx]; omega
        repeat walk_at "wf"
        refine w_new fun p1 H1 n1 s1 f1 => ?_
        repeat walk_at "w"
        refine w_chg fun H2 e2 f2 => ?_
        repeat walk_at "w"
        have z := PL.snoc (hP.same s1) (s1 _ _ hx) e2 f2 (.tup (SqT.of f1) (.cons (.str _) (.cons (dp_ts (TS.of s1) _ _ (tupD_sel _ _) hu') .nil))) (row_sel (by decide +kernel) oe.2)
        rw [len_sub (hP.len hx)]
        exact q _ H2 (.int _) z.1 (by walk_at "bu")
      · rw [ed] at hv
        obtain ⟨t, us, rfl, ht, hus⟩ := exp_n hv
        have hul : us.length = es.length := by rw [dpa_len hus, List.length_map]
        repeat walk_at "wf"
        refine w_slT1 (σ := []) ht ?_
        refine w_new fun p1 H1 n1 s1 f1 => ?_
        have hus1 := dpAll_ts (TS.of s1) _ _ (exps_tup es) hus
        have hp1 := s1 _ _ hp
        have hP1 := hP.same s1
        have fold : ∀ i, i ≤ es.length → (J.parts (es.take i) ps).2.length ≤ ps.length + cnts es := fun i hi => by
          rw [parts_len]
          have : ∀ (es : List Exp) (i : Nat), cnts (es.take i) ≤ cnts es := by
            intro es
            induction es with
            | nil => intro i; rw [List.take_nil]; exact Nat.le_refl _
            | cons a es ih =>
              intro i
              cases i with
              | zero => exact Nat.zero_le _
              | succ i => rw [List.take_succ_cons, cnts, cnts]; have := ih i; omega
          have := this es i
          omega
        refine lc_T us (fun D i ys H' => But l H1 H' ∧ PL K H' l (J.parts (es.take i) ps).2 ∧ DpAll K H' ys (J.parts (es.take i) ps).1) (SqT.of f1) (fun D H' hD e f => ⟨But.of e, hP1.same e, .nil⟩)
          (fun D hD i ys H' hi hy hp => (hP1.tsB hp.1).sqT (SqT.of f1)) (fun D hD i x ys H' hi hl hy hp => ?_) (fun D hD ys H' hl hy hp => ?_)
        · obtain ⟨b1, hP', hys⟩ := hp
          have hi' : i < es.length := by have := (List.getElem?_eq_some_iff.mp hi).1; omega
          obtain ⟨a, ha⟩ : ∃ a, es[i]? = some a := ⟨_, List.getElem?_eq_getElem hi'⟩
          have hza : (J.parts (es.take i) ps).2.length + a.cnt ≤ 1000 := by
            have := fold (i + 1) hi'
            rw [take_snoc ha, parts_snoc] at this
            have e : (Exp.part a (J.parts (es.take i) ps).2).2.length ≤ ps.length + cnts es := this
            rw [a.part_len] at e
            omega
          have oa := oes a (List.mem_of_getElem? ha)
          have t1 : TS H1 H' := hP1.tsB b1
          have hx : Dp K H' x a.d := by
            obtain ⟨d, hd1, hd2⟩ := dpa_at' (dpAll_ts t1 _ _ (exps_tup es) hus1) hi
            rw [List.getElem?_map, ha] at hd1
            cases Option.some.inj hd1
            exact hd2
          have hpp : H' p = some (.ins (He.ga K "Parts") dx [("rows", .ref l)]) := b1 _ _ npl hp1
          have nDl : D ≠ l := fun z => by rw [z] at hD; obtain ⟨_, g, _⟩ := hP1; rw [hD] at g; cases g
          repeat walk_at "w"
          refine ⟨x, p, dx, l, a, _, rfl, hpp, hx, oa, hP', hza, fun r H2 hr hP2 e2 => ?_⟩
          have hy2 : H2 D = some (.lst ys) := e2 _ _ nDl hy
          refine lc_end hy2 hl (by rw [sizeLine_eq]; omega) fun H3 e3 f3 => ?_
          have t2 : TS H' H2 := hP'.tsB e2
          have t3 : TS H2 H3 := TS.butL e3 hy2
          have ip := a.part_ok oa.2 hP'.choose_spec.2.2
          have ii := parts_ok (es.take i) (ps := ps) (fun y hy => (oes y (List.mem_of_mem_take hy)).2) hP.choose_spec.2.2
          rw [take_snoc ha, parts_snoc]
          refine ⟨But.new2 (b1.trans e2) hD e3, hP2.ts t3 fun _ g => e3 _ _ nDl.symm g, ?_⟩
          exact dpa_app (dpAll_ts (t2.trans t3) _ _ (items_all ii.1).1 hys) (dpa_one (ip.1.ts t3 hr))
        · obtain ⟨b1, hP', hys⟩ := hp
          rw [hul, List.take_length] at hys hP'
          have t1 : TS H1 H' := hP1.tsB b1
          have hpp : H' p = some (.ins (He.ga K "Parts") dx [("rows", .ref l)]) := b1 _ _ npl hp1
          have ht' : SqT K H' t _ := t1.sqT ((TS.of s1).sqT ht)
          obtain ⟨xs, hx, _⟩ := id hP'
          have ii := parts_ok es (ps := ps) (fun y hy => (oes y hy).2) hP.choose_spec.2.2
          have hxl : xs.length ≤ 1000 := by rw [hP'.len hx]; have := fold es.length (Nat.le_refl _); rw [List.take_length] at this; omega
          repeat walk_at "w"
          refine w_new fun p2 H2 n2 s2 f2 => ?_
          repeat walk_at "w"
          refine w_addL f2 (s2 _ _ hy) (by rw [sizeLine_eq, List.length_singleton]; omega) ?_
          refine w_new fun p3 H3 n3 s3 f3 => ?_
          repeat walk_at "w"
          refine w_new fun p4 H4 n4 s4 f4 => ?_
          repeat walk_at "w"
          refine w_chg fun H5 e5 f5 => ?_
          repeat walk_at "w"
          have s24 : Same H' H4 := (s2.trans s3).trans s4
          have z := PL.snoc (hP'.same s24) (s24 _ _ hx) e5 f5 (.tup (SqT.of f4) (.cons (.str _) (dpAll_ts (TS.of s24) _ _ (items_all ii.1).1 hys))) ⟨_, rfl, fun x hx => by
            rcases List.mem_cons.mp hx with rfl | hx
            · exact .str oo
            · exact ii.1 x hx⟩
          rw [len_sub (hP'.len hx)]
          rw [ep] at q
          exact q _ H5 (.int _) z.1 (((But.of s1).trans b1).trans ((But.of s24).trans e5))
end

end J
namespace J
open PySem PySem.Spec PyProof.Rows L2
local macro_rules | `(tactic| walk_at "cls") => `(tactic| first
  | with_reducible exact Facts.cl_Parts)
local macro_rules | `(tactic| walk_at "na") => `(tactic| first
  | with_reducible exact Facts.na_Parts_rows)
local macro_rules | `(tactic| walk_at "ty") => `(tactic| first
  | with_reducible exact ty_int
  | with_reducible exact ty_bl
  | with_reducible exact ty_str
  | with_reducible exact ty_non
  | ((with_reducible refine' ty_lst ?vv); (case vv => walk_at "tr"))
  | ((with_reducible refine' ty_sqT ?vv); (case vv => walk_at "tr"))
  | ((with_reducible refine' ty_dic ?vv); (case vv => walk_at "tr")))
local macro_rules | `(tactic| walk_at "ix") => `(tactic| first | exact at0 | exact at1 | exact at2 | assumption)
local macro_rules | `(tactic| walk_at "size") => `(tactic| first
  | assumption
  | (show _ < sizeLine; rw [sizeLine_eq]; (try simp only [List.length_cons, List.length_nil, List.length_append, List.length_map]); omega)
  | (show _ ≤ sizeLine; rw [sizeLine_eq]; (try simp only [List.length_cons, List.length_nil, List.length_append, List.length_map]); omega))
local macro_rules | `(tactic| walk_at "side") => `(tactic| first
  | assumption
  | ((with_reducible refine cdw ?_ ?_) <;> omega)
  | omega
  | (exact ⟨by omega, by omega⟩)
  | (exact Or.inl ⟨by omega, by omega⟩)
  | (exact Or.inr ⟨by omega, by omega⟩)
  | decide
  | (simp only [List.length_cons, List.length_nil, List.length_append, List.length_map]; omega)
  | (show _ ≤ _; decide))
local macro_rules | `(tactic| walk_at "as") => `(tactic| with_reducible assumption)
local macro_rules | `(tactic| walk_at "tr") => `(tactic| first
  | with_reducible assumption
  | with_reducible exact upd_same
  | ((with_reducible refine' SqL.of ?hh); (case hh => walk_at "as"))
  | ((with_reducible refine' SqT.of ?hh); (case hh => walk_at "as"))
  | ((with_reducible refine' Same.stm ?ee ?gg); (case ee => walk_at "as"); (case gg => walk_at "tr"))
  | ((with_reducible refine' Same.sqT ?ee ?gg); (case ee => walk_at "as"); (case gg => walk_at "tr"))
  | ((with_reducible refine' Same.sqL ?ee ?gg); (case ee => walk_at "as"); (case gg => walk_at "tr"))
  | ((with_reducible refine' Same.at ?ee ?gg); (case ee => walk_at "as"); (case gg => walk_at "tr"))
  | ((with_reducible refine' But.stm ?ee ?ff ?gg); (case ee => walk_at "as"); (case ff => walk_at "ne"); (case gg => walk_at "tr"))
  | ((with_reducible refine' But.tup ?ee ?ff ?gg); (case ee => walk_at "as"); (case ff => walk_at "tr1"); (case gg => walk_at "tr"))
  | ((with_reducible refine' But.sqT ?ee ?ff ?gg); (case ee => walk_at "as"); (case ff => walk_at "tr1"); (case gg => walk_at "tr"))
  | ((with_reducible refine' But.tupL ?ee ?ff ?gg); (case ee => walk_at "as"); (case ff => walk_at "tr1"); (case gg => walk_at "tr"))
  | ((with_reducible refine' But.sqTL ?ee ?ff ?gg); (case ee => walk_at "as"); (case ff => walk_at "tr1"); (case gg => walk_at "tr"))
  | ((with_reducible refine' But.sqL ?ee ?ff ?gg); (case ee => walk_at "as"); (case ff => walk_at "ne"); (case gg => walk_at "tr"))
  | ((with_reducible refine' But.at ?ee ?ff ?gg); (case ee => walk_at "as"); (case ff => walk_at "ne"); (case gg => walk_at "tr")))
local macro_rules | `(tactic| walk_at "ts") => `(tactic| first
  | with_reducible assumption
  | with_reducible exact TS.refl _
  | ((with_reducible refine' TS.trans ?gg (TS.of ?ee)); (case ee => walk_at "as"); (case gg => walk_at "ts"))
  | ((with_reducible refine' TS.trans ?gg (TS.butS ?ee ?ff)); (case ee => walk_at "as"); (case ff => walk_at "tr1"); (case gg => walk_at "ts"))
  | ((with_reducible refine' TS.trans ?gg (TS.butL ?ee ?ff)); (case ee => walk_at "as"); (case ff => walk_at "tr1"); (case gg => walk_at "ts"))
  | ((with_reducible refine' TS.trans ?gg (TS.butI ?ee ?ff)); (case ee => walk_at "as"); (case ff => walk_at "tr1"); (case gg => walk_at "ts")))
local macro_rules | `(tactic| walk_at "sm") => `(tactic| first
  | with_reducible assumption
  | with_reducible exact Same.refl _
  | ((with_reducible refine' Same.trans ?gg ?ee); (case ee => walk_at "as"); (case gg => walk_at "sm"))
  | ((with_reducible refine' But.new ?gg ?nn ?ee); (case ee => walk_at "as"); (case nn => walk_at "fr"); (case gg => walk_at "sm")))
local macro_rules | `(tactic| walk_at "fr") => `(tactic| first
  | with_reducible assumption
  | ((with_reducible refine' Same.back ?ee ?nn); (case nn => walk_at "as"); (case ee => walk_at "sm"))
  | ((with_reducible refine' But.back ?ee ?ff ?nn); (case nn => walk_at "as"); (case ff => walk_at "ne0"); (case ee => walk_at "bu")))
local macro_rules | `(tactic| walk_at "bu") => `(tactic| first
  | with_reducible assumption
  | with_reducible exact But.refl _ _
  | ((with_reducible refine' But.trans ?gg ?ee); (case ee => walk_at "as"); (case gg => walk_at "bu"))
  | ((with_reducible refine' But.trans ?gg (But.of ?ee)); (case ee => walk_at "as"); (case gg => walk_at "bu"))
  | ((with_reducible refine' But.new2 ?gg ?nn ?ee); (case ee => walk_at "as"); (case nn => walk_at "frB"); (case gg => walk_at "bu")))
local macro_rules | `(tactic| walk_at "frB") => `(tactic| first
  | with_reducible assumption
  | ((with_reducible refine' Same.back ?ee ?nn); (case nn => walk_at "as"); (case ee => walk_at "sm"))
  | ((with_reducible refine' But.back' ?ee ?ff ?nn); (case nn => walk_at "as"); (case ee => walk_at "bu"); (case ff => walk_at "tr1")))
local macro_rules | `(tactic| walk_at "tr1") => `(tactic| first
  | with_reducible assumption
  | ((with_reducible refine' Same.stm ?ee ?gg); (case ee => walk_at "as"); (case gg => walk_at "tr1"))
  | ((with_reducible refine' Same.at ?ee ?gg); (case ee => walk_at "as"); (case gg => walk_at "tr1"))
  | ((with_reducible refine' But.at ?ee ?ff ?gg); (case ee => walk_at "as"); (case ff => walk_at "ne0"); (case gg => walk_at "tr1"))
  | ((with_reducible refine' But.stm ?ee ?ff ?gg); (case ee => walk_at "as"); (case ff => walk_at "ne0"); (case gg => walk_at "tr1")))
local macro_rules | `(tactic| walk_at "ne0") => `(tactic| first
  | with_reducible assumption
  | (with_reducible apply Ne.symm; with_reducible assumption))
local macro_rules | `(tactic| walk_at "ne") => `(tactic| first
  | with_reducible assumption
  | (with_reducible apply Ne.symm; with_reducible assumption)
  | ((with_reducible refine' stm_ne ?hh ?nn); (case nn => walk_at "as"); (case hh => walk_at "tr1"))
  | ((with_reducible refine' ne_of_none ?hh ?nn); (case nn => walk_at "as"); (case hh => walk_at "tr1"))
  | ((with_reducible apply Ne.symm); (with_reducible refine' ne_of_none ?hh ?nn); (case nn => walk_at "as"); (case hh => walk_at "tr1")))
local macro_rules | `(tactic| walk_at "v") => `(tactic| first
  | with_reducible refine w_seq ?_
  | ((with_reducible refine' w_var ?vv ?_); (case vv => exact rfl))
  | with_reducible refine w_c ?_
  | with_reducible refine w_op ?_
  | with_reducible refine w_asg ?_
  | with_reducible refine w_gName ?_
  | with_reducible refine w_ret ?_
  | with_reducible refine w_ifS ?_
  | with_reducible refine w_drop ?_
  | with_reducible refine w_next ?_
  | with_reducible refine w_cons ?_
  | with_reducible refine w_nil ?_
  | with_reducible refine w_call ?_
  | with_reducible refine w_cb ?_
  | with_reducible refine w_rI0 ?_
  | with_reducible refine w_addI ?_
  | with_reducible refine w_eqI ?_
  | with_reducible refine w_neI ?_
  | with_reducible refine w_eqS ?_
  | with_reducible refine w_neS ?_
  | with_reducible refine w_eqB ?_
  | with_reducible refine w_neB ?_
  | with_reducible refine w_chain ?_
  | with_reducible refine w_test ?_
  | with_reducible refine w_tB ?_
  | with_reducible refine w_bl ?_
  | ((with_reducible refine' w_mulI ?vv ?_); (case vv => walk_at "side"))
  | ((with_reducible refine' w_rI ?vv ?_); (case vv => walk_at "side"))
  | with_reducible refine w_int1 ?_
  | with_reducible refine w_int1b ?_
  | with_reducible refine w_tup ?_
  | with_reducible refine w_lst ?_
  | with_reducible refine w_un ?_
  | with_reducible refine w_rU ?_
  | with_reducible refine w_not ?_
  | with_reducible refine w_notV ?_
  | with_reducible refine w_ifE ?_
  | with_reducible refine w_nT ?_
  | with_reducible refine w_nF ?_
  | with_reducible refine iteT ?_
  | with_reducible refine iteF ?_
  | ((with_reducible refine' w_ixT ?vv ?ww ?_); (case vv => walk_at "tr"); (case ww => walk_at "ix"))
  | ((with_reducible refine' w_ixL ?vv ?ww ?_); (case vv => walk_at "tr"); (case ww => walk_at "ix"))
  | with_reducible refine w_gSub ?_
  | ((with_reducible refine' w_setL ?vv ?ww ?_); (case vv => walk_at "tr"); (case ww => first | rfl | decide | assumption))
  | ((with_reducible refine' w_lenL ?vv ?_); (case vv => walk_at "tr"))
  | ((with_reducible refine' w_lenT ?vv ?_); (case vv => walk_at "tr"))
  | with_reducible refine w_max2 ?_
  | with_reducible refine w_min2 ?_
  | with_reducible refine w_bm ?_
  | with_reducible refine w_bm0 ?_
  | ((with_reducible refine' w_tyL ?vv ?_); (case vv => walk_at "tr"))
  | ((with_reducible refine' w_append ?vv ?ww ?_); (case vv => walk_at "tr"); (case ww => walk_at "size"))
  | ((with_reducible refine' w_size ?vv ?_); (case vv => walk_at "size"))
  | with_reducible refine w_forL ?_
  | with_reducible refine w_forT ?_
  | with_reducible refine w_forR1 ?_
  | with_reducible refine w_forR2 ?_
  | with_reducible refine w_lcL ?_
  | with_reducible refine w_lcT ?_
  | with_reducible refine w_lcR1 ?_
  | with_reducible refine w_yes ?_
  | with_reducible refine w_sl ?_
  | with_reducible refine w_noPart ?_
  | with_reducible refine w_part ?_
  | with_reducible refine w_int ?_
  | ((with_reducible refine' w_slL ?vv ?_); (case vv => walk_at "tr"))
  | ((with_reducible refine' w_seqL ?vv ?ww ?_); (case vv => walk_at "tr"); (case ww => rfl))
  | ((with_reducible refine' w_seqT ?vv ?ww ?_); (case vv => walk_at "tr"); (case ww => rfl))
  | with_reducible refine w_gNil ?_
  | with_reducible refine w_gCons ?_
  | with_reducible refine w_forZ ?_
  | with_reducible refine w_forE ?_
  | with_reducible refine w_forV ?_
  | with_reducible refine w_lcZ ?_
  | with_reducible refine w_lcE ?_
  | ((with_reducible refine' w_isi (b := true) ?vv ?ww ?_); (case vv => walk_at "ty"); (case ww => decide +kernel))
  | ((with_reducible refine' w_isi (b := false) ?vv ?ww ?_); (case vv => walk_at "ty"); (case ww => decide +kernel))
  | with_reducible refine w_revL ?_
  | with_reducible refine w_pairN ?_
  | with_reducible refine w_pairC ?_
  | with_reducible refine w_dget ?_
  | with_reducible refine w_met ?_
  | ((with_reducible refine' w_metAt ?vv ?ww ?_); (case vv => walk_at "tr"); (case ww => rfl))
  | with_reducible refine w_mkI ?_
  | with_reducible refine w_fld ?_
  | ((with_reducible refine' w_fldAt ?vv ?cc ?nn ?ww ?_); (case vv => walk_at "tr"); (case cc => walk_at "cls"); (case nn => walk_at "na"); (case ww => rfl))
  | with_reducible refine w_sfld ?_
  | ((with_reducible refine' w_sfldAt ?vv ?cc ?nn ?ll ?ee ?_); (case vv => walk_at "tr"); (case cc => walk_at "cls"); (case nn => walk_at "na"); (case ll => simp); (case ee => rfl))
  | ((with_reducible refine' w_tupL ?vv ?_); (case vv => walk_at "tr"))
  | ((with_reducible refine' w_tupT ?vv ?_); (case vv => walk_at "tr"))
  | ((with_reducible refine' w_listL ?vv ?_); (case vv => walk_at "tr"))
  | ((with_reducible refine' w_listT ?vv ?_); (case vv => walk_at "tr"))
  | with_reducible refine w_tyS ?_
  | with_reducible refine w_retN ?_
  | with_reducible refine w_break ?_
  | with_reducible refine w_cont ?_)
local macro_rules | `(tactic| walk_at "w") => `(tactic| first
  | walk_at "v"
  | with_reducible refine w_or ?_
  | with_reducible refine w_and ?_
  | with_reducible refine w_andV ?_
  | with_reducible refine w_orV ?_)
local macro_rules | `(tactic| walk_at "wd") => `(tactic| first
  | walk_at "w"
  | ((with_reducible refine' w_decT ?vv ?_); (case vv => decide +kernel))
  | ((with_reducible refine' w_decF ?vv ?_); (case vv => decide +kernel)))
local macro_rules | `(tactic| walk_at "tz") => `(tactic| (intro S z; (repeat walk_at "w"); exact z))
local macro_rules | `(tactic| walk_at "wf") => `(tactic| first
  | walk_at "wd"
  | ((with_reducible refine' w_decF ?vv ?_); (case vv => with_reducible assumption)))
def spRests (K : PySem.W.Frag) : Sp := fun vs H Q _ => ∃ (v : V) (s : SetE), vs = [v] ∧ Dp K H v s.d ∧ ∀ p us H', H' p = some (.lst us) → DpAll K H' us (s.rests.map Exp.d) → Same H H' → H p = none → Q (.ref p) H'
theorem len_rests_of {K : PySem.W.Frag} {vs H Q E} (h : spRests K vs H Q E) : vs.length = 1 := by obtain ⟨_, _, rfl, _⟩ := h; rfl
def spPR (K : PySem.W.Frag) : Sp := fun vs H Q _ => ∃ (v : V) (ss : List SetE), vs = [v] ∧ Dp K H v (setsD ss) ∧ ss.length ≤ 4 ∧ (∀ x ∈ ss, OkS 4 x) ∧ ∀ t l r H', H' t = some (.tup [.ref l, .ref r]) → PL K H' l (proots ss []).2 → PL K H' r (proots ss []).1 → H l = none → H r = none → Same H H' → l ≠ r → Q (.ref t) H'
theorem len_parts_and_roots {K : PySem.W.Frag} {vs H Q E} (h : spPR K vs H Q E) : vs.length = 1 := by obtain ⟨_, _, rfl, _⟩ := h; rfl
def spPof (K : PySem.W.Frag) : Sp := fun vs H Q _ => ∃ (v : V) (ss : List SetE), vs = [v] ∧ Dp K H v (setsD ss) ∧ ss.length ≤ 4 ∧ (∀ x ∈ ss, OkS 4 x) ∧ ∀ l H', PL K H' l (proots ss []).2 → H l = none → Same H H' → Q (.ref l) H'
def spRof (K : PySem.W.Frag) : Sp := fun vs H Q _ => ∃ (v : V) (ss : List SetE), vs = [v] ∧ Dp K H v (setsD ss) ∧ ss.length ≤ 4 ∧ (∀ x ∈ ss, OkS 4 x) ∧ ∀ l H', PL K H' l (proots ss []).1 → H l = none → Same H H' → Q (.ref l) H'
theorem len_parts_of {K : PySem.W.Frag} {vs H Q E} (h : spPof K vs H Q E) : vs.length = 1 := by obtain ⟨_, _, rfl, _⟩ := h; rfl
theorem len_roots_of {K : PySem.W.Frag} {vs H Q E} (h : spRof K vs H Q E) : vs.length = 1 := by obtain ⟨_, _, rfl, _⟩ := h; rfl
theorem set_d {K : PySem.W.Frag} {H : Hp} {v : V} {ss : List SetE} (h : Dp K H v (setsD ss)) : ∃ p xs, v = .ref p ∧ SqT K H p xs ∧ DpAll K H xs (ss.map SetE.d) := dp_tup h
theorem cnts_take (es : List Exp) : ∀ i : Nat, cnts (es.take i) ≤ cnts es := by
  induction es with
  | nil => intro i; rw [List.take_nil]; exact Nat.le_refl _
  | cons a es ih =>
    intro i
    cases i with
    | zero => exact Nat.zero_le _
    | succ i => rw [List.take_succ_cons, cnts, cnts]; have := ih i; omega
section
variable {P : Program} {w : World} {K : PySem.W.Frag} {mg : Str → Option Value}
theorem ok_rests_of [c : Facts K mg] : Fn P w K mg "rests_of" 1 ["one"] ((spRests K)) := by
  obtain ⟨fd, F⟩ := c.d_rests_of
  refine Fn.mk' F c.g_rests_of sc_rests_of (k := 0) (fun vs H Q E h => ?_) (fun _ _ _ _ _ _ us hl => match us, hl with | [_], _ => rfl) (fun base cdv A outer s H vs Q E hr h => ?_)
  · exact len_rests_of h
  · have nd := sc_rests_of.nd
    have hu := hu_of hr
    refine ⟨_, (pss_cons (ps_if (pt_cmpR (op_eqA (K := K) rfl hr.units) (pe_ix (ix_any (K := K) rfl) (pv 0) pe_int (fun _ _ => rfl)) pe_str (nomark _)) (pss_one (ps_ret (pe_lst (pa_cons (pe_ix (ix_any (K := K) rfl) (pv 0) pe_int (fun _ _ => rfl)) (pa_cons (pe_ix (ix_any (K := K) rfl) (pv 0) pe_int (fun _ _ => rfl)) pa_nil))))) pss_nil)
      (pss_one (ps_ret (pe_lst (pa_cons (pe_ix (ix_any (K := K) rfl) (pv 0) pe_int (fun _ _ => rfl)) pa_nil))))), ?_⟩
    try dsimp only [cxOf, Cx.nox, Cx.wish]
    obtain ⟨v, s, rfl, hv, q⟩ := h
    cases s with
    | cell a b =>
      obtain ⟨p, u, u2, rfl, hp, hu', hu2⟩ := exp_2 hv
      repeat walk_at "wf"
      refine w_new fun p1 H1 n1 s1 f1 => ?_
      exact q _ _ H1 f1 (.cons (Exp.ts (TS.of s1) hu') (.cons (Exp.ts (TS.of s1) hu2) .nil)) s1 n1
    | sel m k n e =>
      obtain ⟨p, u, u2, rfl, hp, hu', hu2⟩ := exp_2 hv
      have nc : (if m then ("mark" : Str) else "place") ≠ "cell" := by cases m <;> decide +kernel
      repeat walk_at "wf"
      refine w_new fun p1 H1 n1 s1 f1 => ?_
      exact q _ _ H1 f1 (.cons (Exp.ts (TS.of s1) hu2) .nil) s1 n1
theorem ok_parts_and_roots [c : Facts K mg] (G_rests_of : Fn P w K mg "rests_of" 1 ["one"] ((spRests K))) (GM_Parts___init__ : FnA P w K mg (He.ma K (He.ga K "Parts") "__init__") 1 ["self"] ((spInit (He.ga K "Parts")))) (GM_Parts_part_in : FnA P w K mg (He.ma K (He.ga K "Parts") "part_in") 5 ["self", "e"] ((spPartIn K (He.ga K "Parts") 4))) : Fn P w K mg "parts_and_roots" 6 ["sets"] ((spPR K)) := by
  obtain ⟨fd, F⟩ := c.d_parts_and_roots
  refine Fn.mk' F c.g_parts_and_roots sc_parts_and_roots (k := 5) (fun vs H Q E h => ?_) (fun _ _ _ _ _ _ us hl => match us, hl with | [_], _ => rfl) (fun base cdv A outer s H vs Q E hr h => ?_)
  · exact len_parts_and_roots h
  · have nd := sc_parts_and_roots.nd
    have hu := hu_of hr
    have hr_rests_of : Room 1 _ := hr.mono (by omega)
    have hrI_Parts : Room (1 + 1) _ := hr.mono (by omega)
    have hrM_Parts_part_in : Room 5 _ := hr.mono (by omega)
    refine ⟨_, (pss_cons (ps_set (i := 1) nd rfl (Or.inr rfl) (pe_mkI0 GM_Parts___init__ rfl c.mk_Parts c.gc_Parts hrI_Parts (by rfl)))
      (pss_cons (ps_set (i := 2) nd rfl (Or.inl rfl) (pe_lst pa_nil))
      (pss_cons (ps_for PassesOwn.never rfl (pi_tup (pv 0)) (pg_name (i := 3) nd rfl (Or.inl rfl)) (pss_one (ps_expr (pe_bm PySem.F.plainAttrs_list PySem.F.slot_list_append PySem.F.type_list_append mt_append (pv 2) (pa_cons (pe_callTy (call_tupA (K := K) rfl) (by rfl) c.f_tuple boot_tuple (pa_cons (pe_lc (own := [("e", 4)]) rfl nd (pi_list (pe_fn G_rests_of hr_rests_of (by rfl) (pa_cons (pv 3) pa_nil))) (blkOk_by (N := N_parts_and_roots) (sc := defScope s_parts_and_roots) (by decide +kernel)) (fun _ _ _ _ _ => (pg_name (i := 4) nd rfl (Or.inl rfl))) (fun _ _ _ _ _ => pts_nil) (fun _ _ _ _ _ => (pe_met GM_Parts_part_in rfl c.cl_Parts c.me_Parts_part_in hrM_Parts_part_in (pv 1) (pa_cons (pv 4) pa_nil)))) pa_nil)) pa_nil)))))
      (pss_one (ps_ret (pe_tup (pa_cons (pe_fldK (K := K) rfl (pv 1)) (pa_cons (pv 2) pa_nil)))))))), ?_⟩
    try dsimp only [cxOf, Cx.nox, Cx.wish]
    obtain ⟨v, ss, rfl, hv, hl, ho, q⟩ := h
    obtain ⟨a, xs, rfl, ha, hxs⟩ := set_d hv
    have hxl : xs.length = ss.length := by rw [dpa_len hxs, List.length_map]
    repeat walk_at "w"
    refine w_newI fun p dx H1 n1 s1 f1 => ?_
    refine ⟨p, dx, rfl, f1, fun l H2 f2 fl nl e2 => ⟨rfl, ?_⟩⟩
    repeat walk_at "w"
    refine w_new fun r H3 n3 s3 f3 => ?_
    have s02 : Same H H2 := But.new s1 n1 e2
    have s03 : Same H H3 := s02.trans s3
    have nl0 : H l = none := s1.free nl
    have nr0 : H r = none := s02.free n3
    have npl : p ≠ l := fun z => by rw [z, fl] at f2; cases f2
    have nrp : r ≠ p := fun z => by rw [z, f2] at n3; cases n3
    have nrl : r ≠ l := fun z => by rw [z, fl] at n3; cases n3
    repeat walk_at "w"
    refine fl_tup xs (fun i σ H' => ∃ o, σ = [some (.ref a), some (.ref p), some (.ref r), o, none] ∧ H' p = some (.ins (He.ga K "Parts") dx [("rows", .ref l)]) ∧ PL K H' l (proots (ss.take i) []).2 ∧ PL K H' r (proots (ss.take i) []).1 ∧ Same H H') (s03.sqT ha)
      ⟨_, rfl, s3 _ _ f2, (PL.new fl).same s3, PL.new f3, s03⟩ (fun i σ H' hi hp => ?_) (fun i x σ H' hi hp => ?_) (fun σ H' hp => ?_)
    · obtain ⟨o, rfl, _, _, _, sm⟩ := hp
      exact sm.sqT ha
    · obtain ⟨o, rfl, hpp, hP, hR, sm⟩ := hp
      have hi' : i < ss.length := by have := (List.getElem?_eq_some_iff.mp hi).1; omega
      obtain ⟨s, hs⟩ : ∃ s, ss[i]? = some s := ⟨_, List.getElem?_eq_getElem hi'⟩
      have os := ho s (List.mem_of_getElem? hs)
      have hx : Dp K H' x s.d := by
        obtain ⟨d, hd1, hd2⟩ := dpa_at' (dpAll_ts (TS.of sm) _ _ (setsD_tup ss) hxs) hi
        rw [List.getElem?_map, hs] at hd1
        cases Option.some.inj hd1
        exact hd2
      obtain ⟨ys, hy, hyd, hyr⟩ := id hR
      have ln := proots_len (ss.take i) [] (fun x hx => ho x (List.mem_of_mem_take hx))
      have lt : (ss.take i).length ≤ 4 := by rw [List.length_take]; omega
      have hyl : ys.length ≤ 4 := by rw [hR.len hy, ln.2]; exact lt
      have lp : (proots (ss.take i) []).2.length ≤ 120 := by have := ln.1; rw [List.length_nil] at this; omega
      have cr := cnts_le s.rests (okS_rests os)
      have rl : s.rests.length ≤ 2 := by cases s <;> simp [SetE.rests]
      repeat walk_at "w"
      refine ⟨x, s, rfl, hx, fun t us H4 ht hus s4 n4 => ?_⟩
      have hP4 := hP.same s4
      have hul : us.length = s.rests.length := by rw [dpa_len hus, List.length_map]
      refine lc_L us (fun D j zs H' => But l H4 H' ∧ PL K H' l (J.parts (s.rests.take j) (proots (ss.take i) []).2).2 ∧ DpAll K H' zs (J.parts (s.rests.take j) (proots (ss.take i) []).2).1) (SqL.of ht) (fun D H' hD e f => ⟨But.of e, hP4.same e, .nil⟩)
        (fun D hD j zs H' hi hy hp => ?_) (fun D hD j x zs H' hj hl hy hp => ?_) (fun D hD zs H' hl hz hp => ?_)
      · refine But.sqL hp.1 (fun z => ?_) (SqL.of ht)
        obtain ⟨_, g, _⟩ := hP
        rw [z, g] at n4; cases n4
      · obtain ⟨b1, hP', hys⟩ := hp
        have hj' : j < s.rests.length := by have := (List.getElem?_eq_some_iff.mp hj).1; omega
        obtain ⟨e, he⟩ : ∃ e, s.rests[j]? = some e := ⟨_, List.getElem?_eq_getElem hj'⟩
        have oe := okS_rests os e (List.mem_of_getElem? he)
        have ce := cnt4 oe (Nat.le_refl 4)
        have hza : (J.parts (s.rests.take j) (proots (ss.take i) []).2).2.length + e.cnt ≤ 1000 := by
          rw [parts_len]
          have := cnts_take s.rests j
          omega
        have t1 : TS H4 H' := hP4.tsB b1
        have hx : Dp K H' x e.d := by
          obtain ⟨d, hd1, hd2⟩ := dpa_at' (dpAll_ts t1 _ _ (exps_tup _) hus) hj
          rw [List.getElem?_map, he] at hd1
          cases Option.some.inj hd1
          exact hd2
        have hpp' : H' p = some (.ins (He.ga K "Parts") dx [("rows", .ref l)]) := b1 _ _ npl (s4 _ _ hpp)
        have nDl : D ≠ l := fun z => by rw [z] at hD; obtain ⟨_, g, _⟩ := hP4; rw [hD] at g; cases g
        repeat walk_at "w"
        refine ⟨x, p, dx, l, e, _, rfl, hpp', hx, oe, hP', hza, fun v H5 hv5 hP5 e5 => ?_⟩
        have hy2 : H5 D = some (.lst zs) := e5 _ _ nDl hy
        refine lc_end hy2 hl (by rw [sizeLine_eq]; omega) fun H6 e6 f6 => ?_
        have t2 : TS H' H5 := hP'.tsB e5
        have t3 : TS H5 H6 := TS.butL e6 hy2
        have ip := e.part_ok oe.2 hP'.choose_spec.2.2
        have ii := parts_ok (s.rests.take j) (ps := (proots (ss.take i) []).2) (fun y hy => (okS_rests os y (List.mem_of_mem_take hy)).2) hP.choose_spec.2.2
        rw [take_snoc he, parts_snoc]
        refine ⟨But.new2 (b1.trans e5) hD e6, hP5.ts t3 fun _ g => e6 _ _ nDl.symm g, ?_⟩
        exact dpa_app (dpAll_ts (t2.trans t3) _ _ (items_all ii.1).1 hys) (dpa_one (ip.1.ts t3 hv5))
      · obtain ⟨b1, hP', hys⟩ := hp
        rw [hul, List.take_length] at hys hP'
        have nrD : H' r = some (.lst ys) := b1 _ _ nrl (s4 _ _ hy)
        have hpp' : H' p = some (.ins (He.ga K "Parts") dx [("rows", .ref l)]) := b1 _ _ npl (s4 _ _ hpp)
        have ii := parts_ok s.rests (ps := (proots (ss.take i) []).2) (fun y hy => (okS_rests os y hy).2) hP.choose_spec.2.2
        have t1 : TS H4 H' := hP4.tsB b1
        repeat walk_at "w"
        refine w_new fun t5 H5 n5 s5 f5 => ?_
        repeat walk_at "w"
        refine w_chg fun H6 e6 f6 => ?_
        repeat walk_at "w"
        have rw5 : Row (.tuple (J.parts s.rests (proots (ss.take i) []).2).1) := ⟨_, rfl, ii.1⟩
        have hR5 : PL K H5 r (proots (ss.take i) []).1 := ((hR.same s4).but hP4 nrl b1).same s5
        have z := PL.snoc hR5 (s5 _ _ nrD) e6 f6 (.tup (SqT.of f5) (dpAll_ts (TS.of s5) _ _ (items_all ii.1).1 hys)) rw5
        rw [take_snoc hs, proots_snoc]
        have bl : But l H H' := (But.of (sm.trans s4)).trans b1
        refine ⟨_, rfl, e6 _ _ nrp.symm (s5 _ _ hpp'), (hP'.same s5).but hR5 nrl.symm e6, z.1, ?_⟩
        exact But.new ((But.new (sm.trans s4) nl0 b1).trans s5) nr0 e6
    · obtain ⟨o, rfl, hpp, hP, hR, sm⟩ := hp
      rw [hxl, List.take_length] at hP hR
      repeat walk_at "w"
      refine w_new fun t H4 n4 s4 f4 => ?_
      exact q t l r H4 f4 (hP.same s4) (hR.same s4) nl0 nr0 (sm.trans s4) nrl.symm
theorem ok_parts_of [c : Facts K mg] (G_parts_and_roots : Fn P w K mg "parts_and_roots" 6 ["sets"] ((spPR K))) : Fn P w K mg "parts_of" 7 ["sets"] ((spPof K)) := by
  obtain ⟨fd, F⟩ := c.d_parts_of
  refine Fn.mk' F c.g_parts_of sc_parts_of (k := 6) (fun vs H Q E h => ?_) (fun _ _ _ _ _ _ us hl => match us, hl with | [_], _ => rfl) (fun base cdv A outer s H vs Q E hr h => ?_)
  · exact len_parts_of h
  · have nd := sc_parts_of.nd
    have hu := hu_of hr
    have hr_parts_and_roots : Room 6 _ := hr.mono (by omega)
    refine ⟨_, (pss_cons (ps_asg (pe_fn G_parts_and_roots hr_parts_and_roots (by rfl) (pa_cons (pv 0) pa_nil)) (pg_seq 2 (K := K) rfl rfl (pgs_cons (pg_name (i := 1) nd rfl (Or.inl rfl)) (pgs_cons (pg_name (i := 2) nd rfl (Or.inl rfl)) pgs_nil))))
      (pss_one (ps_ret (pv 1)))), ?_⟩
    try dsimp only [cxOf, Cx.nox, Cx.wish]
    obtain ⟨v, ss, rfl, hv, hl, ho, q⟩ := h
    repeat walk_at "w"
    refine ⟨v, ss, rfl, hv, hl, ho, fun t l r H1 ht hP hR nl nr sm ne => ?_⟩
    repeat walk_at "w"
    exact q l H1 hP nl sm
theorem ok_roots_of [c : Facts K mg] (G_parts_and_roots : Fn P w K mg "parts_and_roots" 6 ["sets"] ((spPR K))) : Fn P w K mg "roots_of" 7 ["sets"] ((spRof K)) := by
  obtain ⟨fd, F⟩ := c.d_roots_of
  refine Fn.mk' F c.g_roots_of sc_roots_of (k := 6) (fun vs H Q E h => ?_) (fun _ _ _ _ _ _ us hl => match us, hl with | [_], _ => rfl) (fun base cdv A outer s H vs Q E hr h => ?_)
  · exact len_roots_of h
  · have nd := sc_roots_of.nd
    have hu := hu_of hr
    have hr_parts_and_roots : Room 6 _ := hr.mono (by omega)
    refine ⟨_, (pss_cons (ps_asg (pe_fn G_parts_and_roots hr_parts_and_roots (by rfl) (pa_cons (pv 0) pa_nil)) (pg_seq 2 (K := K) rfl rfl (pgs_cons (pg_name (i := 1) nd rfl (Or.inl rfl)) (pgs_cons (pg_name (i := 2) nd rfl (Or.inl rfl)) pgs_nil))))
      (pss_one (ps_ret (pv 2)))), ?_⟩
    try dsimp only [cxOf, Cx.nox, Cx.wish]
    obtain ⟨v, ss, rfl, hv, hl, ho, q⟩ := h
    repeat walk_at "w"
    refine ⟨v, ss, rfl, hv, hl, ho, fun t l r H1 ht hP hR nl nr sm ne => ?_⟩
    repeat walk_at "w"
    exact q r H1 hR nr sm
end

end J
namespace J
open PySem PySem.Spec PyProof.Rows L2
local macro_rules | `(tactic| walk_at "cls") => `(tactic| first
  | with_reducible exact Facts.cl_Parts)
local macro_rules | `(tactic| walk_at "na") => `(tactic| first
  | with_reducible exact Facts.na_Parts_rows)
local macro_rules | `(tactic| walk_at "ty") => `(tactic| first
  | with_reducible exact ty_int
  | with_reducible exact ty_bl
  | with_reducible exact ty_str
  | with_reducible exact ty_non
  | ((with_reducible refine' ty_lst ?vv); (case vv => walk_at "tr"))
  | ((with_reducible refine' ty_sqT ?vv); (case vv => walk_at "tr"))
  | ((with_reducible refine' ty_dic ?vv); (case vv => walk_at "tr")))
local macro_rules | `(tactic| walk_at "ix") => `(tactic| first | exact at0 | exact at1 | exact at2 | assumption)
local macro_rules | `(tactic| walk_at "size") => `(tactic| first
  | assumption
  | (show _ < sizeLine; rw [sizeLine_eq]; (try simp only [List.length_cons, List.length_nil, List.length_append, List.length_map]); omega)
  | (show _ ≤ sizeLine; rw [sizeLine_eq]; (try simp only [List.length_cons, List.length_nil, List.length_append, List.length_map]); omega))
local macro_rules | `(tactic| walk_at "side") => `(tactic| first
  | assumption
  | ((with_reducible refine cdw ?_ ?_) <;> omega)
  | omega
  | (exact ⟨by omega, by omega⟩)
  | (exact Or.inl ⟨by omega, by omega⟩)
  | (exact Or.inr ⟨by omega, by omega⟩)
  | decide
  | (simp only [List.length_cons, List.length_nil, List.length_append, List.length_map]; omega)
  | (show _ ≤ _; decide))
local macro_rules | `(tactic| walk_at "as") => `(tactic| with_reducible assumption)
local macro_rules | `(tactic| walk_at "tr") => `(tactic| first
  | with_reducible assumption
  | with_reducible exact upd_same
  | ((with_reducible refine' SqL.of ?hh); (case hh => walk_at "as"))
  | ((with_reducible refine' SqT.of ?hh); (case hh => walk_at "as"))
  | ((with_reducible refine' Same.stm ?ee ?gg); (case ee => walk_at "as"); (case gg => walk_at "tr"))
  | ((with_reducible refine' Same.sqT ?ee ?gg); (case ee => walk_at "as"); (case gg => walk_at "tr"))
  | ((with_reducible refine' Same.sqL ?ee ?gg); (case ee => walk_at "as"); (case gg => walk_at "tr"))
  | ((with_reducible refine' Same.at ?ee ?gg); (case ee => walk_at "as"); (case gg => walk_at "tr"))
  | ((with_reducible refine' But.stm ?ee ?ff ?gg); (case ee => walk_at "as"); (case ff => walk_at "ne"); (case gg => walk_at "tr"))
  | ((with_reducible refine' But.tup ?ee ?ff ?gg); (case ee => walk_at "as"); (case ff => walk_at "tr1"); (case gg => walk_at "tr"))
  | ((with_reducible refine' But.sqT ?ee ?ff ?gg); (case ee => walk_at "as"); (case ff => walk_at "tr1"); (case gg => walk_at "tr"))
  | ((with_reducible refine' But.tupL ?ee ?ff ?gg); (case ee => walk_at "as"); (case ff => walk_at "tr1"); (case gg => walk_at "tr"))
  | ((with_reducible refine' But.sqTL ?ee ?ff ?gg); (case ee => walk_at "as"); (case ff => walk_at "tr1"); (case gg => walk_at "tr"))
  | ((with_reducible refine' But.sqL ?ee ?ff ?gg); (case ee => walk_at "as"); (case ff => walk_at "ne"); (case gg => walk_at "tr"))
  | ((with_reducible refine' But.at ?ee ?ff ?gg); (case ee => walk_at "as"); (case ff => walk_at "ne"); (case gg => walk_at "tr")))
local macro_rules | `(tactic| walk_at "ts") => `(tactic| first
  | with_reducible assumption
  | with_reducible exact TS.refl _
  | ((with_reducible refine' TS.trans ?gg (TS.of ?ee)); (case ee => walk_at "as"); (case gg => walk_at "ts"))
  | ((with_reducible refine' TS.trans ?gg (TS.butS ?ee ?ff)); (case ee => walk_at "as"); (case ff => walk_at "tr1"); (case gg => walk_at "ts"))
  | ((with_reducible refine' TS.trans ?gg (TS.butL ?ee ?ff)); (case ee => walk_at "as"); (case ff => walk_at "tr1"); (case gg => walk_at "ts"))
  | ((with_reducible refine' TS.trans ?gg (TS.butI ?ee ?ff)); (case ee => walk_at "as"); (case ff => walk_at "tr1"); (case gg => walk_at "ts")))
local macro_rules | `(tactic| walk_at "sm") => `(tactic| first
  | with_reducible assumption
  | with_reducible exact Same.refl _
  | ((with_reducible refine' Same.trans ?gg ?ee); (case ee => walk_at "as"); (case gg => walk_at "sm"))
  | ((with_reducible refine' But.new ?gg ?nn ?ee); (case ee => walk_at "as"); (case nn => walk_at "fr"); (case gg => walk_at "sm")))
local macro_rules | `(tactic| walk_at "fr") => `(tactic| first
  | with_reducible assumption
  | ((with_reducible refine' Same.back ?ee ?nn); (case nn => walk_at "as"); (case ee => walk_at "sm"))
  | ((with_reducible refine' But.back ?ee ?ff ?nn); (case nn => walk_at "as"); (case ff => walk_at "ne0"); (case ee => walk_at "bu")))
local macro_rules | `(tactic| walk_at "bu") => `(tactic| first
  | with_reducible assumption
  | with_reducible exact But.refl _ _
  | ((with_reducible refine' But.trans ?gg ?ee); (case ee => walk_at "as"); (case gg => walk_at "bu"))
  | ((with_reducible refine' But.trans ?gg (But.of ?ee)); (case ee => walk_at "as"); (case gg => walk_at "bu"))
  | ((with_reducible refine' But.new2 ?gg ?nn ?ee); (case ee => walk_at "as"); (case nn => walk_at "frB"); (case gg => walk_at "bu")))
local macro_rules | `(tactic| walk_at "frB") => `(tactic| first
  | with_reducible assumption
  | ((with_reducible refine' Same.back ?ee ?nn); (case nn => walk_at "as"); (case ee => walk_at "sm"))
  | ((with_reducible refine' But.back' ?ee ?ff ?nn); (case nn => walk_at "as"); (case ee => walk_at "bu"); (case ff => walk_at "tr1")))
local macro_rules | `(tactic| walk_at "tr1") => `(tactic| first
  | with_reducible assumption
  | ((with_reducible refine' Same.stm ?ee ?gg); (case ee => walk_at "as"); (case gg => walk_at "tr1"))
  | ((with_reducible refine' Same.at ?ee ?gg); (case ee => walk_at "as"); (case gg => walk_at "tr1"))
  | ((with_reducible refine' But.at ?ee ?ff ?gg); (case ee => walk_at "as"); (case ff => walk_at "ne0"); (case gg => walk_at "tr1"))
  | ((with_reducible refine' But.stm ?ee ?ff ?gg); (case ee => walk_at "as"); (case ff => walk_at "ne0"); (case gg => walk_at "tr1")))
local macro_rules | `(tactic| walk_at "ne0") => `(tactic| first
  | with_reducible assumption
  | (with_reducible apply Ne.symm; with_reducible assumption))
local macro_rules | `(tactic| walk_at "ne") => `(tactic| first
  | with_reducible assumption
  | (with_reducible apply Ne.symm; with_reducible assumption)
  | ((with_reducible refine' stm_ne ?hh ?nn); (case nn => walk_at "as"); (case hh => walk_at "tr1"))
  | ((with_reducible refine' ne_of_none ?hh ?nn); (case nn => walk_at "as"); (case hh => walk_at "tr1"))
  | ((with_reducible apply Ne.symm); (with_reducible refine' ne_of_none ?hh ?nn); (case nn => walk_at "as"); (case hh => walk_at "tr1")))
local macro_rules | `(tactic| walk_at "v") => `(tactic| first
  | with_reducible refine w_seq ?_
  | ((with_reducible refine' w_var ?vv ?_); (case vv => exact rfl))
  | with_reducible refine w_c ?_
  | with_reducible refine w_op ?_
  | with_reducible refine w_asg ?_
  | with_reducible refine w_gName ?_
  | with_reducible refine w_ret ?_
  | with_reducible refine w_ifS ?_
  | with_reducible refine w_drop ?_
  | with_reducible refine w_next ?_
  | with_reducible refine w_cons ?_
  | with_reducible refine w_nil ?_
  | with_reducible refine w_call ?_
  | with_reducible refine w_cb ?_
  | with_reducible refine w_rI0 ?_
  | with_reducible refine w_addI ?_
  | with_reducible refine w_eqI ?_
  | with_reducible refine w_neI ?_
  | with_reducible refine w_eqS ?_
  | with_reducible refine w_neS ?_
  | with_reducible refine w_eqB ?_
  | with_reducible refine w_neB ?_
  | with_reducible refine w_chain ?_
  | with_reducible refine w_test ?_
  | with_reducible refine w_tB ?_
  | with_reducible refine w_bl ?_
  | ((with_reducible refine' w_mulI ?vv ?_); (case vv => walk_at "side"))
  | ((with_reducible refine' w_rI ?vv ?_); (case vv => walk_at "side"))
  | with_reducible refine w_int1 ?_
  | with_reducible refine w_int1b ?_
  | with_reducible refine w_tup ?_
  | with_reducible refine w_lst ?_
  | with_reducible refine w_un ?_
  | with_reducible refine w_rU ?_
  | with_reducible refine w_not ?_
  | with_reducible refine w_notV ?_
  | with_reducible refine w_ifE ?_
  | with_reducible refine w_nT ?_
  | with_reducible refine w_nF ?_
  | with_reducible refine iteT ?_
  | with_reducible refine iteF ?_
  | ((with_reducible refine' w_ixT ?vv ?ww ?_); (case vv => walk_at "tr"); (case ww => walk_at "ix"))
  | ((with_reducible refine' w_ixL ?vv ?ww ?_); (case vv => walk_at "tr"); (case ww => walk_at "ix"))
  | with_reducible refine w_gSub ?_
  | ((with_reducible refine' w_setL ?vv ?ww ?_); (case vv => walk_at "tr"); (case ww => first | rfl | decide | assumption))
  | ((with_reducible refine' w_lenL ?vv ?_); (case vv => walk_at "tr"))
  | ((with_reducible refine' w_lenT ?vv ?_); (case vv => walk_at "tr"))
  | with_reducible refine w_max2 ?_
  | with_reducible refine w_min2 ?_
  | with_reducible refine w_bm ?_
  | with_reducible refine w_bm0 ?_
  | ((with_reducible refine' w_tyL ?vv ?_); (case vv => walk_at "tr"))
  | ((with_reducible refine' w_append ?vv ?ww ?_); (case vv => walk_at "tr"); (case ww => walk_at "size"))
  | ((with_reducible refine' w_size ?vv ?_); (case vv => walk_at "size"))
  | with_reducible refine w_forL ?_
  | with_reducible refine w_forT ?_
  | with_reducible refine w_forR1 ?_
  | with_reducible refine w_forR2 ?_
  | with_reducible refine w_lcL ?_
  | with_reducible refine w_lcT ?_
  | with_reducible refine w_lcR1 ?_
  | with_reducible refine w_yes ?_
  | with_reducible refine w_sl ?_
  | with_reducible refine w_noPart ?_
  | with_reducible refine w_part ?_
  | with_reducible refine w_int ?_
  | ((with_reducible refine' w_slL ?vv ?_); (case vv => walk_at "tr"))
  | ((with_reducible refine' w_seqL ?vv ?ww ?_); (case vv => walk_at "tr"); (case ww => rfl))
  | ((with_reducible refine' w_seqT ?vv ?ww ?_); (case vv => walk_at "tr"); (case ww => rfl))
  | with_reducible refine w_gNil ?_
  | with_reducible refine w_gCons ?_
  | with_reducible refine w_forZ ?_
  | with_reducible refine w_forE ?_
  | with_reducible refine w_forV ?_
  | with_reducible refine w_lcZ ?_
  | with_reducible refine w_lcE ?_
  | ((with_reducible refine' w_isi (b := true) ?vv ?ww ?_); (case vv => walk_at "ty"); (case ww => decide +kernel))
  | ((with_reducible refine' w_isi (b := false) ?vv ?ww ?_); (case vv => walk_at "ty"); (case ww => decide +kernel))
  | with_reducible refine w_revL ?_
  | with_reducible refine w_pairN ?_
  | with_reducible refine w_pairC ?_
  | with_reducible refine w_dget ?_
  | with_reducible refine w_met ?_
  | ((with_reducible refine' w_metAt ?vv ?ww ?_); (case vv => walk_at "tr"); (case ww => rfl))
  | with_reducible refine w_mkI ?_
  | with_reducible refine w_fld ?_
  | ((with_reducible refine' w_fldAt ?vv ?cc ?nn ?ww ?_); (case vv => walk_at "tr"); (case cc => walk_at "cls"); (case nn => walk_at "na"); (case ww => rfl))
  | with_reducible refine w_sfld ?_
  | ((with_reducible refine' w_sfldAt ?vv ?cc ?nn ?ll ?ee ?_); (case vv => walk_at "tr"); (case cc => walk_at "cls"); (case nn => walk_at "na"); (case ll => simp); (case ee => rfl))
  | ((with_reducible refine' w_tupL ?vv ?_); (case vv => walk_at "tr"))
  | ((with_reducible refine' w_tupT ?vv ?_); (case vv => walk_at "tr"))
  | ((with_reducible refine' w_listL ?vv ?_); (case vv => walk_at "tr"))
  | ((with_reducible refine' w_listT ?vv ?_); (case vv => walk_at "tr"))
  | with_reducible refine w_tyS ?_
  | with_reducible refine w_retN ?_
  | with_reducible refine w_break ?_
  | with_reducible refine w_cont ?_)
local macro_rules | `(tactic| walk_at "w") => `(tactic| first
  | walk_at "v"
  | with_reducible refine w_or ?_
  | with_reducible refine w_and ?_
  | with_reducible refine w_andV ?_
  | with_reducible refine w_orV ?_)
local macro_rules | `(tactic| walk_at "wd") => `(tactic| first
  | walk_at "w"
  | ((with_reducible refine' w_decT ?vv ?_); (case vv => decide +kernel))
  | ((with_reducible refine' w_decF ?vv ?_); (case vv => decide +kernel)))
local macro_rules | `(tactic| walk_at "tz") => `(tactic| (intro S z; (repeat walk_at "w"); exact z))
local macro_rules | `(tactic| walk_at "wf") => `(tactic| first
  | walk_at "wd"
  | ((with_reducible refine' w_decF ?vv ?_); (case vv => with_reducible assumption)))
def spLP (K : PySem.W.Frag) : Sp := fun vs H Q _ => ∃ (v : V) (ss : List SetE), vs = [v] ∧ Dp K H v (setsD ss) ∧ ss.length ≤ 4 ∧ (∀ x ∈ ss, OkS 4 x) ∧ ∀ t l r H', H' t = some (.tup [.ref l, .ref r]) → PL K H' l (proots ss []).2 → PL K H' r (proots ss []).1 → H l = none → H r = none → Same H H' → l ≠ r → Q (.ref t) H'
theorem len_law_parts {K : PySem.W.Frag} {vs H Q E} (h : spLP K vs H Q E) : vs.length = 1 := by obtain ⟨_, _, rfl, _⟩ := h; rfl
theorem set_d' {K : PySem.W.Frag} {H : Hp} {v : V} {ss : List SetE} (h : Dp K H v (setsD ss)) : ∃ p xs, v = .ref p ∧ SqT K H p xs ∧ DpAll K H xs (ss.map SetE.d) := dp_tup h
section
variable {P : Program} {w : World} {K : PySem.W.Frag} {mg : Str → Option Value}
theorem ok_law_parts [c : Facts K mg] (G__law_part : Fn P w K mg "_law_part" 5 ["e", "parts"] ((spPart K 4))) : Fn P w K mg "_law_parts" 6 ["sets"] ((spLP K)) := by
  obtain ⟨fd, F⟩ := c.d_law_parts
  refine Fn.mk' F c.g_law_parts sc_law_parts (k := 5) (fun vs H Q E h => ?_) (fun _ _ _ _ _ _ us hl => match us, hl with | [_], _ => rfl) (fun base cdv A outer s H vs Q E hr h => ?_)
  · exact len_law_parts h
  · have nd := sc_law_parts.nd
    have hu := hu_of hr
    have hr__law_part : Room 5 _ := hr.mono (by omega)
    refine ⟨_, (pss_cons (ps_set (i := 1) nd rfl (Or.inl rfl) (pe_lst pa_nil))
      (pss_cons (ps_set (i := 2) nd rfl (Or.inl rfl) (pe_lst pa_nil))
      (pss_cons (ps_for PassesOwn.never rfl (pi_tup (pv 0)) (pg_name (i := 3) nd rfl (Or.inl rfl)) (pss_one (ps_if (pt_cmpR (op_eqA (K := K) rfl hr.units) (pe_ix (ix_any (K := K) rfl) (pv 3) pe_int (fun _ _ => rfl)) pe_str (nomark _)) (pss_cons (ps_set (i := 4) nd rfl (Or.inl rfl) (pe_fn G__law_part hr__law_part (by rfl) (pa_cons (pe_ix (ix_any (K := K) rfl) (pv 3) pe_int (fun _ _ => rfl)) (pa_cons (pv 1) pa_nil))))
      (pss_one (ps_expr (pe_bm PySem.F.plainAttrs_list PySem.F.slot_list_append PySem.F.type_list_append mt_append (pv 2) (pa_cons (pe_tup (pa_cons (pv 4) (pa_cons (pe_fn G__law_part hr__law_part (by rfl) (pa_cons (pe_ix (ix_any (K := K) rfl) (pv 3) pe_int (fun _ _ => rfl)) (pa_cons (pv 1) pa_nil))) pa_nil))) pa_nil))))) (pss_one (ps_expr (pe_bm PySem.F.plainAttrs_list PySem.F.slot_list_append PySem.F.type_list_append mt_append (pv 2) (pa_cons (pe_tup (pa_cons (pe_fn G__law_part hr__law_part (by rfl) (pa_cons (pe_ix (ix_any (K := K) rfl) (pv 3) pe_int (fun _ _ => rfl)) (pa_cons (pv 1) pa_nil))) pa_nil)) pa_nil)))))))
      (pss_one (ps_ret (pe_tup (pa_cons (pv 1) (pa_cons (pv 2) pa_nil)))))))), ?_⟩
    try dsimp only [cxOf, Cx.nox, Cx.wish]
    obtain ⟨v, ss, rfl, hv, hl, ho, q⟩ := h
    obtain ⟨a, xs, rfl, ha, hxs⟩ := set_d' hv
    have hxl : xs.length = ss.length := by rw [dpa_len hxs, List.length_map]
    repeat walk_at "w"
    refine w_new fun l H2 nl0 s02 fl => ?_
    repeat walk_at "w"
    refine w_new fun r H3 n3 s3 f3 => ?_
    have s03 : Same H H3 := s02.trans s3
    have nr0 : H r = none := s02.free n3
    have nrl : r ≠ l := fun z => by rw [z, fl] at n3; cases n3
    repeat walk_at "w"
    refine fl_tup xs (fun i σ H' => ∃ o f, σ = [some (.ref a), some (.ref l), some (.ref r), o, f] ∧ PL K H' l (proots (ss.take i) []).2 ∧ PL K H' r (proots (ss.take i) []).1 ∧ Same H H') (s03.sqT ha)
      ⟨_, _, rfl, (PL.new fl).same s3, PL.new f3, s03⟩ (fun i σ H' hi hp => ?_) (fun i x σ H' hi hp => ?_) (fun σ H' hp => ?_)
    · obtain ⟨o, f, rfl, _, _, sm⟩ := hp
      exact sm.sqT ha
    · obtain ⟨o, f, rfl, hP, hR, sm⟩ := hp
      have hi' : i < ss.length := by have := (List.getElem?_eq_some_iff.mp hi).1; omega
      obtain ⟨s, hs⟩ : ∃ s, ss[i]? = some s := ⟨_, List.getElem?_eq_getElem hi'⟩
      have os := ho s (List.mem_of_getElem? hs)
      have hx : Dp K H' x s.d := by
        obtain ⟨d, hd1, hd2⟩ := dpa_at' (dpAll_ts (TS.of sm) _ _ (setsD_tup ss) hxs) hi
        rw [List.getElem?_map, hs] at hd1
        cases Option.some.inj hd1
        exact hd2
      obtain ⟨ys, hy, hyd, hyr⟩ := id hR
      have ln := proots_len (ss.take i) [] (fun x hx => ho x (List.mem_of_mem_take hx))
      have lt : (ss.take i).length ≤ 4 := by rw [List.length_take]; omega
      have hyl : ys.length ≤ 4 := by rw [hR.len hy, ln.2]; exact lt
      have lp : (proots (ss.take i) []).2.length ≤ 120 := by have := ln.1; rw [List.length_nil] at this; omega
      rw [take_snoc hs, proots_snoc]
      cases s with
      | cell e1 e2 =>
        have c1 := cnt4 os.1 (Nat.le_refl 4)
        have c2 := cnt4 os.2 (Nat.le_refl 4)
        have i1 := e1.part_ok os.1.2 hP.choose_spec.2.2
        have i2 := e2.part_ok os.2.2 i1.2
        obtain ⟨p, u, u2, rfl, hp, hu', hu2⟩ := exp_2 hx
        repeat walk_at "wf"
        refine ⟨u, l, e1, _, rfl, hu', os.1, hP, by omega, fun v1 H4 hv1 hP4 e4 => ?_⟩
        have t4 := hP.tsB e4
        have hp4 := t4.sqT hp
        have hR4 := hR.but hP nrl e4
        have hy4 := e4 _ _ nrl hy
        repeat walk_at "w"
        refine ⟨u2, l, e2, _, rfl, dp_ts t4 _ _ e2.tup hu2, os.2, hP4, by rw [e1.part_len]; omega, fun v2 H5 hv2 hP5 e5 => ?_⟩
        have t5 := hP4.tsB e5
        have hR5 := hR4.but hP4 nrl e5
        have hy5 := e5 _ _ nrl hy4
        repeat walk_at "w"
        refine w_new fun t6 H6 n6 s6 f6 => ?_
        repeat walk_at "w"
        refine w_chg fun H7 e7 f7 => ?_
        repeat walk_at "w"
        have rw5 : Row (.tuple (J.parts (SetE.cell e1 e2).rests (proots (ss.take i) []).2).1) := ⟨_, rfl, fun x hx => by
          simp only [SetE.rests, J.parts, List.mem_cons, List.mem_nil_iff, or_false] at hx
          rcases hx with rfl | rfl
          · exact i1.1
          · exact i2.1⟩
        have z := PL.snoc (hR5.same s6) (s6 _ _ hy5) e7 f7 (.tup (SqT.of f6) (.cons (i1.1.ts (t5.trans (TS.of s6)) hv1) (.cons (i2.1.ts (TS.of s6) hv2) .nil))) rw5
        exact ⟨_, _, rfl, (hP5.same s6).but (hR5.same s6) nrl.symm e7, z.1, But.new ((But.new sm nl0 (e4.trans e5)).trans s6) nr0 e7⟩
      | sel m k j e1 =>
        have nc : (if m then ("mark" : Str) else "place") ≠ "cell" := by cases m <;> decide +kernel
        have c1 := cnt4 os.2 (Nat.le_refl 4)
        have i1 := e1.part_ok os.2.2 hP.choose_spec.2.2
        obtain ⟨p, u, u2, rfl, hp, hu', hu2⟩ := exp_2 hx
        repeat walk_at "wf"
        refine ⟨u2, l, e1, _, rfl, hu2, os.2, hP, by omega, fun v1 H4 hv1 hP4 e4 => ?_⟩
        have t4 := hP.tsB e4
        have hR4 := hR.but hP nrl e4
        have hy4 := e4 _ _ nrl hy
        repeat walk_at "w"
        refine w_new fun t6 H6 n6 s6 f6 => ?_
        repeat walk_at "w"
        refine w_chg fun H7 e7 f7 => ?_
        repeat walk_at "w"
        have rw5 : Row (.tuple (J.parts (SetE.sel m k j e1).rests (proots (ss.take i) []).2).1) := ⟨_, rfl, fun x hx => by
          simp only [SetE.rests, J.parts, List.mem_cons, List.mem_nil_iff, or_false] at hx
          rw [hx]; exact i1.1⟩
        have z := PL.snoc (hR4.same s6) (s6 _ _ hy4) e7 f7 (.tup (SqT.of f6) (.cons (i1.1.ts (TS.of s6) hv1) .nil)) rw5
        exact ⟨_, _, rfl, (hP4.same s6).but (hR4.same s6) nrl.symm e7, z.1, But.new ((But.new sm nl0 e4).trans s6) nr0 e7⟩
    · obtain ⟨o, f, rfl, hP, hR, sm⟩ := hp
      rw [hxl, List.take_length] at hP hR
      repeat walk_at "w"
      refine w_new fun t H4 n4 s4 f4 => ?_
      exact q t l r H4 f4 (hP.same s4) (hR.same s4) nl0 nr0 (sm.trans s4) nrl.symm
end

end J
namespace J
open PySem PySem.Spec PyProof.Rows L2
local macro_rules | `(tactic| walk_at "cls") => `(tactic| first
  | with_reducible exact Facts.cl_Parts)
local macro_rules | `(tactic| walk_at "na") => `(tactic| first
  | with_reducible exact Facts.na_Parts_rows)
local macro_rules | `(tactic| walk_at "ty") => `(tactic| first
  | with_reducible exact ty_int
  | with_reducible exact ty_bl
  | with_reducible exact ty_str
  | with_reducible exact ty_non
  | ((with_reducible refine' ty_lst ?vv); (case vv => walk_at "tr"))
  | ((with_reducible refine' ty_sqT ?vv); (case vv => walk_at "tr"))
  | ((with_reducible refine' ty_dic ?vv); (case vv => walk_at "tr")))
local macro_rules | `(tactic| walk_at "ix") => `(tactic| first | exact at0 | exact at1 | exact at2 | assumption)
local macro_rules | `(tactic| walk_at "size") => `(tactic| first
  | assumption
  | (show _ < sizeLine; rw [sizeLine_eq]; (try simp only [List.length_cons, List.length_nil, List.length_append, List.length_map]); omega)
  | (show _ ≤ sizeLine; rw [sizeLine_eq]; (try simp only [List.length_cons, List.length_nil, List.length_append, List.length_map]); omega))
local macro_rules | `(tactic| walk_at "side") => `(tactic| first
  | assumption
  | ((with_reducible refine cdw ?_ ?_) <;> omega)
  | omega
  | (exact ⟨by omega, by omega⟩)
  | (exact Or.inl ⟨by omega, by omega⟩)
  | (exact Or.inr ⟨by omega, by omega⟩)
  | decide
  | (simp only [List.length_cons, List.length_nil, List.length_append, List.length_map]; omega)
  | (show _ ≤ _; decide))
local macro_rules | `(tactic| walk_at "as") => `(tactic| with_reducible assumption)
local macro_rules | `(tactic| walk_at "tr") => `(tactic| first
  | with_reducible assumption
  | with_reducible exact upd_same
  | ((with_reducible refine' SqL.of ?hh); (case hh => walk_at "as"))
  | ((with_reducible refine' SqT.of ?hh); (case hh => walk_at "as"))
  | ((with_reducible refine' Same.stm ?ee ?gg); (case ee => walk_at "as"); (case gg => walk_at "tr"))
  | ((with_reducible refine' Same.sqT ?ee ?gg); (case ee => walk_at "as"); (case gg => walk_at "tr"))
  | ((with_reducible refine' Same.sqL ?ee ?gg); (case ee => walk_at "as"); (case gg => walk_at "tr"))
  | ((with_reducible refine' Same.at ?ee ?gg); (case ee => walk_at "as"); (case gg => walk_at "tr"))
  | ((with_reducible refine' But.stm ?ee ?ff ?gg); (case ee => walk_at "as"); (case ff => walk_at "ne"); (case gg => walk_at "tr"))
  | ((with_reducible refine' But.tup ?ee ?ff ?gg); (case ee => walk_at "as"); (case ff => walk_at "tr1"); (case gg => walk_at "tr"))
  | ((with_reducible refine' But.sqT ?ee ?ff ?gg); (case ee => walk_at "as"); (case ff => walk_at "tr1"); (case gg => walk_at "tr"))
  | ((with_reducible refine' But.tupL ?ee ?ff ?gg); (case ee => walk_at "as"); (case ff => walk_at "tr1"); (case gg => walk_at "tr"))
  | ((with_reducible refine' But.sqTL ?ee ?ff ?gg); (case ee => walk_at "as"); (case ff => walk_at "tr1"); (case gg => walk_at "tr"))
  | ((with_reducible refine' But.sqL ?ee ?ff ?gg); (case ee => walk_at "as"); (case ff => walk_at "ne"); (case gg => walk_at "tr"))
  | ((with_reducible refine' But.at ?ee ?ff ?gg); (case ee => walk_at "as"); (case ff => walk_at "ne"); (case gg => walk_at "tr")))
local macro_rules | `(tactic| walk_at "ts") => `(tactic| first
  | with_reducible assumption
  | with_reducible exact TS.refl _
  | ((with_reducible refine' TS.trans ?gg (TS.of ?ee)); (case ee => walk_at "as"); (case gg => walk_at "ts"))
  | ((with_reducible refine' TS.trans ?gg (TS.butS ?ee ?ff)); (case ee => walk_at "as"); (case ff => walk_at "tr1"); (case gg => walk_at "ts"))
  | ((with_reducible refine' TS.trans ?gg (TS.butL ?ee ?ff)); (case ee => walk_at "as"); (case ff => walk_at "tr1"); (case gg => walk_at "ts"))
  | ((with_reducible refine' TS.trans ?gg (TS.butI ?ee ?ff)); (case ee => walk_at "as"); (case ff => walk_at "tr1"); (case gg => walk_at "ts")))
local macro_rules | `(tactic| walk_at "sm") => `(tactic| first
  | with_reducible assumption
  | with_reducible exact Same.refl _
  | ((with_reducible refine' Same.trans ?gg ?ee); (case ee => walk_at "as"); (case gg => walk_at "sm"))
  | ((with_reducible refine' But.new ?gg ?nn ?ee); (case ee => walk_at "as"); (case nn => walk_at "fr"); (case gg => walk_at "sm")))
local macro_rules | `(tactic| walk_at "fr") => `(tactic| first
  | with_reducible assumption
  | ((with_reducible refine' Same.back ?ee ?nn); (case nn => walk_at "as"); (case ee => walk_at "sm"))
  | ((with_reducible refine' But.back ?ee ?ff ?nn); (case nn => walk_at "as"); (case ff => walk_at "ne0"); (case ee => walk_at "bu")))
local macro_rules | `(tactic| walk_at "bu") => `(tactic| first
  | with_reducible assumption
  | with_reducible exact But.refl _ _
  | ((with_reducible refine' But.trans ?gg ?ee); (case ee => walk_at "as"); (case gg => walk_at "bu"))
  | ((with_reducible refine' But.trans ?gg (But.of ?ee)); (case ee => walk_at "as"); (case gg => walk_at "bu"))
  | ((with_reducible refine' But.new2 ?gg ?nn ?ee); (case ee => walk_at "as"); (case nn => walk_at "frB"); (case gg => walk_at "bu")))
local macro_rules | `(tactic| walk_at "frB") => `(tactic| first
  | with_reducible assumption
  | ((with_reducible refine' Same.back ?ee ?nn); (case nn => walk_at "as"); (case ee => walk_at "sm"))
  | ((with_reducible refine' But.back' ?ee ?ff ?nn); (case nn => walk_at "as"); (case ee => walk_at "bu"); (case ff => walk_at "tr1")))
local macro_rules | `(tactic| walk_at "tr1") => `(tactic| first
  | with_reducible assumption
  | ((with_reducible refine' Same.stm ?ee ?gg); (case ee => walk_at "as"); (case gg => walk_at "tr1"))
  | ((with_reducible refine' Same.at ?ee ?gg); (case ee => walk_at "as"); (case gg => walk_at "tr1"))
  | ((with_reducible refine' But.at ?ee ?ff ?gg); (case ee => walk_at "as"); (case ff => walk_at "ne0"); (case gg => walk_at "tr1"))
  | ((with_reducible refine' But.stm ?ee ?ff ?gg); (case ee => walk_at "as"); (case ff => walk_at "ne0"); (case gg => walk_at "tr1")))
local macro_rules | `(tactic| walk_at "ne0") => `(tactic| first
  | with_reducible assumption
  | (with_reducible apply Ne.symm; with_reducible assumption))
local macro_rules | `(tactic| walk_at "ne") => `(tactic| first
  | with_reducible assumption
  | (with_reducible apply Ne.symm; with_reducible assumption)
  | ((with_reducible refine' stm_ne ?hh ?nn); (case nn => walk_at "as"); (case hh => walk_at "tr1"))
  | ((with_reducible refine' ne_of_none ?hh ?nn); (case nn => walk_at "as"); (case hh => walk_at "tr1"))
  | ((with_reducible apply Ne.symm); (with_reducible refine' ne_of_none ?hh ?nn); (case nn => walk_at "as"); (case hh => walk_at "tr1")))
local macro_rules | `(tactic| walk_at "v") => `(tactic| first
  | with_reducible refine w_seq ?_
  | ((with_reducible refine' w_var ?vv ?_); (case vv => exact rfl))
  | with_reducible refine w_c ?_
  | with_reducible refine w_op ?_
  | with_reducible refine w_asg ?_
  | with_reducible refine w_gName ?_
  | with_reducible refine w_ret ?_
  | with_reducible refine w_ifS ?_
  | with_reducible refine w_drop ?_
  | with_reducible refine w_next ?_
  | with_reducible refine w_cons ?_
  | with_reducible refine w_nil ?_
  | with_reducible refine w_call ?_
  | with_reducible refine w_cb ?_
  | with_reducible refine w_rI0 ?_
  | with_reducible refine w_addI ?_
  | with_reducible refine w_eqI ?_
  | with_reducible refine w_neI ?_
  | with_reducible refine w_eqS ?_
  | with_reducible refine w_neS ?_
  | with_reducible refine w_eqB ?_
  | with_reducible refine w_neB ?_
  | with_reducible refine w_chain ?_
  | with_reducible refine w_test ?_
  | with_reducible refine w_tB ?_
  | with_reducible refine w_bl ?_
  | ((with_reducible refine' w_mulI ?vv ?_); (case vv => walk_at "side"))
  | ((with_reducible refine' w_rI ?vv ?_); (case vv => walk_at "side"))
  | with_reducible refine w_int1 ?_
  | with_reducible refine w_int1b ?_
  | with_reducible refine w_tup ?_
  | with_reducible refine w_lst ?_
  | with_reducible refine w_un ?_
  | with_reducible refine w_rU ?_
  | with_reducible refine w_not ?_
  | with_reducible refine w_notV ?_
  | with_reducible refine w_ifE ?_
  | with_reducible refine w_nT ?_
  | with_reducible refine w_nF ?_
  | with_reducible refine iteT ?_
  | with_reducible refine iteF ?_
  | ((with_reducible refine' w_ixT ?vv ?ww ?_); (case vv => walk_at "tr"); (case ww => walk_at "ix"))
  | ((with_reducible refine' w_ixL ?vv ?ww ?_); (case vv => walk_at "tr"); (case ww => walk_at "ix"))
  | with_reducible refine w_gSub ?_
  | ((with_reducible refine' w_setL ?vv ?ww ?_); (case vv => walk_at "tr"); (case ww => first | rfl | decide | assumption))
  | ((with_reducible refine' w_lenL ?vv ?_); (case vv => walk_at "tr"))
  | ((with_reducible refine' w_lenT ?vv ?_); (case vv => walk_at "tr"))
  | with_reducible refine w_max2 ?_
  | with_reducible refine w_min2 ?_
  | with_reducible refine w_bm ?_
  | with_reducible refine w_bm0 ?_
  | ((with_reducible refine' w_tyL ?vv ?_); (case vv => walk_at "tr"))
  | ((with_reducible refine' w_append ?vv ?ww ?_); (case vv => walk_at "tr"); (case ww => walk_at "size"))
  | ((with_reducible refine' w_size ?vv ?_); (case vv => walk_at "size"))
  | with_reducible refine w_forL ?_
  | with_reducible refine w_forT ?_
  | with_reducible refine w_forR1 ?_
  | with_reducible refine w_forR2 ?_
  | with_reducible refine w_lcL ?_
  | with_reducible refine w_lcT ?_
  | with_reducible refine w_lcR1 ?_
  | with_reducible refine w_yes ?_
  | with_reducible refine w_sl ?_
  | with_reducible refine w_noPart ?_
  | with_reducible refine w_part ?_
  | with_reducible refine w_int ?_
  | ((with_reducible refine' w_slL ?vv ?_); (case vv => walk_at "tr"))
  | ((with_reducible refine' w_seqL ?vv ?ww ?_); (case vv => walk_at "tr"); (case ww => rfl))
  | ((with_reducible refine' w_seqT ?vv ?ww ?_); (case vv => walk_at "tr"); (case ww => rfl))
  | with_reducible refine w_gNil ?_
  | with_reducible refine w_gCons ?_
  | with_reducible refine w_forZ ?_
  | with_reducible refine w_forE ?_
  | with_reducible refine w_forV ?_
  | with_reducible refine w_lcZ ?_
  | with_reducible refine w_lcE ?_
  | ((with_reducible refine' w_isi (b := true) ?vv ?ww ?_); (case vv => walk_at "ty"); (case ww => decide +kernel))
  | ((with_reducible refine' w_isi (b := false) ?vv ?ww ?_); (case vv => walk_at "ty"); (case ww => decide +kernel))
  | with_reducible refine w_revL ?_
  | with_reducible refine w_pairN ?_
  | with_reducible refine w_pairC ?_
  | with_reducible refine w_dget ?_
  | with_reducible refine w_met ?_
  | ((with_reducible refine' w_metAt ?vv ?ww ?_); (case vv => walk_at "tr"); (case ww => rfl))
  | with_reducible refine w_mkI ?_
  | with_reducible refine w_fld ?_
  | ((with_reducible refine' w_fldAt ?vv ?cc ?nn ?ww ?_); (case vv => walk_at "tr"); (case cc => walk_at "cls"); (case nn => walk_at "na"); (case ww => rfl))
  | with_reducible refine w_sfld ?_
  | ((with_reducible refine' w_sfldAt ?vv ?cc ?nn ?ll ?ee ?_); (case vv => walk_at "tr"); (case cc => walk_at "cls"); (case nn => walk_at "na"); (case ll => simp); (case ee => rfl))
  | ((with_reducible refine' w_tupL ?vv ?_); (case vv => walk_at "tr"))
  | ((with_reducible refine' w_tupT ?vv ?_); (case vv => walk_at "tr"))
  | ((with_reducible refine' w_listL ?vv ?_); (case vv => walk_at "tr"))
  | ((with_reducible refine' w_listT ?vv ?_); (case vv => walk_at "tr"))
  | with_reducible refine w_tyS ?_
  | with_reducible refine w_retN ?_
  | with_reducible refine w_break ?_
  | with_reducible refine w_cont ?_)
local macro_rules | `(tactic| walk_at "w") => `(tactic| first
  | walk_at "v"
  | with_reducible refine w_or ?_
  | with_reducible refine w_and ?_
  | with_reducible refine w_andV ?_
  | with_reducible refine w_orV ?_)
local macro_rules | `(tactic| walk_at "wd") => `(tactic| first
  | walk_at "w"
  | ((with_reducible refine' w_decT ?vv ?_); (case vv => decide +kernel))
  | ((with_reducible refine' w_decF ?vv ?_); (case vv => decide +kernel)))
local macro_rules | `(tactic| walk_at "tz") => `(tactic| (intro S z; (repeat walk_at "w"); exact z))
local macro_rules | `(tactic| walk_at "wf") => `(tactic| first
  | walk_at "wd"
  | ((with_reducible refine' w_decF ?vv ?_); (case vv => with_reducible assumption)))
def spIs (K : PySem.W.Frag) : Sp := fun vs H Q _ => ∃ (f g : Addr) (ds : List PyData), vs = [.ref f, .ref g] ∧ PL K H f ds ∧ PL K H g ds ∧ ∀ H', Same H H' → Q (.bl true) H'
theorem len_law_is {K : PySem.W.Frag} {vs H Q E} (h : spIs K vs H Q E) : vs.length = 2 := by obtain ⟨_, _, _, rfl, _⟩ := h; rfl
section
variable {P : Program} {w : World} {K : PySem.W.Frag} {mg : Str → Option Value}
theorem ok_law_is [c : Facts K mg] : Fn P w K mg "_law_is" 1 ["found", "due"] ((spIs K)) := by
  obtain ⟨fd, F⟩ := c.d_law_is
  refine Fn.mk' F c.g_law_is sc_law_is (k := 0) (fun vs H Q E h => ?_) (fun _ _ _ _ _ _ us hl => match us, hl with | [_, _], _ => rfl) (fun base cdv A outer s H vs Q E hr h => ?_)
  · exact len_law_is h
  · have nd := sc_law_is.nd
    have hu := hu_of hr
    refine ⟨_, (pss_cons (ps_if (PW.pt (pw_or (pt_not (pt_val (pe_callB (call_isiA (K := K) rfl) (by rfl) c.f_isinstance boot_isinstance (pa_cons (pv 0) (pa_cons (pe_bltn (v := .ty "list") (by rfl) c.f_list boot_list rfl) pa_nil))))) (pw_or1 (pt_cmpR (op_neA (K := K) rfl hr.units) (pv 0) (pv 1) (nomark _))))) (pss_one (ps_ret pe_bl)) pss_nil)
      (pss_cons (ps_for PassesOwn.never rfl (pi_list (pv 0)) (pg_name (i := 2) nd rfl (Or.inl rfl)) (pss_cons (ps_if (pt_not (pt_val (pe_callB (call_isiA (K := K) rfl) (by rfl) c.f_isinstance boot_isinstance (pa_cons (pv 2) (pa_cons (pe_bltn (v := .ty "tuple") (by rfl) c.f_tuple boot_tuple rfl) pa_nil))))) (pss_one (ps_ret pe_bl)) pss_nil)
      (pss_one (ps_for PassesOwn.never rfl (pi_tup (pv 2)) (pg_name (i := 3) nd rfl (Or.inl rfl)) (pss_one (ps_if (PW.pt (pw_or (pt_val (pe_callB (call_isiA (K := K) rfl) (by rfl) c.f_isinstance boot_isinstance (pa_cons (pv 3) (pa_cons (pe_bltn (v := .ty "bool") (by rfl) c.f_bool boot_bool rfl) pa_nil)))) (pw_or1 (pt_not (pt_val (pe_callB (call_isiTA (K := K) rfl) (by rfl) c.f_isinstance boot_isinstance (pa_cons (pv 3) (pa_cons (pe_tup (pa_cons (pe_bltn (v := .ty "int") (by rfl) c.f_int boot_int rfl) (pa_cons (pe_bltn (v := .ty "str") (by rfl) c.f_str boot_str rfl) (pa_cons (pe_bltn (v := .ty "tuple") (by rfl) c.f_tuple boot_tuple rfl) pa_nil)))) pa_nil)))))))) (pss_one (ps_ret pe_bl)) pss_nil))))))
      (pss_one (ps_ret pe_bl)))), ?_⟩
    try dsimp only [cxOf, Cx.nox, Cx.wish]
    obtain ⟨f, g, ds, rfl, hf, hg, q⟩ := h
    obtain ⟨xs, hx, hd, hr'⟩ := id hf
    obtain ⟨ys, hy, hd2, _⟩ := id hg
    have hxl : xs.length = ds.length := dpa_len hd
    repeat walk_at "w"
    refine w_neP (.lst (SqL.of hx) hd) (.lst (SqL.of hy) hd2) hr'.cmp hr'.cmp fun b hb => ?_
    have hbf : b = false := by
      cases b with
      | false => rfl
      | true => exact (hb.mp rfl rfl).elim
    subst hbf
    repeat walk_at "w"
    refine fl_list xs (fun i σ H' => Same H H' ∧ ∃ r o, σ = [some (.ref f), some (.ref g), r, o]) (SqL.of hx) ⟨Same.refl _, _, _, rfl⟩ (fun i σ H' hi hp => hp.1.sqL (SqL.of hx)) (fun i x σ H' hi hp => ?_) (fun σ H' hp => ?_)
    · obtain ⟨sm, r, o, rfl⟩ := hp
      obtain ⟨d, hd1, hdd⟩ := dpa_at' hd hi
      obtain ⟨is, rfl, hit⟩ := hr' d (List.mem_of_getElem? hd1)
      obtain ⟨p, us, rfl, hp, hus⟩ := dp_tup hdd
      have hp' := sm.sqT hp
      repeat walk_at "w"
      refine fl_tup us (fun i σ H' => Same H H' ∧ ∃ r o, σ = [some (.ref f), some (.ref g), r, o]) hp' ⟨sm, _, _, rfl⟩ (fun i σ H' hi hq => hq.1.sqT hp) (fun i x σ H'' hi hq => ?_) (fun σ H'' hq => hq)
      obtain ⟨sm2, r, o, rfl⟩ := hq
      obtain ⟨d2, hd3, hx3⟩ := dpa_at' hus hi
      have it := hit d2 (List.mem_of_getElem? hd3)
      have hx4 := it.ts (TS.of sm2) hx3
      cases it with
      | int n =>
        cases dp_int hx4
        repeat walk_at "w"
        refine w_new fun t H5 n5 s5 f5 => ?_
        repeat walk_at "w"
        refine w_isiT (b := true) ["int", "str", "tuple"] f5 ty_int (by decide +kernel) ?_
        repeat walk_at "w"
        exact ⟨sm2.trans s5, _, _, rfl⟩
      | str hs =>
        cases dp_str hx4
        repeat walk_at "w"
        refine w_new fun t H5 n5 s5 f5 => ?_
        repeat walk_at "w"
        refine w_isiT (b := true) ["int", "str", "tuple"] f5 ty_str (by decide +kernel) ?_
        repeat walk_at "w"
        exact ⟨sm2.trans s5, _, _, rfl⟩
      | pair hs n =>
        obtain ⟨p2, us2, rfl, hp2, _⟩ := dp_tup hx4
        repeat walk_at "w"
        refine w_new fun t H5 n5 s5 f5 => ?_
        repeat walk_at "w"
        refine w_isiT (b := true) ["int", "str", "tuple"] f5 (ty_sqT (s5.sqT hp2)) (by decide +kernel) ?_
        repeat walk_at "w"
        exact ⟨sm2.trans s5, _, _, rfl⟩
    · obtain ⟨sm, r, o, rfl⟩ := hp
      repeat walk_at "w"
      exact q _ sm
theorem ok_law [c : Facts K mg] (G__law_cell : Fn P w K mg "_law_cell" 1 ["script", "k"] ((spCell K))) (G__law_is : Fn P w K mg "_law_is" 1 ["found", "due"] ((spIs K))) (G__law_parts : Fn P w K mg "_law_parts" 6 ["sets"] ((spLP K))) (G__law_sets : Fn P w K mg "_law_sets" 7 ["stream"] ((spSets K))) (G__law_stream : Fn P w K mg "_law_stream" 1 ["cell"] (spStream)) (G_parts_of : Fn P w K mg "parts_of" 7 ["sets"] ((spPof K))) (G_roots_of : Fn P w K mg "roots_of" 7 ["sets"] ((spRof K))) : Fn P w K mg "law" 9 ["script"] ((spLaw K)) := by
  obtain ⟨fd, F⟩ := c.d_law
  refine Fn.mk' F c.g_law sc_law (k := 8) (fun vs H Q E h => ?_) (fun _ _ _ _ _ _ us hl => match us, hl with | [_], _ => rfl) (fun base cdv A outer s H vs Q E hr h => ?_)
  · exact len_law h
  · have nd := sc_law.nd
    have hu := hu_of hr
    have hr__law_cell : Room 1 _ := hr.mono (by omega)
    have hr__law_is : Room 1 _ := hr.mono (by omega)
    have hr__law_parts : Room 6 _ := hr.mono (by omega)
    have hr__law_sets : Room 7 _ := hr.mono (by omega)
    have hr__law_stream : Room 1 _ := hr.mono (by omega)
    have hr_parts_of : Room 7 _ := hr.mono (by omega)
    have hr_roots_of : Room 7 _ := hr.mono (by omega)
    refine ⟨_, (pss_cons (ps_for PassesOwn.never rfl (pi_range1 (by rfl) c.f_range (pa_cons (pe_callB (call_max2A rfl) (by rfl) c.f_max boot_max (pa_cons pe_int (pa_cons (pe_callB (call_min2A rfl) (by rfl) c.f_min boot_min (pa_cons (pe_callB (call_lenA (K := K) rfl) (by rfl) c.f_len boot_len (pa_cons (pv 0) pa_nil)) (pa_cons pe_int pa_nil))) pa_nil))) pa_nil)) (pg_name (i := 1) nd rfl (Or.inl rfl)) (pss_cons (ps_set (i := 2) nd rfl (Or.inl rfl) (pe_fn G__law_stream hr__law_stream (by rfl) (pa_cons (pe_fn G__law_cell hr__law_cell (by rfl) (pa_cons (pv 0) (pa_cons (pv 1) pa_nil))) pa_nil)))
      (pss_cons (ps_set (i := 3) nd rfl (Or.inl rfl) (pe_lst (pa_cons (pe_fn G__law_sets hr__law_sets (by rfl) (pa_cons (pv 2) pa_nil)) (pa_cons (pe_fn G__law_sets hr__law_sets (by rfl) (pa_cons (pv 2) pa_nil)) pa_nil))))
      (pss_one (ps_for PassesOwn.never rfl (pi_range1 (by rfl) c.f_range (pa_cons pe_int pa_nil)) (pg_name (i := 4) nd rfl (Or.inl rfl)) (pss_one (ps_for PassesOwn.never rfl (pi_list (pv 3)) (pg_name (i := 5) nd rfl (Or.inl rfl)) (pss_cons (ps_asg (pe_fn G__law_parts hr__law_parts (by rfl) (pa_cons (pv 5) pa_nil)) (pg_seq 2 (K := K) rfl rfl (pgs_cons (pg_name (i := 6) nd rfl (Or.inl rfl)) (pgs_cons (pg_name (i := 7) nd rfl (Or.inl rfl)) pgs_nil))))
      (pss_cons (ps_set (i := 8) nd rfl (Or.inl rfl) (pe_lst (pa_cons (pe_fn G_roots_of hr_roots_of (by rfl) (pa_cons (pv 5) pa_nil)) (pa_cons (pe_fn G_parts_of hr_parts_of (by rfl) (pa_cons (pv 5) pa_nil)) pa_nil))))
      (pss_cons (ps_if (PW.pt (pw_or (pt_not (pt_val (pe_fn G__law_is hr__law_is (by rfl) (pa_cons (pe_ix (ix_any (K := K) rfl) (pv 8) pe_int (fun _ _ => rfl)) (pa_cons (pv 7) pa_nil))))) (pw_or1 (pt_not (pt_val (pe_fn G__law_is hr__law_is (by rfl) (pa_cons (pe_ix (ix_any (K := K) rfl) (pv 8) pe_int (fun _ _ => rfl)) (pa_cons (pv 6) pa_nil)))))))) (pss_one (ps_ret pe_bl)) pss_nil)
      (pss_cons (ps_expr (pe_bm PySem.F.plainAttrs_list PySem.F.slot_list_append PySem.F.type_list_append mt_append (pe_ix (ix_any (K := K) rfl) (pv 8) pe_int (fun _ _ => rfl)) (pa_cons (pe_tup (pa_cons pe_int pa_nil)) pa_nil)))
      (pss_one (ps_expr (pe_bm0 PySem.F.plainAttrs_list PySem.F.slot_list_clear PySem.F.type_list_clear mt_clear (pe_ix (ix_any (K := K) rfl) (pv 8) pe_int (fun _ _ => rfl))))))))))))))))
      (pss_one (ps_ret pe_bl))), ?_⟩
    try dsimp only [cxOf, Cx.nox, Cx.wish]
    obtain ⟨a, ns, rfl, hS, hl, q⟩ := h
    repeat walk_at "w"
    refine fl_rng1 (fun i σ H' => ∃ k s b t x l r f, σ = [some (.ref a), k, s, b, t, x, l, r, f] ∧ Same H H') (by omega) (by omega) ⟨_, _, _, _, _, _, _, _, rfl, Same.refl _⟩ (fun i σ H1 hi hp => ?_) (fun σ H1 hp => ?_)
    · obtain ⟨k, s, b, t, x, l, r, f, rfl, sm⟩ := hp
      repeat walk_at "w"
      refine ⟨a, ns, i, rfl, sm.sqL hS, by omega, fun c => ?_⟩
      repeat walk_at "w"
      refine ⟨c, rfl, fun s H2 s2 n2 hs2 => ?_⟩
      repeat walk_at "w"
      refine ⟨s, rfl, hs2, fun v1 ss1 H3 d1 l1 o1 hs3 e3 => ?_⟩
      repeat walk_at "w"
      refine ⟨s, rfl, hs3, fun v2 ss2 H4 d2 l2 o2 hs4 e4 => ?_⟩
      repeat walk_at "w"
      refine w_new fun p5 H5 n5 s5 f5 => ?_
      have sm5 : Same H H5 := sm.trans ((But.new s2 n2 (e3.trans e4)).trans s5)
      have d1' : Dp K H5 v1 (setsD ss1) := dp_ts ((TS.butS e4 hs3).trans (TS.of s5)) _ _ (by unfold setsD; rw [tupD]; exact setsD_tup ss1) d1
      have d2' : Dp K H5 v2 (setsD ss2) := dp_ts (TS.of s5) _ _ (by unfold setsD; rw [tupD]; exact setsD_tup ss2) d2
      repeat walk_at "w"
      refine fl_rng1 (fun j σ H' => ∃ k t x l r f, σ = [some (.ref a), k, some (.ref s), some (.ref p5), t, x, l, r, f] ∧ Same H5 H') (by omega) (by omega) ⟨_, _, _, _, _, _, rfl, Same.refl _⟩ (fun j σ H6 hj hp => ?_) (fun σ H6 hp => ?_)
      · obtain ⟨k, t, x, l, r, f, rfl, sm6⟩ := hp
        repeat walk_at "w"
        refine fl_list [v1, v2] (fun j σ H' => ∃ k t x l r f, σ = [some (.ref a), k, some (.ref s), some (.ref p5), t, x, l, r, f] ∧ Same H5 H') (SqL.of (sm6 _ _ f5)) ⟨_, _, _, _, _, _, rfl, sm6⟩ (fun j σ H' hj hp => ?_) (fun j v σ H7 hj hp => ?_) (fun σ H' hp => hp)
        · obtain ⟨k, t, x, l, r, f, rfl, sm⟩ := hp
          exact sm.sqL (SqL.of f5)
        · obtain ⟨k, t, x, l, r, f, rfl, sm7⟩ := hp
          obtain ⟨ss, hd, hl', ho⟩ : ∃ ss, Dp K H7 v (setsD ss) ∧ ss.length ≤ 4 ∧ ∀ x ∈ ss, OkS 4 x := by
            have tt : ∀ ss, tupD (setsD ss) = true := fun ss => by unfold setsD; rw [tupD]; exact setsD_tup ss
            have hm := List.mem_of_getElem? hj
            simp only [List.mem_cons, List.mem_nil_iff, or_false] at hm
            rcases hm with rfl | rfl
            · exact ⟨ss1, dp_ts (TS.of sm7) _ _ (tt _) d1', l1, o1⟩
            · exact ⟨ss2, dp_ts (TS.of sm7) _ _ (tt _) d2', l2, o2⟩
          have tt : tupD (setsD ss) = true := by unfold setsD; rw [tupD]; exact setsD_tup ss
          repeat walk_at "w"
          refine ⟨v, ss, rfl, hd, hl', ho, fun tp l r H8 ht hP hR nl nr s8 nlr => ?_⟩
          repeat walk_at "w"
          refine ⟨v, ss, rfl, dp_ts (TS.of s8) _ _ tt hd, hl', ho, fun l2 H9 hR2 nl2 s9 => ?_⟩
          repeat walk_at "w"
          refine ⟨v, ss, rfl, dp_ts (TS.of (s8.trans s9)) _ _ tt hd, hl', ho, fun l3 H10 hP3 nl3 s10 => ?_⟩
          repeat walk_at "w"
          refine w_new fun p11 H11 n11 s11 f11 => ?_
          repeat walk_at "w"
          refine ⟨l2, r, _, rfl, hR2.same (s10.trans s11), hR.same ((s9.trans s10).trans s11), fun H12 s12 => ?_⟩
          repeat walk_at "w"
          refine ⟨l3, l, _, rfl, hP3.same (s11.trans s12), hP.same (((s9.trans s10).trans s11).trans s12), fun H13 s13 => ?_⟩
          have f13 : H13 p11 = some (.lst [.ref l2, .ref l3]) := s13 _ _ (s12 _ _ f11)
          have s913 : Same H9 H13 := s10.trans (s11.trans (s12.trans s13))
          have hR13 := hR2.same s913
          have hP13 := hP3.same (s11.trans (s12.trans s13))
          obtain ⟨xs, hx, _⟩ := id hR13
          obtain ⟨ys, hy, _⟩ := id hP13
          have hxl : xs.length ≤ 4 := by rw [hR13.len hx, (proots_len ss [] ho).2]; exact hl'
          repeat walk_at "w"
          refine w_new fun p14 H14 n14 s14 f14 => ?_
          repeat walk_at "w"
          refine w_chg fun H15 e15 f15 => ?_
          have n32 : l3 ≠ l2 := fun z => by
            obtain ⟨_, g, _⟩ := hR2
            rw [z, g] at nl3; cases nl3
          have hy15 : H15 l3 = some (.lst ys) := e15 _ _ n32 (s14 _ _ hy)
          have f15' : H15 p11 = some (.lst [.ref l2, .ref l3]) := e15 _ _ (ne_of_none (s10 _ _ hR2.choose_spec.1) n11).symm (s14 _ _ f13)
          repeat walk_at "w"
          refine w_clear hy15 ?_
          refine w_chg fun H16 e16 f16 => ?_
          repeat walk_at "w"
          refine ⟨_, _, _, _, _, _, rfl, ?_⟩
          have s79 : Same H7 H9 := s8.trans s9
          have n2 : H7 l2 = none := s8.free nl2
          have n3 : H7 l3 = none := s79.free nl3
          exact sm7.trans (But.new (But.new (s79.trans (s913.trans s14)) n2 e15) n3 e16)
      · obtain ⟨k, t, x, l, r, f, rfl, sm6⟩ := hp
        exact ⟨_, _, _, _, _, _, _, _, rfl, sm5.trans sm6⟩
    · obtain ⟨k, s, b, t, x, l, r, f, rfl, sm⟩ := hp
      repeat walk_at "w"
      exact q _
end

end J
namespace J
open PySem PySem.Spec PyProof.Rows L2
def loose0 : List PySem.Str := ["rests_of", "parts_and_roots", "parts_of", "roots_of", "_law_cell", "_law_stream", "_law_take", "_law_e", "_law_sets", "_law_part", "_law_parts", "_law_is", "Parts"]
def loose : List PySem.Str := loose0
theorem all_ok {P : Program} {w : World} {K : PySem.W.Frag} {mg : Str → Option Value} [c : Facts K mg] : Fn P w K mg "law" 9 ["script"] (spLaw K) := by
  have G__law_cell := ok_law_cell (P := P) (w := w) (K := K)
  have G__law_is := ok_law_is (P := P) (w := w) (K := K)
  have G__law_part := ok_law_part (P := P) (w := w) (K := K) 4
  have G__law_parts := ok_law_parts (P := P) (w := w) (K := K) G__law_part
  have G__law_take := ok_law_take (P := P) (w := w) (K := K)
  have G__law_e := ok_law_e (P := P) (w := w) (K := K) G__law_take 4
  have G__law_sets := ok_law_sets (P := P) (w := w) (K := K) G__law_e G__law_take
  have G__law_stream := ok_law_stream (P := P) (w := w) (K := K)
  have G_rests_of := ok_rests_of (P := P) (w := w) (K := K)
  obtain ⟨fd_Parts___init__, F_Parts___init__⟩ := c.dm_Parts___init__
  have GM_Parts___init__ := ok_Partsu_initu (P := P) (w := w) (K := K) F_Parts___init__
  have GM_Parts_part_in := ok_Parts_part_in (P := P) (w := w) (K := K) 4
  have G_parts_and_roots := ok_parts_and_roots (P := P) (w := w) (K := K) G_rests_of GM_Parts___init__ GM_Parts_part_in
  have G_parts_of := ok_parts_of (P := P) (w := w) (K := K) G_parts_and_roots
  have G_roots_of := ok_roots_of (P := P) (w := w) (K := K) G_parts_and_roots
  have G_law := ok_law (P := P) (w := w) (K := K) G__law_cell G__law_is G__law_parts G__law_sets G__law_stream G_parts_of G_roots_of
  exact G_law
abbrev rowR : PySem.W.OpenRow := PySem.W.OpenLaw.row PySem.Challenge.rw_rowsjoined_k28_parts_and_what_sets_rest
abbrev hk : PySem.W.Hook := He.hookD 4 fa fn
def ob (s : PySem.W.SharedT) : He.AlD := He.obsDG 4 fa fn (HandSHeadRun.getT s)
theorem ob_eq (s : PySem.W.SharedT) : ob s = hk.obs s.abs := He.obsDG_eq (HandSHeadRun.getT_eq s)
theorem run (w : World) : HandSHeadRun.RunEq rowR (PySem.W.view rowR.prog [15]) hk ob 4000 loose w := by
  intro os
  kernel_rfl
theorem heldF {P : Program} {w : World} {K : PySem.W.Frag} {h : Heap} {mg : Str → Option Value} {f : Addr} (X : K.In h) (G : h.Ns mainGlobals mg) (hfa : mg ("law" : Str) = some (.ref f)) (c : He.SaysD fa fn K) :
    ∃ fd : FuncData, (∀ (s : Shared) (v : Value), BindsTo s fd ⟨[v], []⟩ [("script", v)]) ∧ ∀ base : Heap, K.In base → base.Ns mainGlobals mg → FnOk P w K mg base CX0 9 f fd ["script"] (spLaw K) := by
  have C := facts_of X G c
  have e := hfa.symm.trans C.g_law
  cases e
  obtain ⟨fd, h1, _, h3⟩ := (all_ok (P := P) (w := w) (K := K)).ex
  exact ⟨fd, fun s v => h3 s [v] rfl, fun base _ _ => h1 base⟩
end J
open PySem PySem.W PySem.Calls PyProof.Rows
theorem PySem.Challenge.cw_rowsjoined_k28_parts_and_what_sets_rest_holds : PySem.Challenge.rw_rowsjoined_k28_parts_and_what_sets_rest.Holds := by
  w_on; o_law
  refine HandSHeadRun.head_any (r := J.rowR) (q := view J.rowR.prog [15]) (H := J.hk) (ob := J.ob) (M := 4000) (loose := J.loose) (d := HandSHeadRun.topDef J.rowR.prog 15) (kwd := []) J.ob_eq
    (by kernel_rfl) (fun s => by kernel_rfl) J.run (by kernel_rfl) (by kernel_rfl) (by kernel_rfl) (by rfl) (by first | assumption | decide +kernel) (by decide +kernel) ⟨rfl, rfl, rfl, rfl, rfl, by decide +kernel⟩ ?hw ?hc
  case hw => w_witness2
  case hc =>
    refine L2.walk_ofE (l := PySem.Challenge.rw_rowsjoined_k28_parts_and_what_sets_rest) (n := 63) (k := 9) (x := "script") (CX := L2.CX0) rfl (by decide) (by kernel_rfl) ⟨rfl, by decide, by decide⟩ ?F (fun _ _ _ _ z => z)
    intro w mg fa h Y G hmg0
    obtain ⟨K, KX, c⟩ := Y
    have hmg : mg ("law" : PySem.Str) = some (.ref fa) := by
      have e : (HandSHeadRun.topDef J.rowR.prog 15).name = ("law" : PySem.Str) := by kernel_rfl
      rw [← e]
      exact hmg0
    obtain ⟨fd, hb, hF⟩ := J.heldF (P := (PySem.Challenge.rw_rowsjoined_k28_parts_and_what_sets_rest).prog) (w := w) KX G hmg c
    exact ⟨K, fd, _, KX, hb, fun H a ns hl hO hS => J.law_in hl hO hS, hF⟩
