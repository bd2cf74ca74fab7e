import PyProof.Rows.All
import Wide.All
import OpenK.AllK
import Wide.FinOn
import Lean
import HandS.Base
import HandS.Call
import HandS.Ends
import HandS.EndBits
import HandS.List
import HandS.Comp
import HandS.Iter
import HandS.Text
import HandS.Wide
import HandS.Words
import HandS.WordsList
import HandS.Defaults
import HandS.IsInst
import HandS.Rev
import HandS.TupAny
import HandS.TryOnly
import HandS.Zip
import HandS.Walk
import HandS.Style
import HandS.Flow
import HandS.Head0
import HandS.Head1
import HandS.Head2
import HandS.HeadEnd
import HandS.HeadHook1
import HandS.HeadHook2
import HandS.Codes
import HandS.Replace
import HandS.ReplaceLit
import HandS.SortOrd
import HandS.SortRule
import HandS.TupSets
import HandS.SetFor
import HandS.FStr
import HandS.Flt
import HandS.Sort
import HandS.Conv
import HandS.Dict
import HandS.Zip0
import KE.GoesMore
import PySem.Challenge.RW_rowsjoined_k29_needs_and_the_best_order
import HandS.HeadHook4
import HandS.Lambda
import HandS.EndTab
import HandS.Nested
import KE.SortKeyHeap
import KE.KLam
set_option Elab.async false
set_option linter.all false
set_option maxRecDepth 100000
set_option maxHeartbeats 4000000
namespace J
open PySem PySem.Spec PyProof.Rows L2

/-! ### frames -/
def But (s : Addr) (H H' : Hp) : Prop := ∀ b o, b ≠ s → H b = some o → H' b = some o
theorem _root_.L2.Same.one {H : Hp} {p : Addr} {o : HO} (h : H p = none) : Same H (upd H p o) := fun a u e => by
  rw [upd_ne (ne_of_none e h)]; exact e
theorem But.of {s : Addr} {H H' : Hp} (e : Same H H') : But s H H' := fun b o _ h => e b o h
theorem But.refl (s : Addr) (H : Hp) : But s H H := fun _ _ _ h => h
theorem But.trans {s : Addr} {H H1 H2 : Hp} (a : But s H H1) (b : But s H1 H2) : But s H H2 := fun c o n h => b c o n (a c o n h)
theorem But.at {s b : Addr} {H H' : Hp} {o : HO} (e : But s H H') (n : b ≠ s) (h : H b = some o) : H' b = some o := e b o n h
theorem But.upd (s : Addr) (H : Hp) (o : HO) : But s H (upd H s o) := fun b u n h => by rw [upd_ne n]; exact h
/-- all that was there stays, what lies at s was not there -/
theorem But.new {s : Addr} {H H1 H2 : Hp} (e : Same H H1) (n : H s = none) (k : But s H1 H2) : Same H H2 := fun b o h => k b o (ne_of_none h n) (e b o h)

theorem But.new2 {s t : Addr} {H H1 H2 : Hp} (e : But s H H1) (n : H t = none) (k : But t H1 H2) : But s H H2 := fun b o hs h => k b o (ne_of_none h n) (e b o hs h)
theorem But.back {s p : Addr} {H H' : Hp} (e : But s H H') (hp : p ≠ s) (h : H' p = none) : H p = none := by
  cases q : H p with
  | none => rfl
  | some o => rw [e p o hp q] at h; cases h
theorem But.back' {s p : Addr} {H H' : Hp} {o : HO} (e : But s H H') (hs : H' s = some o) (h : H' p = none) : H p = none := e.back (fun z => by rw [z, hs] at h; cases h) h
/-- a stream of draws -/
def Stm (H : Hp) (s : Addr) : Prop := ∃ a b c : Int, H s = some (.lst [.int a, .int b, .int c])
theorem stm_ne {s p : Addr} {H : Hp} (h : Stm H s) (n : H p = none) : p ≠ s := fun q => by
  obtain ⟨_, _, _, g⟩ := h
  rw [← q, n] at g
  cases g
theorem But.tup {s b : Addr} {H H' : Hp} {xs : List V} (e : But s H H') (t : Stm H s) (h : H b = some (.tup xs)) : H' b = some (.tup xs) := by
  obtain ⟨_, _, _, t⟩ := t
  exact e b _ (ne_of h t (by intro q; cases q)) h
theorem But.tupL {s b : Addr} {H H' : Hp} {xs ys : List V} (e : But s H H') (t : H s = some (.lst ys)) (h : H b = some (.tup xs)) : H' b = some (.tup xs) := e b _ (ne_of h t (by intro q; cases q)) h
theorem But.sqTL {K : PySem.W.Frag} {s a : Addr} {H H' : Hp} {xs ys : List V} (e : But s H H') (t : H s = some (.lst ys)) (h : SqT K H a xs) : SqT K H' a xs := by
  rcases h with (h | ⟨o, h⟩) | h
  · exact .inl (.inl (e _ _ (ne_of h t (by intro q; cases q)) h))
  · exact .inl (.inr ⟨o, e _ _ (ne_of h t (by intro q; cases q)) h⟩)
  · exact .inr h
theorem But.stm {s a : Addr} {H H' : Hp} (e : But s H H') (n : a ≠ s) (h : Stm H a) : Stm H' a := by
  obtain ⟨x, y, z, h⟩ := h
  exact ⟨x, y, z, e _ _ n h⟩
theorem _root_.L2.Same.back {H H' : Hp} {p : Addr} (e : Same H H') (h : H' p = none) : H p = none := e.free h
theorem But.frz {s b : Addr} {H H' : Hp} {o : Obj} {u : HO} (e : But s H H') (t : Stm H s) (h : H b = some (.frz o u)) : H' b = some (.frz o u) := by
  obtain ⟨_, _, _, t⟩ := t
  exact e b _ (ne_of h t (by intro q; cases q)) h
theorem But.sqT {K : PySem.W.Frag} {s a : Addr} {H H' : Hp} {xs : List V} (e : But s H H') (t : Stm H s) (h : SqT K H a xs) : SqT K H' a xs := by
  rcases h with (h | ⟨o, h⟩) | h
  · exact .inl (.inl (e.tup t h))
  · exact .inl (.inr ⟨o, e.frz t h⟩)
  · exact .inr h
theorem But.sqL {K : PySem.W.Frag} {s a : Addr} {H H' : Hp} {xs : List V} (e : But s H H') (n : a ≠ s) (h : SqL K H a xs) : SqL K H' a xs := by
  rcases h with (h | ⟨o, h⟩) | h
  · exact .inl (.inl (e a _ n h))
  · exact .inl (.inr ⟨o, e a _ n h⟩)
  · exact .inr h
theorem _root_.L2.Same.sqT {K : PySem.W.Frag} {H H' : Hp} {a : Addr} {xs : List V} (e : Same H H') (h : SqT K H a xs) : SqT K H' a xs := by
  rcases h with (h | ⟨o, h⟩) | h
  · exact .inl (.inl (e _ _ h))
  · exact .inl (.inr ⟨o, e _ _ h⟩)
  · exact .inr h
theorem _root_.L2.Same.sqL {K : PySem.W.Frag} {H H' : Hp} {a : Addr} {xs : List V} (e : Same H H') (h : SqL K H a xs) : SqL K H' a xs := e.seq h
theorem _root_.L2.Same.stm {H H' : Hp} {s : Addr} (e : Same H H') (h : Stm H s) : Stm H' s := by
  obtain ⟨a, b, c, h⟩ := h
  exact ⟨a, b, c, e _ _ h⟩
theorem _root_.L2.Same.at {H H' : Hp} {b : Addr} {o : HO} (e : Same H H') (h : H b = some o) : H' b = some o := e b o h
/-- a list that stands, seen past a list changed elsewhere -/
theorem sqL_upd {K : PySem.W.Frag} {H : Hp} {a p : Addr} {o : HO} {xs : List V} (n : a ≠ p) (h : SqL K H a xs) : SqL K (upd H p o) a xs := by
  rcases h with (h | ⟨u, h⟩) | h
  · exact .inl (.inl (by rw [upd_ne n]; exact h))
  · exact .inl (.inr ⟨u, by rw [upd_ne n]; exact h⟩)
  · exact .inr h
theorem sqT_updL {K : PySem.W.Frag} {H : Hp} {a p : Addr} {o : HO} {xs ys : List V} (hp : H p = some (.lst ys)) (h : SqT K H a xs) : SqT K (upd H p o) a xs := by
  rcases h with (h | ⟨u, h⟩) | h
  · exact .inl (.inl (by rw [upd_ne (ne_of h hp (by intro q; cases q))]; exact h))
  · exact .inl (.inr ⟨u, by rw [upd_ne (ne_of h hp (by intro q; cases q))]; exact h⟩)
  · exact .inr h
theorem stm_upd {H : Hp} {a p : Addr} {o : HO} (n : a ≠ p) (h : Stm H a) : Stm (upd H p o) a := by
  obtain ⟨x, y, z, h⟩ := h
  exact ⟨x, y, z, by rw [upd_ne n]; exact h⟩
theorem at_updL {H : Hp} {a p : Addr} {o u : HO} (n : a ≠ p) (h : H a = some u) : upd H p o a = some u := by rw [upd_ne n]; exact h

/-! ### readings, step by step -/
section
variable {K : PySem.W.Frag} {σ : L2.St} {H : Hp} {i : Nat} {v x y z : V} {ta tb tc te tv : TE} {Q : VK} {nx : L2.St → Hp → Prop} {rt : VK} {bk ct : L2.St → Hp → Prop} {t u : TS} {tt tu : TT}
theorem w_seq (k : t ⟨u ⟨nx, rt, bk, ct⟩, rt, bk, ct⟩ σ H) : tSeq t u ⟨nx, rt, bk, ct⟩ σ H := k
theorem w_asg {g : TG} (k : te σ H fun x H1 => g x σ H1 nx) : tAsg te g ⟨nx, rt, bk, ct⟩ σ H := k
theorem w_gName {R : L2.St → Hp → Prop} (k : R (σ.set i (some v)) H) : gName i v σ H R := k
theorem w_ret (k : te σ H rt) : tRet te ⟨nx, rt, bk, ct⟩ σ H := k
theorem w_retN (k : rt .non H) : tRetN ⟨nx, rt, bk, ct⟩ σ H := k
theorem w_drop (k : te σ H fun _ H1 => nx σ H1) : tDrop te ⟨nx, rt, bk, ct⟩ σ H := k
theorem w_next (k : nx σ H) : tNext ⟨nx, rt, bk, ct⟩ σ H := k
theorem w_break (k : bk σ H) : tBreak ⟨nx, rt, bk, ct⟩ σ H := k
theorem w_cont (k : ct σ H) : tCont ⟨nx, rt, bk, ct⟩ σ H := k
theorem w_ifS (k : tt σ H fun b H1 => if b = true then t ⟨nx, rt, bk, ct⟩ σ H1 else u ⟨nx, rt, bk, ct⟩ σ H1) : tIfS tt t u ⟨nx, rt, bk, ct⟩ σ H := k
theorem w_var (h : σ[i]? = some (some v)) (k : Q v H) : tVar i σ H Q := ⟨v, h, k⟩
theorem w_c (k : Q v H) : tC v σ H Q := k
theorem w_op {r : R2} (k : ta σ H fun x H1 => tb σ H1 fun y H2 => r x y H2 Q) : tOp r ta tb σ H Q := k
theorem w_un {r : V → Hp → VK → Prop} (k : ta σ H fun x H1 => r x H1 Q) : tUn r ta σ H Q := k
theorem w_rU {g : Int → V} {n : Int} (k : Q (g n) H) : rU g (.int n) H Q := ⟨n, rfl, k⟩
theorem w_rI0 {g : Int → Int → V} {m n : Int} (k : Q (g m n) H) : rI0 g (.int m) (.int n) H Q := ⟨m, n, rfl, rfl, k⟩
theorem w_rI {C : Int → Int → Prop} {g : Int → Int → V} {m n : Int} (c : C m n) (k : Q (g m n) H) : rI C g (.int m) (.int n) H Q := ⟨m, n, rfl, rfl, c, k⟩
theorem w_nil {R : List V → Hp → Prop} (k : R [] H) : tNil σ H R := k
theorem w_cons {tr : TA} {R : List V → Hp → Prop} (k : te σ H fun x H1 => tr σ H1 fun xs H2 => R (x :: xs) H2) : tCons te tr σ H R := k
/-- a new object -/
def NewO (o : HO) (H : Hp) (Q : VK) : Prop := ∀ p, H p = none → Q (.ref p) (upd H p o)
theorem w_new {o : HO} (k : ∀ p H', H p = none → Same H H' → H' p = some o → Q (.ref p) H') : NewO o H Q := fun p hp => k p _ hp (Same.one hp) upd_same
/-- an object changed -/
def ChgO (l : Addr) (o : HO) (H : Hp) (R : Hp → Prop) : Prop := R (upd H l o)
theorem w_chg {l : Addr} {o : HO} {R : Hp → Prop} (k : ∀ H', But l H H' → H' l = some o → R H') : ChgO l o H R := k _ (But.upd _ _ _) upd_same
theorem w_tup {tr : TA} (k : tr σ H fun xs H1 => xs.length ≤ sizeLine ∧ NewO (.tup xs) H1 Q) : tTup tr σ H Q := k
theorem w_lst {tr : TA} (k : tr σ H fun xs H1 => xs.length ≤ sizeLine ∧ NewO (.lst xs) H1 Q) : tLst tr σ H Q := k
theorem w_cb {r : List V → Hp → VK → Prop} {tr : TA} (k : tr σ H fun vs H1 => r vs H1 Q) : tCB r tr σ H Q := k
theorem w_call {sp : Sp} {E : XK} {tr : TA} (k : tr σ H fun vs H1 => sp vs H1 Q E) : tCall sp [] E tr σ H Q := by
  show tr σ H fun vs H1 => sp (vs ++ []) H1 Q E
  simp only [List.append_nil]
  exact k
theorem w_chain {r r' : R2} (k : ta σ H fun x H1 => tb σ H1 fun y H2 => r x y H2 fun z H3 => ∃ k, z = .bl k ∧ if k = true then tc σ H3 (fun w H4 => r' y w H4 Q) else Q (.bl false) H3) : tChain r r' ta tb tc σ H Q := k
theorem w_test {R : Bool → Hp → Prop} (k : te σ H fun x H' => ∃ b, x = .bl b ∧ R b H') : tTest te σ H R := k
theorem w_tB {R : Bool → Hp → Prop} (k : te σ H fun x H' => ∃ b, x = .bl b ∧ R b H') : tB te σ H R := k
theorem w_bl {b : Bool} {R : Bool → Prop} (k : R b) : ∃ c, V.bl b = .bl c ∧ R c := ⟨b, rfl, k⟩
theorem w_and {R : Bool → Hp → Prop} (k : tt σ H fun c H1 => if c = true then tu σ H1 R else R false H1) : tAnd tt tu σ H R := k
theorem w_or {R : Bool → Hp → Prop} (k : tt σ H fun c H1 => if c = true then R true H1 else tu σ H1 R) : tOr tt tu σ H R := k
theorem w_not {R : Bool → Hp → Prop} (k : tt σ H fun c H1 => R (!c) H1) : tNot tt σ H R := k
theorem w_andV (k : ta σ H fun x H1 => ∃ c, x = .bl c ∧ if c = true then tb σ H1 Q else Q (.bl false) H1) : tAndV ta tb σ H Q := k
theorem w_orV (k : ta σ H fun x H1 => ∃ c, x = .bl c ∧ if c = true then Q (.bl true) H1 else tb σ H1 Q) : tOrV ta tb σ H Q := k
theorem w_ifE (k : tt σ H fun c H1 => if c = true then ta σ H1 Q else tb σ H1 Q) : tIf tt ta tb σ H Q := k
theorem w_notV (k : ta σ H fun x H1 => ∃ c, x = .bl c ∧ Q (.bl (!c)) H1) : tNotV ta σ H Q := k

/-- or, and: of two tests that leave the heap -/
theorem w_orP (p q : Prop) [Decidable p] [Decidable q] {R : Bool → Hp → Prop} (ht : ∀ S : Bool → Hp → Prop, S (decide p) H → tt σ H S) (hu : ∀ S : Bool → Hp → Prop, S (decide q) H → tu σ H S) (k : ∀ b : Bool, (b = true ↔ p ∨ q) → R b H) : tOr tt tu σ H R := by
  refine w_or (ht _ ?_)
  by_cases hp : p
  · rw [decide_eq_true hp]; exact iteT (k _ (by simp [hp]))
  · rw [decide_eq_false hp]; exact iteF (hu _ (k _ (by simp [hp])))
theorem w_andP (p q : Prop) [Decidable p] [Decidable q] {R : Bool → Hp → Prop} (ht : ∀ S : Bool → Hp → Prop, S (decide p) H → tt σ H S) (hu : ∀ S : Bool → Hp → Prop, S (decide q) H → tu σ H S) (k : ∀ b : Bool, (b = true ↔ p ∧ q) → R b H) : tAnd tt tu σ H R := by
  refine w_and (ht _ ?_)
  by_cases hp : p
  · rw [decide_eq_true hp]; exact iteT (hu _ (k _ (by simp [hp])))
  · rw [decide_eq_false hp]; exact iteF (k _ (by simp [hp]))
/-- and, or: first what either answer comes to, where Φ of the heap -/
theorem w_andK (Φ : Hp → Prop) {R : Bool → Hp → Prop} (hR : ∀ b H', Φ H' → R b H') (k : (∀ b H', Φ H' → R b H') → tt σ H fun c H1 => if c = true then tu σ H1 R else R false H1) : tAnd tt tu σ H R := k hR
theorem w_andF (Φ : Hp → Prop) {R : Bool → Hp → Prop} (hR : ∀ H', Φ H' → R false H') (k : (∀ H', Φ H' → R false H') → tt σ H fun c H1 => if c = true then tu σ H1 R else R false H1) : tAnd tt tu σ H R := k hR
theorem w_orK (Φ : Hp → Prop) {R : Bool → Hp → Prop} (hR : ∀ b H', Φ H' → R b H') (k : (∀ b H', Φ H' → R b H') → tt σ H fun c H1 => if c = true then R true H1 else tu σ H1 R) : tOr tt tu σ H R := k hR
theorem w_nT {A B : Prop} (k : B) : if (!true) = true then A else B := k
theorem w_nF {A B : Prop} (k : A) : if (!false) = true then A else B := k
theorem w_decT {p A B : Prop} [Decidable p] (h : p) (k : A) : if decide p = true then A else B := by rw [decide_eq_true h]; exact iteT k
theorem w_decF {p A B : Prop} [Decidable p] (h : ¬ p) (k : B) : if decide p = true then A else B := by rw [decide_eq_false h]; exact iteF k
/-! ### operators, together -/
def rAddS : R2 := fun x y H Q => ∃ i j, x = .str i ∧ y = .str j ∧ i.length + j.length ≤ sizeLine ∧ Q (.str (i ++ j)) H
def rAddA (K : PySem.W.Frag) : R2 := fun x y H Q => rI0 (fun i j => .int (i + j)) x y H Q ∨ (rAddS x y H Q ∨ (rCat x y H Q ∨ rCatT K x y H Q))
theorem op_addA {X : Cx} {K : PySem.W.Frag} (hK : X.K = K) : OpR X (binaryOp .Add) (rAddA K) := by
  subst hK
  exact op_add.or (OpR.or (r := rAddS) op_add_str (op_cat.or op_catT))
theorem w_addI {m n : Int} (k : Q (.int (m + n)) H) : rAddA K (.int m) (.int n) H Q := .inl ⟨m, n, rfl, rfl, k⟩
theorem w_addS {a b : Str} (h : a.length + b.length ≤ sizeLine) (k : Q (.str (a ++ b)) H) : rAddA K (.str a) (.str b) H Q := .inr (.inl ⟨a, b, rfl, rfl, h, k⟩)
theorem w_addL {l b : Addr} {xs zs : List V} (h1 : H l = some (.lst xs)) (h2 : H b = some (.lst zs)) (h : xs.length + zs.length ≤ sizeLine) (k : NewO (.lst (xs ++ zs)) H Q) :
    rAddA K (.ref l) (.ref b) H Q := .inr (.inr (.inl ⟨l, b, xs, zs, rfl, rfl, h1, h2, h, k⟩))
def rMulA : R2 := fun x y H Q => rI CMul (fun i j => .int (i * j)) x y H Q ∨ rRep x y H Q
theorem op_mulA {X : Cx} : OpR X (binaryOp .Mult) rMulA := op_mul.or op_rep
theorem w_mulI {m n : Int} (c : CMul m n) (k : Q (.int (m * n)) H) : rMulA (.int m) (.int n) H Q := .inl ⟨m, n, rfl, rfl, c, k⟩
def rEqA (K : PySem.W.Frag) : R2 := fun x y H Q => rEq x y H Q ∨ rEqD K x y H Q
def rNeA (K : PySem.W.Frag) : R2 := fun x y H Q => rNe x y H Q ∨ rNeD K x y H Q
theorem op_eqA {X : Cx} {K : PySem.W.Frag} (hK : X.K = K) (hu : X.A.units + 64 < cLine) : OpR X (compareOp .Eq) (rEqA K) := by
  subst hK
  exact op_eq.or (op_eqD hu)
theorem op_neA {X : Cx} {K : PySem.W.Frag} (hK : X.K = K) (hu : X.A.units + 64 < cLine) : OpR X (compareOp .NotEq) (rNeA K) := by
  subst hK
  exact op_ne.or (op_neD hu)
theorem w_eqI {m n : Int} (k : Q (.bl (decide (m = n))) H) : rEqA K (.int m) (.int n) H Q := .inl ⟨rfl, by rw [show decide (V.int m = V.int n) = decide (m = n) by rw [dec_int]; rfl]; exact k⟩
theorem w_neI {m n : Int} (k : Q (.bl (!decide (m = n))) H) : rNeA K (.int m) (.int n) H Q := .inl ⟨rfl, by rw [show decide (V.int m = V.int n) = decide (m = n) by rw [dec_int]; rfl]; exact k⟩
theorem w_eqS {m n : Str} (k : Q (.bl (decide (m = n))) H) : rEqA K (.str m) (.str n) H Q := .inl ⟨rfl, by rw [dec_str]; exact k⟩
theorem w_neS {m n : Str} (k : Q (.bl (!decide (m = n))) H) : rNeA K (.str m) (.str n) H Q := .inl ⟨rfl, by rw [dec_str]; exact k⟩
theorem w_eqB {m n : Bool} (k : Q (.bl (m == n)) H) : rEqA K (.bl m) (.bl n) H Q := .inl ⟨rfl, by rw [dec_bl]; exact k⟩
theorem w_neB {m n : Bool} (k : Q (.bl (!(m == n))) H) : rNeA K (.bl m) (.bl n) H Q := .inl ⟨rfl, by rw [dec_bl]; exact k⟩
theorem w_eqD {d e : PyData} (hd : Dp K H x d) (he : Dp K H y e) (sd : SeqAt.shaped d = true) (se : SeqAt.shaped e = true) (k : Q (.bl (PyData.eqv d e)) H) : rEqA K x y H Q := .inr ⟨d, e, hd, he, sd, se, k⟩
theorem w_neD {d e : PyData} (hd : Dp K H x d) (he : Dp K H y e) (sd : SeqAt.shaped d = true) (se : SeqAt.shaped e = true) (k : Q (.bl (!PyData.eqv d e)) H) : rNeA K x y H Q := .inr ⟨d, e, hd, he, sd, se, k⟩
/-- in, of texts and of things in a list or a tuple -/
def rInStr (neg : Bool) : R2 := fun x y H Q => ∃ i j, x = .str i ∧ y = .str j ∧ Q (.bl (if neg then !(!(Builtin.Str.occurrences j i 0 j.length 1).isEmpty) else !(Builtin.Str.occurrences j i 0 j.length 1).isEmpty)) H
def rInA (K : PySem.W.Frag) (neg : Bool) : R2 := fun x y H Q => rIn K neg x y H Q ∨ rInStr neg x y H Q
theorem op_inA {X : Cx} {K : PySem.W.Frag} (hK : X.K = K) : OpR X (compareOp .In) (rInA K false) := by
  subst hK
  exact op_in_seq.or (fun pins s σ H x y v u Q I rx ry h => op_in_str pins s σ H x y v u Q I rx ry h)
theorem op_notInA {X : Cx} {K : PySem.W.Frag} (hK : X.K = K) : OpR X (compareOp .NotIn) (rInA K true) := by
  subst hK
  exact op_notIn_seq.or (fun pins s σ H x y v u Q I rx ry h => op_notIn_str pins s σ H x y v u Q I rx ry h)
theorem w_inL {p : Addr} {xs : List V} (h : SqL K H p xs) (hx : flatV x = true) (ha : xs.all flatV = true) (k : Q (.bl (inV x xs)) H) : rInA K false x (.ref p) H Q := .inl ⟨p, xs, rfl, .inl h, hx, ha, k⟩
theorem w_inT {p : Addr} {xs : List V} (h : SqT K H p xs) (hx : flatV x = true) (ha : xs.all flatV = true) (k : Q (.bl (inV x xs)) H) : rInA K false x (.ref p) H Q := .inl ⟨p, xs, rfl, .inr h, hx, ha, k⟩
theorem w_niL {p : Addr} {xs : List V} (h : SqL K H p xs) (hx : flatV x = true) (ha : xs.all flatV = true) (k : Q (.bl (!inV x xs)) H) : rInA K true x (.ref p) H Q := .inl ⟨p, xs, rfl, .inl h, hx, ha, k⟩
theorem w_niT {p : Addr} {xs : List V} (h : SqT K H p xs) (hx : flatV x = true) (ha : xs.all flatV = true) (k : Q (.bl (!inV x xs)) H) : rInA K true x (.ref p) H Q := .inl ⟨p, xs, rfl, .inr h, hx, ha, k⟩
/-- subscripts -/
theorem ix_any {X : Cx} {K : PySem.W.Frag} (hK : X.K = K) : IxR X (rIx K) := by
  subst hK
  exact ix_seq
theorem w_ixL {p : Addr} {xs : List V} {n : Int} (h : SqL K H p xs) (ha : atI xs n = some v) (k : Q v H) : rIx K (.ref p) (.int n) H Q := .inl ⟨p, xs, n, v, rfl, rfl, h, ha, k⟩
theorem w_ixT {p : Addr} {xs : List V} {n : Int} (h : SqT K H p xs) (ha : atI xs n = some v) (k : Q v H) : rIx K (.ref p) (.int n) H Q := .inr (.inl ⟨p, xs, n, v, rfl, rfl, h, ha, k⟩)
theorem w_ixS {a : Str} {c : Nat} {n : Int} (h : a.length ≤ sizeLine) (ha : atI a.cps.toList n = some c) (k : Q (.str ⟨#[c]⟩) H) : rIx K (.str a) (.int n) H Q := .inr (.inr ⟨a, n, c, rfl, rfl, h, ha, k⟩)
/-! slices -/
def rSlAny (K : PySem.W.Frag) : V → Option Int → Option Int → Hp → VK → Prop := fun x lo hi H Q => rSlL K x lo hi H Q ∨ (rSlS x lo hi H Q ∨ rSlA K x lo hi H Q)
/-- calls -/
def rInt1 : List V → Hp → VK → Prop := fun xs H Q => (∃ i, xs = [.int i] ∧ Q (.int i) H) ∨ ∃ k, xs = [.bl k] ∧ Q (.int (if k then 1 else 0)) H
theorem call_int1A {X : Cx} : CallR X (.type "int") rInt1 := call_int1
theorem w_int1 {n : Int} (k : Q (.int n) H) : rInt1 [.int n] H Q := .inl ⟨n, rfl, k⟩
theorem w_int1b {b : Bool} (k : Q (.int (if b then 1 else 0)) H) : rInt1 [.bl b] H Q := .inr ⟨b, rfl, k⟩
def rLenA (K : PySem.W.Frag) : List V → Hp → VK → Prop := fun xs H Q => ∃ x n, xs = [x] ∧ LenV K x H n ∧ Q (.int n) H
theorem call_lenA {X : Cx} {K : PySem.W.Frag} (hK : X.K = K) : CallR X (.builtin "len") (rLenA K) := by
  subst hK
  exact call_len
theorem w_lenL {p : Addr} {xs : List V} (h : SqL K H p xs) (k : Q (.int xs.length) H) : rLenA K [.ref p] H Q := ⟨_, _, rfl, .inl ⟨xs, h, rfl⟩, k⟩
theorem w_lenT {p : Addr} {xs : List V} (h : SqT K H p xs) (k : Q (.int xs.length) H) : rLenA K [.ref p] H Q := ⟨_, _, rfl, .inr ⟨xs, h, rfl⟩, k⟩
theorem w_lenS {a : Str} (h : a.length ≤ sizeLine) (k : Q (.int a.length) H) : rLenA K [.str a] H Q := ⟨_, _, rfl, ⟨h, rfl⟩, k⟩
def rAbsA : List V → Hp → VK → Prop := fun xs H Q => ∃ i, xs = [.int i] ∧ Q (.int (if i < 0 then -i else i)) H
theorem call_absA {X : Cx} : CallR X (.builtin "abs") rAbsA := call_abs
def rMax2 : List V → Hp → VK → Prop := fun xs H Q => ∃ i j, xs = [.int i, .int j] ∧ Q (.int (if j > i then j else i)) H
def rMin2 : List V → Hp → VK → Prop := fun xs H Q => ∃ i j, xs = [.int i, .int j] ∧ Q (.int (if j < i then j else i)) H
theorem call_max2A {X : Cx} (hc : X.calm = true) : CallR X (.builtin "max") rMax2 := call_max2 hc
theorem call_min2A {X : Cx} (hc : X.calm = true) : CallR X (.builtin "min") rMin2 := call_min2 hc
theorem max_if (i j : Int) : (if j > i then j else i) = max i j := by split <;> omega
theorem min_if (i j : Int) : (if j < i then j else i) = min i j := by split <;> omega
theorem w_max2 {i j : Int} (k : Q (.int (max i j)) H) : rMax2 [.int i, .int j] H Q := ⟨i, j, rfl, by rw [max_if]; exact k⟩
theorem w_min2 {i j : Int} (k : Q (.int (min i j)) H) : rMin2 [.int i, .int j] H Q := ⟨i, j, rfl, by rw [min_if]; exact k⟩
def rBool1 : List V → Hp → VK → Prop := fun xs H Q => (∃ i, xs = [.int i] ∧ Q (.bl (i != 0)) H) ∨ ∃ k, xs = [.bl k] ∧ Q (.bl k) H
theorem call_bool1A {X : Cx} : CallR X (.type "bool") rBool1 := call_bool1
def rStrI : List V → Hp → VK → Prop := fun xs H Q => ∃ i, xs = [.int i] ∧ i.natAbs.log2 < 1920 ∧ Q (.str (toString i)) H
theorem call_strA {X : Cx} : CallR X (.type "str") rStrI := call_str_int
theorem w_strI {n : Int} (h : n.natAbs.log2 < 1920) (k : Q (.str (toString n)) H) : rStrI [.int n] H Q := ⟨n, rfl, h, k⟩
theorem w_size {xs : List V} {R : Prop} (h : xs.length ≤ sizeLine) (k : R) : xs.length ≤ sizeLine ∧ R := ⟨h, k⟩
/-- stores by place -/
theorem w_gSub {to ti : TE} {ts : TSet} {R : L2.St → Hp → Prop} (k : to σ H fun o H1 => ti σ H1 fun i H2 => ts o i v H2 fun H3 => R σ H3) : gSub to ti ts v σ H R := k
theorem w_setL {l : Addr} {xs : List V} {n : Int} {j : Nat} {R : Hp → Prop} (h : H l = some (.lst xs)) (hj : ixN xs.length n = some j) (k : ChgO l (.lst (xs.set j v)) H R) : rSetL (.ref l) (.int n) v H R := ⟨l, xs, n, j, rfl, rfl, h, hj, k⟩
/-- methods of lists -/
theorem w_bm {T : String} {r : V → List V → Hp → VK → Prop} {tr : TA} (k : ta σ H fun x H1 => tyV K T x H1 ∧ tr σ H1 fun xs H2 => r x xs H2 Q) : tBM K T r ta tr σ H Q := k
theorem w_bm0 {T : String} {r : V → List V → Hp → VK → Prop} (k : ta σ H fun x H1 => tyV K T x H1 ∧ r x [] H1 Q) : tBM0 K T r ta σ H Q := k
theorem w_tyL {p : Addr} {xs : List V} {R : Prop} (h : SqL K H p xs) (k : R) : tyV K "list" (.ref p) H ∧ R := ⟨.inl ⟨rfl, xs, h⟩, k⟩
theorem w_tyS {a : Str} {R : Prop} (k : R) : tyV K "str" (.str a) H ∧ R := ⟨rfl, k⟩
theorem w_append {l : Addr} {xs : List V} (h : H l = some (.lst xs)) (hz : xs.length < sizeLine) (k : ChgO l (.lst (xs ++ [v])) H (Q .non)) : rAppend (.ref l) [v] H Q := ⟨l, xs, v, rfl, rfl, h, hz, k⟩
theorem w_clear {l : Addr} {xs : List V} (h : H l = some (.lst xs)) (k : ChgO l (.lst []) H (Q .non)) : rClear (.ref l) [] H Q := ⟨l, xs, rfl, rfl, h, k⟩
end

/-! ### loops -/
section
variable {K : PySem.W.Frag} {σ : L2.St} {H : Hp} {a D : Addr} {xs : List V} {g : TG} {tb : TS} {nx : L2.St → Hp → Prop} {rt : VK} {bk ct : L2.St → Hp → Prop} {tl te : TE} {ta : TA} {tt : TT} {Q : VK} {vs : List Nat} {j : Nat}
def WFor (J : It) (g : TG) (tb : TS) (nx : L2.St → Hp → Prop) (rt : VK) (σ : L2.St) (H : Hp) : Prop := ∃ W : Nat → Nat → L2.St → Hp → Prop, (∃ m, W 0 m σ H) ∧ ∀ i m σ H, W i m σ H →
  (J.stop i H ∧ nx σ H) ∨ (J.go i H ∧ ∃ N : L2.St → Hp → Prop, (∀ σ' H', N σ' H' → ∃ m', m' < m ∧ W (i + 1) m' σ' H') ∧ ∀ x H', J.yld i H x H' → g x σ H' fun σ2 H2 => tb ⟨N, rt, nx, N⟩ σ2 H2)
theorem w_forL (k : tl σ H fun x H1 => ∃ a, x = .ref a ∧ (∃ xs, SqL K H1 a xs) ∧ WFor (Itl K a) g tb nx rt σ H1) : tFor (iList K tl) g tb ⟨nx, rt, bk, ct⟩ σ H := k
theorem w_forT (k : tl σ H fun x H1 => ∃ a, x = .ref a ∧ (∃ xs, SqT K H1 a xs) ∧ WFor (Itt K a) g tb nx rt σ H1) : tFor (iTup K tl) g tb ⟨nx, rt, bk, ct⟩ σ H := k
theorem w_forR1 (k : ta σ H fun vs H1 => ∃ j : Int, vs = [.int j] ∧ -(2 ^ 62) ≤ j ∧ j < 2 ^ 62 ∧ WFor (Itr 0 j.toNat) g tb nx rt σ H1) : tFor (iRng1 ta) g tb ⟨nx, rt, bk, ct⟩ σ H := k
theorem w_forR2 (k : ta σ H fun vs H1 => ∃ i j : Int, vs = [.int i, .int j] ∧ (-(2 ^ 62) ≤ i ∧ i < 2 ^ 62 ∧ -(2 ^ 62) ≤ j ∧ j < 2 ^ 62) ∧ WFor (Itr i (j - i).toNat) g tb nx rt σ H1) : tFor (iRng2 ta) g tb ⟨nx, rt, bk, ct⟩ σ H := k
/-- over a list that stands: the word by the turn, the slots, the heap -/
theorem fl_list (xs : List V) (Pv : Nat → L2.St → Hp → Prop) (hS : SqL K H a xs) (h0 : Pv 0 σ H) (hl : ∀ i σ H, i ≤ xs.length → Pv i σ H → SqL K H a xs)
    (hs : ∀ i x σ H, xs[i]? = some x → Pv i σ H → g x σ H fun σ2 H2 => tb ⟨Pv (i + 1), rt, nx, Pv (i + 1)⟩ σ2 H2) (hd : ∀ σ H, Pv xs.length σ H → nx σ H) :
    ∃ b, V.ref a = .ref b ∧ (∃ xs, SqL K H b xs) ∧ WFor (Itl K b) g tb nx rt σ H := ⟨a, rfl, ⟨xs, hS⟩, for_list (D := ⟨nx, rt, fun _ _ => False, fun _ _ => False⟩) Pv h0 hl hs hd⟩
theorem fl_tup (xs : List V) (Pv : Nat → L2.St → Hp → Prop) (hS : SqT K H a xs) (h0 : Pv 0 σ H) (hl : ∀ i σ H, i ≤ xs.length → Pv i σ H → SqT K H a xs)
    (hs : ∀ i x σ H, xs[i]? = some x → Pv i σ H → g x σ H fun σ2 H2 => tb ⟨Pv (i + 1), rt, nx, Pv (i + 1)⟩ σ2 H2) (hd : ∀ σ H, Pv xs.length σ H → nx σ H) :
    ∃ b, V.ref a = .ref b ∧ (∃ xs, SqT K H b xs) ∧ WFor (Itt K b) g tb nx rt σ H := ⟨a, rfl, ⟨xs, hS⟩, for_tup (D := ⟨nx, rt, fun _ _ => False, fun _ _ => False⟩) Pv h0 hl hs hd⟩
theorem fl_rng1 {n : Int} (Pv : Nat → L2.St → Hp → Prop) (hb : n < 2 ^ 62) (hb0 : -(2 ^ 62) ≤ n) (h0 : Pv 0 σ H)
    (hs : ∀ i σ H, i < n.toNat → Pv i σ H → g (.int (i : Int)) σ H fun σ2 H2 => tb ⟨Pv (i + 1), rt, nx, Pv (i + 1)⟩ σ2 H2) (hd : ∀ σ H, Pv n.toNat σ H → nx σ H) :
    ∃ j : Int, [V.int n] = [.int j] ∧ -(2 ^ 62) ≤ j ∧ j < 2 ^ 62 ∧ WFor (Itr 0 j.toNat) g tb nx rt σ H := by
  refine ⟨n, rfl, hb0, hb, for_range (D := ⟨nx, rt, fun _ _ => False, fun _ _ => False⟩) Pv h0 (fun i σ H hi p => ?_) hd⟩
  rw [Int.zero_add]
  exact hs i σ H hi p
theorem fl_rng2 {m n : Int} (Pv : Nat → L2.St → Hp → Prop) (hb : -(2 ^ 62) ≤ m ∧ m < 2 ^ 62 ∧ -(2 ^ 62) ≤ n ∧ n < 2 ^ 62) (h0 : Pv 0 σ H)
    (hs : ∀ i σ H, i < (n - m).toNat → Pv i σ H → g (.int (m + (i : Int))) σ H fun σ2 H2 => tb ⟨Pv (i + 1), rt, nx, Pv (i + 1)⟩ σ2 H2) (hd : ∀ σ H, Pv (n - m).toNat σ H → nx σ H) :
    ∃ i j : Int, [V.int m, V.int n] = [.int i, .int j] ∧ (-(2 ^ 62) ≤ i ∧ i < 2 ^ 62 ∧ -(2 ^ 62) ≤ j ∧ j < 2 ^ 62) ∧ WFor (Itr i (j - i).toNat) g tb nx rt σ H :=
  ⟨m, n, rfl, hb, for_range (D := ⟨nx, rt, fun _ _ => False, fun _ _ => False⟩) Pv h0 hs hd⟩
/-- over a short list, turn by turn -/
def runL (K : PySem.W.Frag) (a : Addr) (all : List V) (g : TG) (tb : TS) (nx : L2.St → Hp → Prop) (rt : VK) : List V → L2.St → Hp → Prop
  | [], σ, H => nx σ H
  | x :: r, σ, H => g x σ H fun σ2 H2 => tb ⟨fun σ' H' => SqL K H' a all ∧ runL K a all g tb nx rt r σ' H', rt, nx, fun σ' H' => SqL K H' a all ∧ runL K a all g tb nx rt r σ' H'⟩ σ2 H2
theorem fl_run (xs : List V) (hS : SqL K H a xs) (k : runL K a xs g tb nx rt xs σ H) : ∃ b, V.ref a = .ref b ∧ (∃ xs, SqL K H b xs) ∧ WFor (Itl K b) g tb nx rt σ H := by
  refine fl_list xs (fun i σ H => SqL K H a xs ∧ runL K a xs g tb nx rt (xs.drop i) σ H) hS ⟨hS, by rw [List.drop_zero]; exact k⟩ (fun _ _ _ _ h => h.1) (fun i x σ H hi h => ?_) (fun σ H h => ?_)
  · have e : xs.drop i = x :: xs.drop (i + 1) := by
      obtain ⟨hl, rfl⟩ := List.getElem?_eq_some_iff.mp hi
      exact List.drop_eq_getElem_cons hl
    have h2 := h.2
    rw [e] at h2
    exact h2
  · have h2 := h.2
    rw [List.drop_length] at h2
    exact h2
theorem w_runN (k : nx σ H) : runL K a xs g tb nx rt [] σ H := k
theorem w_runC {x : V} {r : List V} (k : g x σ H fun σ2 H2 => tb ⟨fun σ' H' => SqL K H' a xs ∧ runL K a xs g tb nx rt r σ' H', rt, nx, fun σ' H' => SqL K H' a xs ∧ runL K a xs g tb nx rt r σ' H'⟩ σ2 H2) :
    runL K a xs g tb nx rt (x :: r) σ H := k
/-- the first of two, by what stands -/
theorem w_both {A B : Prop} (h : A) (k : B) : A ∧ B := ⟨h, k⟩
/-! comprehensions -/
def WLc (J : It) (g : TG) (tt : TT) (te : TE) (vs : List Nat) (σ : L2.St) (D : Addr) (H1 : Hp) (Q : VK) : Prop := ∃ W : Nat → Nat → Hp → Prop, (∃ m, W 0 m (upd H1 D (.lst []))) ∧ ∀ i m H, W i m H →
  (J.stop i H ∧ Q (.ref D) H) ∨ (J.go i H ∧ ∃ Nx : Hp → Prop, (∀ H', Nx H' → ∃ m', m' < m ∧ W (i + 1) m' H') ∧ ∀ x H', J.yld i H x H' → g x (wipe σ vs) H' fun σ2 H2 => wipe σ2 vs = wipe σ vs ∧ tt σ2 H2 fun b H3 =>
    if b = true then te σ2 H3 fun y H4 => ∃ acc, H4 D = some (.lst acc) ∧ acc.length < sizeLine ∧ Nx (upd H4 D (.lst (acc ++ [y]))) else Nx H3)
theorem w_lcL (k : tl σ H fun x H1 => ∃ a, x = .ref a ∧ (∃ xs, SqL K H1 a xs) ∧ ∀ D, H1 D = none → WLc (Itl K a) g tt te vs σ D H1 Q) : tLc (iList K tl) g tt te vs σ H Q := k
theorem w_lcT (k : tl σ H fun x H1 => ∃ a, x = .ref a ∧ (∃ xs, SqT K H1 a xs) ∧ ∀ D, H1 D = none → WLc (Itt K a) g tt te vs σ D H1 Q) : tLc (iTup K tl) g tt te vs σ H Q := k
theorem w_lcR1 (k : ta σ H fun us H1 => ∃ j : Int, us = [.int j] ∧ -(2 ^ 62) ≤ j ∧ j < 2 ^ 62 ∧ ∀ D, H1 D = none → WLc (Itr 0 j.toNat) g tt te vs σ D H1 Q) : tLc (iRng1 ta) g tt te vs σ H Q := k
theorem wipe1 (σ : L2.St) (j : Nat) (x : Option V) : wipe ((wipe σ [j]).set j x) [j] = wipe σ [j] := by
  show (((σ.set j none).set j x).set j none) = σ.set j none
  rw [List.set_set, List.set_set]
def LcEnd (D : Addr) (Pv : Nat → List V → Hp → Prop) (i : Nat) (y : V) (H4 : Hp) : Prop := ∃ acc, H4 D = some (.lst acc) ∧ acc.length < sizeLine ∧
  ∃ ys, ys.length ≤ i + 1 ∧ upd H4 D (.lst (acc ++ [y])) D = some (.lst ys) ∧ Pv (i + 1) ys (upd H4 D (.lst (acc ++ [y])))
theorem lc_end {D : Addr} {Pv : Nat → List V → Hp → Prop} {i : Nat} {y : V} {H4 : Hp} {ys : List V} (h : H4 D = some (.lst ys)) (hl : ys.length ≤ i) (hz : ys.length < sizeLine) (k : ∀ H', But D H4 H' → H' D = some (.lst (ys ++ [y])) → Pv (i + 1) (ys ++ [y]) H') : LcEnd D Pv i y H4 :=
  ⟨ys, h, hz, ys ++ [y], by rw [List.length_append]; exact Nat.succ_le_succ hl, upd_same, k _ (But.upd _ _ _) upd_same⟩
def LcSkip (D : Addr) (Pv : Nat → List V → Hp → Prop) (i : Nat) (H4 : Hp) : Prop := ∃ ys, ys.length ≤ i + 1 ∧ H4 D = some (.lst ys) ∧ Pv (i + 1) ys H4
theorem lc_skip {D : Addr} {Pv : Nat → List V → Hp → Prop} {i : Nat} {H4 : Hp} {ys : List V} (h : H4 D = some (.lst ys)) (hl : ys.length ≤ i) (k : Pv (i + 1) ys H4) : LcSkip D Pv i H4 := ⟨ys, Nat.le_succ_of_le hl, h, k⟩
/-- over a list: the word by the turn, the list so far, the heap; any test -/
theorem lc_L (xs : List V) (Pv : Addr → Nat → List V → Hp → Prop) (hS : SqL K H a xs) (h0 : ∀ D H', H D = none → Same H H' → H' D = some (.lst []) → Pv D 0 [] H')
    (hl : ∀ D, H D = none → ∀ i ys H', i ≤ xs.length → H' D = some (.lst ys) → Pv D i ys H' → SqL K H' a xs)
    (hs : ∀ D, H D = none → ∀ i x ys H', xs[i]? = some x → ys.length ≤ i → H' D = some (.lst ys) → Pv D i ys H' → tt ((wipe σ [j]).set j (some x)) H' fun b H3 => if b = true then te ((wipe σ [j]).set j (some x)) H3 fun y H4 => LcEnd D (Pv D) i y H4 else LcSkip D (Pv D) i H3)
    (hd : ∀ D, H D = none → ∀ ys H', ys.length ≤ xs.length → H' D = some (.lst ys) → Pv D xs.length ys H' → Q (.ref D) H') :
    ∃ b, V.ref a = .ref b ∧ (∃ xs, SqL K H b xs) ∧ ∀ D, H D = none → WLc (Itl K b) (gName j) tt te [j] σ D H Q :=
  ⟨a, rfl, ⟨xs, hS⟩, fun D hD => lc_list (xs := xs) (fun i H' => ∃ ys, ys.length ≤ i ∧ H' D = some (.lst ys) ∧ Pv D i ys H') ⟨[], Nat.le_refl _, upd_same, h0 D _ hD (Same.one hD) upd_same⟩ (fun i H' hi ⟨ys, _, e, p⟩ => hl D hD i ys H' hi e p)
    (fun i x H' hi ⟨ys, e, e2, p⟩ => ⟨wipe1 _ _ _, hs D hD i x ys H' hi e e2 p⟩) (fun H' ⟨ys, e, e2, p⟩ => hd D hD ys H' e e2 p)⟩
theorem lc_T (xs : List V) (Pv : Addr → Nat → List V → Hp → Prop) (hS : SqT K H a xs) (h0 : ∀ D H', H D = none → Same H H' → H' D = some (.lst []) → Pv D 0 [] H')
    (hl : ∀ D, H D = none → ∀ i ys H', i ≤ xs.length → H' D = some (.lst ys) → Pv D i ys H' → SqT K H' a xs)
    (hs : ∀ D, H D = none → ∀ i x ys H', xs[i]? = some x → ys.length ≤ i → H' D = some (.lst ys) → Pv D i ys H' → tt ((wipe σ [j]).set j (some x)) H' fun b H3 => if b = true then te ((wipe σ [j]).set j (some x)) H3 fun y H4 => LcEnd D (Pv D) i y H4 else LcSkip D (Pv D) i H3)
    (hd : ∀ D, H D = none → ∀ ys H', ys.length ≤ xs.length → H' D = some (.lst ys) → Pv D xs.length ys H' → Q (.ref D) H') :
    ∃ b, V.ref a = .ref b ∧ (∃ xs, SqT K H b xs) ∧ ∀ D, H D = none → WLc (Itt K b) (gName j) tt te [j] σ D H Q :=
  ⟨a, rfl, ⟨xs, hS⟩, fun D hD => lc_tup (xs := xs) (fun i H' => ∃ ys, ys.length ≤ i ∧ H' D = some (.lst ys) ∧ Pv D i ys H') ⟨[], Nat.le_refl _, upd_same, h0 D _ hD (Same.one hD) upd_same⟩ (fun i H' hi ⟨ys, _, e, p⟩ => hl D hD i ys H' hi e p)
    (fun i x H' hi ⟨ys, e, e2, p⟩ => ⟨wipe1 _ _ _, hs D hD i x ys H' hi e e2 p⟩) (fun H' ⟨ys, e, e2, p⟩ => hd D hD ys H' e e2 p)⟩
theorem lc_R1 {n : Int} (Pv : Addr → Nat → List V → Hp → Prop) (hb0 : -(2 ^ 62) ≤ n) (hb : n < 2 ^ 62) (h0 : ∀ D H', H D = none → Same H H' → H' D = some (.lst []) → Pv D 0 [] H')
    (hs : ∀ D, H D = none → ∀ (i : Nat) ys H', i < n.toNat → ys.length ≤ i → H' D = some (.lst ys) → Pv D i ys H' → tt ((wipe σ [j]).set j (some (.int (i : Int)))) H' fun b H3 => if b = true then te ((wipe σ [j]).set j (some (.int (i : Int)))) H3 fun y H4 => LcEnd D (Pv D) i y H4 else LcSkip D (Pv D) i H3)
    (hd : ∀ D, H D = none → ∀ ys H', ys.length ≤ n.toNat → H' D = some (.lst ys) → Pv D n.toNat ys H' → Q (.ref D) H') :
    ∃ m : Int, [V.int n] = [.int m] ∧ -(2 ^ 62) ≤ m ∧ m < 2 ^ 62 ∧ ∀ D, H D = none → WLc (Itr 0 m.toNat) (gName j) tt te [j] σ D H Q :=
  ⟨n, rfl, hb0, hb, fun D hD => lc_range (lo := 0) (n := n.toNat) (fun i H' => ∃ ys, ys.length ≤ i ∧ H' D = some (.lst ys) ∧ Pv D i ys H') ⟨[], Nat.le_refl _, upd_same, h0 D _ hD (Same.one hD) upd_same⟩
    (fun i H' hi ⟨ys, e, e2, p⟩ => by
      rw [Int.zero_add]
      exact ⟨wipe1 _ _ _, hs D hD i ys H' hi e e2 p⟩) (fun H' ⟨ys, e, e2, p⟩ => hd D hD ys H' e e2 p)⟩
theorem w_yes {R : Bool → Hp → Prop} (k : R true H) : tYes σ H R := k
end

/-! ### data -/
mutual
/-- data of None, ints, texts, lists, tuples, not too deep: what == tells of it is whether it is the same -/
def clean : PyData → Bool
  | .none => true
  | .int _ => true
  | .str x => PyData.strOk x
  | .list xs => cleanAll xs
  | .tuple xs => cleanAll xs
  | .bool _ => false
  | .dict _ => false
def cleanAll : List PyData → Bool
  | [] => true
  | x :: xs => clean x && cleanAll xs
end
mutual
theorem clean_lay : ∀ d : PyData, clean d = true → d.canLay0 = true
  | .none, _ => by rw [PyData.canLay0]
  | .int _, _ => by rw [PyData.canLay0]
  | .str x, h => by rw [PyData.canLay0]; rw [clean] at h; exact h
  | .list xs, h => by rw [PyData.canLay0]; rw [clean] at h; exact cleanAll_lay xs h
  | .tuple xs, h => by rw [PyData.canLay0]; rw [clean] at h; exact cleanAll_lay xs h
  | .bool _, h => by rw [clean] at h; cases h
  | .dict _, h => by rw [clean] at h; cases h
theorem cleanAll_lay : ∀ ds : List PyData, cleanAll ds = true → PyData.canLayAll0 ds = true
  | [], _ => by rw [PyData.canLayAll0]
  | x :: xs, h => by
    rw [cleanAll, Bool.and_eq_true] at h
    rw [PyData.canLayAll0, clean_lay x h.1, cleanAll_lay xs h.2]; rfl
end
mutual
theorem clean_eqv : ∀ d e : PyData, clean d = true → clean e = true → (PyData.eqv d e = true ↔ d = e)
  | .none, e, _, _ => by cases e <;> simp [PyData.eqv]
  | .int i, e, _, he => by cases e <;> simp [PyData.eqv]; simp [clean] at he
  | .str x, e, _, _ => by cases e <;> simp [PyData.eqv]
  | .list xs, e, h, he => by
    cases e <;> simp [PyData.eqv]
    simp only [clean] at h he
    exact cleanAll_eqv xs _ h he
  | .tuple xs, e, h, he => by
    cases e <;> simp [PyData.eqv]
    simp only [clean] at h he
    exact cleanAll_eqv xs _ h he
  | .bool _, _, h, _ => by simp [clean] at h
  | .dict _, _, h, _ => by simp [clean] at h
theorem cleanAll_eqv : ∀ ds es : List PyData, cleanAll ds = true → cleanAll es = true → (PyData.eqvAll ds es = true ↔ ds = es)
  | [], es, _, _ => by cases es <;> simp [PyData.eqvAll]
  | x :: xs, [], _, _ => by simp [PyData.eqvAll]
  | x :: xs, y :: ys, h, he => by
    simp only [cleanAll, Bool.and_eq_true] at h he
    simp only [PyData.eqvAll, Bool.and_eq_true, clean_eqv x y h.1 he.1, cleanAll_eqv xs ys h.2 he.2, List.cons.injEq]
end
/-- to be compared by == -/
structure Cmp (d : PyData) : Prop where
  clean : clean d = true
  depth : d.depth ≤ 64
theorem Cmp.shaped {d : PyData} (c : Cmp d) : SeqAt.shaped d = true := by
  unfold SeqAt.shaped
  rw [clean_lay d c.clean, Bool.true_and, decide_eq_true_eq]
  exact c.depth
theorem eqv_iff {d e : PyData} (c : Cmp d) (c' : Cmp e) : PyData.eqv d e = true ↔ d = e := clean_eqv d e c.clean c'.clean
open Classical in
theorem w_eqP {K : PySem.W.Frag} {H : Hp} {x y : V} {Q : VK} {d e : PyData} (hd : Dp K H x d) (he : Dp K H y e) (cd : Cmp d) (ce : Cmp e) (k : ∀ b : Bool, (b = true ↔ d = e) → Q (.bl b) H) : rEqA K x y H Q :=
  w_eqD hd he cd.shaped ce.shaped (k _ (eqv_iff cd ce))
theorem w_neP {K : PySem.W.Frag} {H : Hp} {x y : V} {Q : VK} {d e : PyData} (hd : Dp K H x d) (he : Dp K H y e) (cd : Cmp d) (ce : Cmp e) (k : ∀ b : Bool, (b = true ↔ d ≠ e) → Q (.bl b) H) : rNeA K x y H Q :=
  w_neD hd he cd.shaped ce.shaped (k _ (by
    have h := eqv_iff cd ce
    cases hb : PyData.eqv d e <;> rw [hb] at h <;> simp at h ⊢ <;> exact h))
theorem dpAll_ints {K : PySem.W.Frag} {H : Hp} : ∀ ns : List Int, DpAll K H (ns.map V.int) (ns.map PyData.int)
  | [] => .nil
  | n :: ns => .cons (.int n) (dpAll_ints ns)
theorem dp_ints {K : PySem.W.Frag} {H : Hp} {a : Addr} {ns : List Int} (h : SqL K H a (ns.map V.int)) : Dp K H (.ref a) (.list (ns.map PyData.int)) := .lst h (dpAll_ints ns)
theorem cleanAll_ints : ∀ ns : List Int, cleanAll (ns.map PyData.int) = true
  | [] => by simp [cleanAll]
  | n :: ns => by rw [List.map_cons, cleanAll, cleanAll_ints ns, clean]; rfl
theorem depthAll_ints : ∀ ns : List Int, PyData.depthAll (ns.map PyData.int) = 0
  | [] => by simp [PyData.depthAll]
  | n :: ns => by rw [List.map_cons, PyData.depthAll, depthAll_ints ns, PyData.depth]; rfl
theorem cmp_ints (ns : List Int) : Cmp (.list (ns.map PyData.int)) := ⟨by rw [clean]; exact cleanAll_ints ns, by rw [PyData.depth, depthAll_ints]; decide⟩
theorem map_int_inj {ns ms : List Int} : PyData.list (ns.map PyData.int) = .list (ms.map PyData.int) ↔ ns = ms := by
  constructor
  · intro h
    have h2 : ns.map PyData.int = ms.map PyData.int := by injection h
    exact (List.map_inj_right (f := PyData.int) (fun x y e => by injection e)).mp h2
  · intro h; rw [h]
theorem w_eqIL {K : PySem.W.Frag} {H : Hp} {p q : Addr} {Q : VK} {ns ms : List Int} (h1 : SqL K H p (ns.map V.int)) (h2 : SqL K H q (ms.map V.int)) (k : Q (.bl (decide (ns = ms))) H) : rEqA K (.ref p) (.ref q) H Q :=
  w_eqP (dp_ints h1) (dp_ints h2) (cmp_ints _) (cmp_ints _) fun b hb => by
    rw [map_int_inj] at hb
    rw [show b = decide (ns = ms) by rw [Bool.eq_iff_iff, hb, decide_eq_true_eq]]
    exact k
theorem w_neIL {K : PySem.W.Frag} {H : Hp} {p q : Addr} {Q : VK} {ns ms : List Int} (h1 : SqL K H p (ns.map V.int)) (h2 : SqL K H q (ms.map V.int)) (k : Q (.bl (!decide (ns = ms))) H) : rNeA K (.ref p) (.ref q) H Q :=
  w_neP (dp_ints h1) (dp_ints h2) (cmp_ints _) (cmp_ints _) fun b hb => by
    rw [ne_eq, map_int_inj] at hb
    rw [show b = !decide (ns = ms) by rw [Bool.eq_iff_iff, hb]; simp]
    exact k
/-! slices -/
section
variable {K : PySem.W.Frag} {σ : L2.St} {H : Hp} {te : TE} {tl th : TO} {Q : VK} {a : Addr} {xs : List V} {lo hi : Option Int}
theorem sl_any {X : Cx} {K : PySem.W.Frag} (hK : X.K = K) : SlR X (rSlAny K) := by
  subst hK
  exact sl_list.or (sl_str.or sl_tupA)
theorem w_sl {r : V → Option Int → Option Int → Hp → VK → Prop} (k : te σ H fun x H1 => tl σ H1 fun l H2 => th σ H2 fun u H3 => r x l u H3 Q) : tSl r te tl th σ H Q := k
theorem w_noPart {R : Option Int → Hp → Prop} (k : R none H) : tNoPart σ H R := k
theorem w_part {R : Option Int → Hp → Prop} (k : te σ H fun x H1 => ∃ i, x = .int i ∧ R (some i) H1) : tPart te σ H R := k
theorem w_int {R : Int → Prop} {n : Int} (k : R n) : ∃ i, V.int n = .int i ∧ R i := ⟨n, rfl, k⟩
theorem w_slL (h : SqL K H a xs) (k : NewO (.lst (cutV xs lo hi)) H Q) : rSlAny K (.ref a) lo hi H Q := .inl ⟨a, xs, rfl, h, k⟩
theorem w_slS {z : Str} (h : z.length ≤ sizeLine) (k : Q (.str (cutS z lo hi)) H) : rSlAny K (.str z) lo hi H Q := .inr (.inl ⟨z, rfl, h, k⟩)
theorem w_rep {l : Addr} {n : Int} (h : H l = some (.lst xs)) (h0 : -(2 ^ 63) ≤ n) (h1 : n < 2 ^ 63) (hz : xs.length * n.toNat ≤ sizeLine) (k : NewO (.lst (List.replicate n.toNat xs).flatten) H Q) : rMulA (.ref l) (.int n) H Q :=
  .inr ⟨l, n, xs, rfl, rfl, h, h0, h1, hz, k⟩
end

/-! ### unpacking: a tuple or a list -/
def gSeq (K : PySem.W.Frag) (n : Nat) (t : TGs) : TG := fun v σ H Q => gLst K n t v σ H Q ∨ gTup K n t v σ H Q
theorem pg_seq {X : Cx} {K : PySem.W.Frag} {pos : Pos} {es : List Expr} {k : Nat} {t : TGs} (n : Nat) (hK : X.K = K) (hc : X.calm = true) (h : PGs X es t)
    (hn : (assignEach es X.env).length = n := by rfl) (hst : (assignEach es X.env).findIdx? (·.1) = none := by rfl) : PG X (.Tuple es k pos) (gSeq K n t) := by
  subst hK
  refine ⟨fun pins s σ H v u Q I r hw => ?_⟩
  rcases hw with hw | hw
  · exact (pg_lst hc h hn hst).run pins s σ H v u Q I r hw
  · exact (pg_tup hc h hn hst).run pins s σ H v u Q I r hw
section
variable {K : PySem.W.Frag} {σ : L2.St} {H : Hp} {R : L2.St → Hp → Prop} {t : TGs} {g : TG} {xs : List V} {a : Addr} {v : V} {n : Nat}
theorem w_seqL (h : SqL K H a xs) (hl : xs.length = n) (k : t xs σ H R) : gSeq K n t (.ref a) σ H R := .inl ⟨a, xs, rfl, h, hl, k⟩
theorem w_seqT (h : SqT K H a xs) (hl : xs.length = n) (k : t xs σ H R) : gSeq K n t (.ref a) σ H R := .inr ⟨a, xs, rfl, h, hl, k⟩
theorem w_gNil (k : R σ H) : gNil [] σ H R := ⟨rfl, k⟩
theorem w_gCons (k : g v σ H fun σ' H' => t xs σ' H' R) : gCons g t (v :: xs) σ H R := ⟨v, xs, rfl, k⟩
end

/-! ### walks of any kind -/
section
variable {K : PySem.W.Frag} {σ : L2.St} {H : Hp} {a b D : Addr} {xs ys : List V} {g : TG} {tb : TS} {nx : L2.St → Hp → Prop} {rt : VK} {bk ct : L2.St → Hp → Prop} {tl te : TE} {ta : TA} {tt : TT} {Q : VK} {vs : List Nat} {J : It} {n : Nat} {G : Hp → Prop} {Y : Nat → Hp → V → Hp → Prop}
theorem wfor_it (w : Walk J n G Y) (Pv : Nat → L2.St → Hp → Prop) (h0 : Pv 0 σ H) (hG : ∀ i σ H, i ≤ n → Pv i σ H → G H)
    (hs : ∀ i x σ H H', i < n → Pv i σ H → Y i H x H' → g x σ H' fun σ2 H2 => tb ⟨Pv (i + 1), rt, nx, Pv (i + 1)⟩ σ2 H2) (hd : ∀ σ H, Pv n σ H → nx σ H) : WFor J g tb nx rt σ H :=
  for_it (D := ⟨nx, rt, fun _ _ => False, fun _ _ => False⟩) w Pv h0 hG hs hd
theorem wlc_it (w : Walk J n G Y) (Pv : Addr → Nat → List V → Hp → Prop) (h0 : ∀ D H', H D = none → Same H H' → H' D = some (.lst []) → Pv D 0 [] H') (hG : ∀ D, H D = none → ∀ i ys H', i ≤ n → H' D = some (.lst ys) → Pv D i ys H' → G H')
    (hs : ∀ D, H D = none → ∀ i x ys H0 H', i < n → ys.length ≤ i → H0 D = some (.lst ys) → Pv D i ys H0 → Y i H0 x H' → g x (wipe σ vs) H' fun σ2 H2 => wipe σ2 vs = wipe σ vs ∧ tt σ2 H2 fun b H3 => if b = true then te σ2 H3 fun y H4 => LcEnd D (Pv D) i y H4 else LcSkip D (Pv D) i H3)
    (hd : ∀ D, H D = none → ∀ ys H', ys.length ≤ n → H' D = some (.lst ys) → Pv D n ys H' → Q (.ref D) H') : ∀ D, H D = none → WLc J g tt te vs σ D H Q := fun D hD =>
  lc_it w (fun i H' => ∃ ys, ys.length ≤ i ∧ H' D = some (.lst ys) ∧ Pv D i ys H') ⟨[], Nat.le_refl _, upd_same, h0 D _ hD (Same.one hD) upd_same⟩ (fun i H' hi ⟨ys, _, e, p⟩ => hG D hD i ys H' hi e p)
    (fun i x H0 H' hi ⟨ys, e, e2, p⟩ y => hs D hD i x ys H0 H' hi e e2 p y) (fun H' ⟨ys, e, e2, p⟩ => hd D hD ys H' e e2 p)
theorem w_forZ (k : ta σ H fun vs H1 => ∃ a b xs ys, vs = [.ref a, .ref b] ∧ SqL K H1 a xs ∧ SqL K H1 b ys ∧ WFor (Itz K a b) g tb nx rt σ H1) : tFor (iZip K ta) g tb ⟨nx, rt, bk, ct⟩ σ H := k
theorem w_forE (k : ta σ H fun vs H1 => ∃ a xs, vs = [.ref a] ∧ SqL K H1 a xs ∧ WFor (Ite K a) g tb nx rt σ H1) : tFor (iEnum K ta) g tb ⟨nx, rt, bk, ct⟩ σ H := k
theorem w_forV (k : te σ H fun v H1 => ∃ (a : Addr) (xs : List V), v = .ref a ∧ ((SqL K H1 a xs ∧ WFor (Itv K a xs.length) g tb nx rt σ H1) ∨ (SqT K H1 a xs ∧ WFor (RT.ItvT K a xs.length) g tb nx rt σ H1))) : tFor (RT.iRevA K te) g tb ⟨nx, rt, bk, ct⟩ σ H := k
theorem w_lcZ (k : ta σ H fun us H1 => ∃ a b xs ys, us = [.ref a, .ref b] ∧ SqL K H1 a xs ∧ SqL K H1 b ys ∧ ∀ D, H1 D = none → WLc (Itz K a b) g tt te vs σ D H1 Q) : tLc (iZip K ta) g tt te vs σ H Q := k
theorem w_lcE (k : ta σ H fun us H1 => ∃ a xs, us = [.ref a] ∧ SqL K H1 a xs ∧ ∀ D, H1 D = none → WLc (Ite K a) g tt te vs σ D H1 Q) : tLc (iEnum K ta) g tt te vs σ H Q := k
/-- zip of two lists, each turn a new pair -/
theorem fl_zip (Pv : Nat → L2.St → Hp → Prop) (hx : SqL K H a xs) (hy : SqL K H b ys) (h0 : Pv 0 σ H) (hG : ∀ i σ H, i ≤ min xs.length ys.length → Pv i σ H → SqL K H a xs ∧ SqL K H b ys)
    (hs : ∀ i x y T σ H H', xs[i]? = some x → ys[i]? = some y → Pv i σ H → H T = none → Same H H' → H' T = some (.tup [x, y]) → g (.ref T) σ H' fun σ2 H2 => tb ⟨Pv (i + 1), rt, nx, Pv (i + 1)⟩ σ2 H2) (hd : ∀ σ H, Pv (min xs.length ys.length) σ H → nx σ H) :
    ∃ p q us ws, [V.ref a, .ref b] = [.ref p, .ref q] ∧ SqL K H p us ∧ SqL K H q ws ∧ WFor (Itz K p q) g tb nx rt σ H :=
  ⟨a, b, xs, ys, rfl, hx, hy, wfor_it (walk_zip rfl) Pv h0 hG (fun i v σ H H' hi p ⟨T, x, y, e, nT, e2, h1, h2⟩ => by subst e e2; exact hs i x y T σ H _ h1 h2 p nT (Same.one nT) upd_same) hd⟩
theorem fl_enum (Pv : Nat → L2.St → Hp → Prop) (hx : SqL K H a xs) (h0 : Pv 0 σ H) (hG : ∀ i σ H, i ≤ xs.length → Pv i σ H → SqL K H a xs)
    (hs : ∀ i x T σ H H', xs[i]? = some x → Pv i σ H → H T = none → Same H H' → H' T = some (.tup [.int (i : Nat), x]) → g (.ref T) σ H' fun σ2 H2 => tb ⟨Pv (i + 1), rt, nx, Pv (i + 1)⟩ σ2 H2) (hd : ∀ σ H, Pv xs.length σ H → nx σ H) :
    ∃ p us, [V.ref a] = [.ref p] ∧ SqL K H p us ∧ WFor (Ite K p) g tb nx rt σ H :=
  ⟨a, xs, rfl, hx, wfor_it walk_enum Pv h0 hG (fun i v σ H H' hi p ⟨T, x, y, e, nT, e2, h1, h2⟩ => by
    subst e e2
    obtain rfl : V.int (i : Nat) = x := Option.some.inj h1
    exact hs i y T σ H _ h2 p nT (Same.one nT) upd_same) hd⟩
theorem fl_rev (Pv : Nat → L2.St → Hp → Prop) (hx : SqL K H a xs) (h0 : Pv 0 σ H) (hG : ∀ i σ H, i ≤ xs.length → Pv i σ H → SqL K H a xs)
    (hs : ∀ i x σ H, i < xs.length → xs[xs.length - 1 - i]? = some x → Pv i σ H → g x σ H fun σ2 H2 => tb ⟨Pv (i + 1), rt, nx, Pv (i + 1)⟩ σ2 H2) (hd : ∀ σ H, Pv xs.length σ H → nx σ H) :
    ∃ (p : Addr) (us : List V), V.ref a = .ref p ∧ ((SqL K H p us ∧ WFor (Itv K p us.length) g tb nx rt σ H) ∨ (SqT K H p us ∧ WFor (RT.ItvT K p us.length) g tb nx rt σ H)) :=
  ⟨a, xs, rfl, .inl ⟨hx, wfor_it walk_rev Pv h0 hG (fun i x σ H H' hi p ⟨e, h⟩ => by subst e; exact hs i x σ _ hi h p) hd⟩⟩
/-- [e for x, y in zip(xs, ys) if ..], its names at i and j -/
theorem wipe2 (σ : L2.St) (i j : Nat) (x y : Option V) (h : i ≠ j) : wipe (((wipe σ [i, j]).set i x).set j y) [i, j] = wipe σ [i, j] := by
  show ((((((σ.set j none).set i none).set i x).set j y).set j none).set i none) = (σ.set j none).set i none
  apply List.ext_getElem?
  intro k
  simp only [List.getElem?_set, List.length_set]
  grind
theorem lc_zip {i0 j0 : Nat} (hij : i0 ≠ j0) (Pv : Addr → Nat → List V → Hp → Prop) (hx : SqL K H a xs) (hy : SqL K H b ys) (h0 : ∀ D H', H D = none → Same H H' → H' D = some (.lst []) → Pv D 0 [] H')
    (hG : ∀ D, H D = none → ∀ i zs H', i ≤ min xs.length ys.length → H' D = some (.lst zs) → Pv D i zs H' → SqL K H' a xs ∧ SqL K H' b ys)
    (hs : ∀ D, H D = none → ∀ i x y zs H0 H', xs[i]? = some x → ys[i]? = some y → zs.length ≤ i → H0 D = some (.lst zs) → Pv D i zs H0 → Same H0 H' → tt (((wipe σ [i0, j0]).set i0 (some x)).set j0 (some y)) H' fun b H3 => if b = true then te (((wipe σ [i0, j0]).set i0 (some x)).set j0 (some y)) H3 fun y H4 => LcEnd D (Pv D) i y H4 else LcSkip D (Pv D) i H3)
    (hd : ∀ D, H D = none → ∀ zs H', zs.length ≤ min xs.length ys.length → H' D = some (.lst zs) → Pv D (min xs.length ys.length) zs H' → Q (.ref D) H') :
    ∃ p q us ws, [V.ref a, .ref b] = [.ref p, .ref q] ∧ SqL K H p us ∧ SqL K H q ws ∧ ∀ D, H D = none → WLc (Itz K p q) (gSeq K 2 (gCons (gName i0) (gCons (gName j0) gNil))) tt te [i0, j0] σ D H Q :=
  ⟨a, b, xs, ys, rfl, hx, hy, wlc_it (walk_zip rfl) Pv h0 hG (fun D hD i v zs H0 H' hi hl e p ⟨T, x, y, ev, nT, e2, h1, h2⟩ => by
    subst ev e2
    exact w_seqT (SqT.of upd_same) rfl (w_gCons (w_gName (w_gCons (w_gName (w_gNil ⟨wipe2 _ _ _ _ _ hij, hs D hD i x y zs H0 _ h1 h2 hl e p (Same.one nT)⟩)))))) hd⟩
end
/-! ### isinstance -/
section
variable {K : PySem.W.Frag} {H : Hp} {Q : VK} {x : V}
theorem call_isiA {X : Cx} {K : PySem.W.Frag} (hK : X.K = K) : CallR X (.builtin "isinstance") (rIsi K) := by
  subst hK
  exact call_isi
theorem pe_gS {X : Cx} {x z : Str} {pos : Pos} (hg : Gl X x) (hm : ∃ t, X.mg x = some (.str z t)) (hd : (x == ("__debug__" : Str)) = false := by decide) : PE X (.Name x pos) (tC (.str z)) := by
  obtain ⟨t, hm⟩ := hm
  exact pe_glob hg hm ⟨t, rfl⟩ hd
theorem pe_gI {X : Cx} {x : Str} {z : Int} {pos : Pos} (hg : Gl X x) (hm : ∃ t, X.mg x = some (.int z t)) (hd : (x == ("__debug__" : Str)) = false := by decide) : PE X (.Name x pos) (tC (.int z)) := by
  obtain ⟨t, hm⟩ := hm
  exact pe_glob hg hm ⟨t, rfl⟩ hd
theorem w_isi {T : String} {a : String} {b : Bool} (h : TyX K H x (.type a)) (e : kitB a T = some b) (k : Q (.bl b) H) : rIsi K [x, .ty T] H Q := ⟨x, .ty T, .type a, .type T, b, rfl, .ty T, h, kit_ty e, k⟩
theorem ty_int {n : Int} : TyX K H (.int n) (.type "int") := .base (.int n)
theorem ty_bl {n : Bool} : TyX K H (.bl n) (.type "bool") := .base (.bl n)
theorem ty_str {n : Str} : TyX K H (.str n) (.type "str") := .base (.str n)
theorem ty_non : TyX K H .non (.type "NoneType") := .base .non
theorem ty_lst {a : Addr} {xs : List V} (h : H a = some (.lst xs)) : TyX K H (.ref a) (.type "list") := .base (.lst h)
theorem ty_sqT {a : Addr} {xs : List V} (h : SqT K H a xs) : TyX K H (.ref a) (.type "tuple") := by
  rcases h with (h | ⟨o, h⟩) | ⟨o, its, n, e, c, _⟩
  · exact .base (.tup h)
  · exact .fTuple h
  · exact .kTuple e c
theorem ty_tup {a : Addr} {xs : List V} (h : H a = some (.tup xs)) : TyX K H (.ref a) (.type "tuple") := .base (.tup h)
theorem ty_dic {a : Addr} {xs : List (Key × V)} (h : H a = some (.dK xs)) : TyX K H (.ref a) (.type "dict") := .base (.dK h)
/-- isinstance with a written tuple of classes -/
def kitAnyB (a : String) : List String → Option Bool
  | [] => some false
  | T :: r => match kitB a T with
    | some true => some true
    | some false => kitAnyB a r
    | none => none
theorem kitAnyB_ok {a : String} : ∀ {Ts : List String} {b : Bool}, kitAnyB a Ts = some b → PySem.W.kitAny K (.type a) (Ts.map Value.type) = some b
  | [], b, h => by
    have : some false = some b := h
    rw [← this]; exact kitAny_nil
  | T :: r, b, h => by
    unfold kitAnyB at h
    cases e : kitB a T with
    | none => rw [e] at h; cases h
    | some c =>
      rw [e] at h
      cases c with
      | true =>
        have : some true = some b := h
        cases this
        exact kitAny_cons (kit_ty e) (fun z => nomatch z) (fun _ => rfl)
      | false => exact kitAny_cons (kit_ty e) (fun _ => kitAnyB_ok h) (fun z => nomatch z)
theorem paired_ty : ∀ Ts : List String, Paired ClsV (Ts.map V.ty) (Ts.map Value.type)
  | [] => .nil
  | T :: r => .cons (.ty T) (paired_ty r)
theorem call_isiTA {X : Cx} {K : PySem.W.Frag} (hK : X.K = K) : CallR X (.builtin "isinstance") (rIsiT K) := by
  subst hK
  exact call_isiT
theorem w_isiT {tp : Addr} {a : String} {b : Bool} (Ts : List String) (h1 : H tp = some (.tup (Ts.map V.ty))) (h : TyX K H x (.type a)) (e : kitAnyB a Ts = some b) (k : Q (.bl b) H) : rIsiT K [x, .ref tp] H Q :=
  ⟨x, tp, _, .type a, _, b, rfl, h1, paired_ty Ts, h, kitAnyB_ok e, k⟩
/-- tuple(xs), list(xs) -/
def rTupOf (K : PySem.W.Frag) : List V → Hp → VK → Prop := fun xs H Q => ∃ p ys, xs = [.ref p] ∧ ((SqL K H p ys ∧ NewO (.tup ys) H Q) ∨ (SqT K H p ys ∧ Q (.ref p) H))
theorem call_tupA {X : Cx} {K : PySem.W.Frag} (hK : X.K = K) : CallR X (.type "tuple") (rTupOf K) := by
  subst hK
  exact call_tuple_of
theorem w_tupL {p : Addr} {ys : List V} (h : SqL K H p ys) (k : NewO (.tup ys) H Q) : rTupOf K [.ref p] H Q := ⟨p, ys, rfl, .inl ⟨h, k⟩⟩
theorem w_tupT {p : Addr} {ys : List V} (h : SqT K H p ys) (k : Q (.ref p) H) : rTupOf K [.ref p] H Q := ⟨p, ys, rfl, .inr ⟨h, k⟩⟩
def rListOf (K : PySem.W.Frag) : List V → Hp → VK → Prop := fun xs H Q => ∃ p ys, xs = [.ref p] ∧ (SqL K H p ys ∨ SqT K H p ys) ∧ NewO (.lst ys) H Q
theorem call_listA {X : Cx} {K : PySem.W.Frag} (hK : X.K = K) : CallR X (.type "list") (rListOf K) := by
  subst hK
  exact call_list_of
theorem w_listL {p : Addr} {ys : List V} (h : SqL K H p ys) (k : NewO (.lst ys) H Q) : rListOf K [.ref p] H Q := ⟨p, ys, rfl, .inl h, k⟩
theorem w_listT {p : Addr} {ys : List V} (h : SqT K H p ys) (k : NewO (.lst ys) H Q) : rListOf K [.ref p] H Q := ⟨p, ys, rfl, .inr h, k⟩
theorem w_slT {σ : L2.St} {lo hi : Option Int} {a : Addr} {xs : List V} (h : SqT K H a xs) (n : ¬ (HT.sIx xs.length 0 lo = 0 ∧ HT.sIx xs.length xs.length hi = xs.length)) (k : NewO (.tup (cutV xs lo hi)) H Q) : rSlAny K (.ref a) lo hi H Q :=
  .inr (.inr ⟨a, xs, rfl, h, fun z => (n z).elim, fun _ => k⟩)
/-- t[1:] -/
theorem cut1 (x : V) (xs : List V) : cutV (x :: xs) (some 1) none = xs := by
  unfold cutV
  have e : HT.sIx (x :: xs).length 0 (some 1) = 1 := by
    show (if (1 : Int) < 0 then ((1 : Int) + ((x :: xs).length : Int)).toNat else min (1 : Int).toNat (x :: xs).length) = 1
    rw [if_neg (by decide), List.length_cons]
    show min 1 (xs.length + 1) = 1
    omega
  rw [e, HT.sIx_none, List.drop_one, List.tail_cons, List.take_of_length_le (by rw [List.length_cons]; omega)]
theorem w_slT1 {σ : L2.St} {a : Addr} {x : V} {xs : List V} (h : SqT K H a (x :: xs)) (k : NewO (.tup xs) H Q) : rSlAny K (.ref a) (some 1) none H Q := w_slT (σ := σ) h (by
  intro ⟨z, _⟩
  have e : HT.sIx (x :: xs).length 0 (some 1) = 1 := by
    show (if (1 : Int) < 0 then ((1 : Int) + ((x :: xs).length : Int)).toNat else min (1 : Int).toNat (x :: xs).length) = 1
    rw [if_neg (by decide), List.length_cons]
    show min 1 (xs.length + 1) = 1
    omega
  rw [e] at z
  cases z) (by rw [cut1]; exact k)
/-- xs[::-1] -/
theorem w_revL {σ : L2.St} {te : TE} (k : te σ H fun x H1 => ∃ a xs, x = .ref a ∧ SqL K H1 a xs ∧ NewO (.lst xs.reverse) H1 Q) : tRevL K te σ H Q := k
theorem w_ref2 {a : Addr} {xs : List V} {R : Addr → List V → Prop} (k : R a xs) : ∃ b ys, V.ref a = .ref b ∧ R b ys := ⟨a, xs, rfl, k⟩
/-- dicts: displays, look-ups -/
theorem w_disp {σ : L2.St} {trs : List (TE × TE)} (k : ∀ p H', H p = none → Same H H' → H' p = some (.dK []) → tPairs trs σ H' fun ps H2 => H2 p = some (.dK []) ∧ ∃ kvs : List (Key × V), ps = kvs.map (fun kv => (kV kv.1, kv.2)) ∧ kvs.length ≤ 15 ∧ ChgO p (.dK (mergeK [] kvs)) H2 (Q (.ref p))) : tDisp trs σ H Q :=
  fun p hp => k p _ hp (Same.one hp) upd_same
theorem w_pairN {σ : L2.St} {R : List (V × V) → Hp → Prop} (k : R [] H) : tPairs [] σ H R := k
theorem w_pairC {σ : L2.St} {tk tv : TE} {r : List (TE × TE)} {R : List (V × V) → Hp → Prop} (k : tk σ H fun x H1 => tv σ H1 fun y H2 => tPairs r σ H2 fun ps H3 => R ((x, y) :: ps) H3) : tPairs ((tk, tv) :: r) σ H R := k
theorem w_dget {σ : L2.St} {td ty : TE} (k : td σ H fun x H1 => ty σ H1 fun y H2 => ∃ a v, x = .ref a ∧ DGet H2 a y (some v) ∧ Q v H2) : tDGet td ty σ H Q := k
theorem w_dgotS {a : Addr} {kvs : List (Key × V)} {z : Str} {v : V} {R : V → Prop} (h : H a = some (.dK kvs)) (e : valV kvs (.inr z) = some v) (k : R v) : ∃ b v, V.ref a = .ref b ∧ DGet H b (.str z) (some v) ∧ R v := ⟨a, v, rfl, by rw [← e]; exact DGet.k (k := .inr z) h, k⟩
theorem w_dgotI {a : Addr} {kvs : List (Key × V)} {z : Int} {v : V} {R : V → Prop} (h : H a = some (.dK kvs)) (e : valV kvs (.inl z) = some v) (k : R v) : ∃ b v, V.ref a = .ref b ∧ DGet H b (.int z) (some v) ∧ R v := ⟨a, v, rfl, by rw [← e]; exact DGet.k (k := .inl z) h, k⟩
/-- texts in lists, and their == -/
theorem dpAll_strs : ∀ ns : List Str, DpAll K H (ns.map V.str) (ns.map PyData.str)
  | [] => .nil
  | n :: ns => .cons (.str n) (dpAll_strs ns)
theorem dp_strs {a : Addr} {ns : List Str} (h : SqL K H a (ns.map V.str)) : Dp K H (.ref a) (.list (ns.map PyData.str)) := .lst h (dpAll_strs ns)
theorem cleanAll_strs : ∀ ns : List Str, (ns.all PyData.strOk) = true → cleanAll (ns.map PyData.str) = true
  | [], _ => by simp [cleanAll]
  | n :: ns, h => by
    rw [List.all_cons, Bool.and_eq_true] at h
    rw [List.map_cons, cleanAll, cleanAll_strs ns h.2, clean, h.1]; rfl
theorem depthAll_strs : ∀ ns : List Str, PyData.depthAll (ns.map PyData.str) = 0
  | [] => by simp [PyData.depthAll]
  | n :: ns => by rw [List.map_cons, PyData.depthAll, depthAll_strs ns, PyData.depth]; rfl
theorem cmp_strs {ns : List Str} (h : (ns.all PyData.strOk) = true) : Cmp (.list (ns.map PyData.str)) := ⟨by rw [clean]; exact cleanAll_strs ns h, by rw [PyData.depth, depthAll_strs]; decide⟩
theorem map_str_inj {ns ms : List Str} : PyData.list (ns.map PyData.str) = .list (ms.map PyData.str) ↔ ns = ms := by
  constructor
  · intro h
    have h2 : ns.map PyData.str = ms.map PyData.str := by injection h
    exact (List.map_inj_right (f := PyData.str) (fun x y e => by injection e)).mp h2
  · intro h; rw [h]
theorem w_eqSL {p q : Addr} {ns ms : List Str} (h1 : SqL K H p (ns.map V.str)) (h2 : SqL K H q (ms.map V.str)) (o1 : (ns.all PyData.strOk) = true) (o2 : (ms.all PyData.strOk) = true) (k : Q (.bl (decide (ns = ms))) H) : rEqA K (.ref p) (.ref q) H Q :=
  w_eqP (dp_strs h1) (dp_strs h2) (cmp_strs o1) (cmp_strs o2) fun b hb => by
    rw [map_str_inj] at hb
    rw [show b = decide (ns = ms) by rw [Bool.eq_iff_iff, hb, decide_eq_true_eq]]
    exact k
theorem w_neSL {p q : Addr} {ns ms : List Str} (h1 : SqL K H p (ns.map V.str)) (h2 : SqL K H q (ms.map V.str)) (o1 : (ns.all PyData.strOk) = true) (o2 : (ms.all PyData.strOk) = true) (k : Q (.bl (!decide (ns = ms))) H) : rNeA K (.ref p) (.ref q) H Q :=
  w_neP (dp_strs h1) (dp_strs h2) (cmp_strs o1) (cmp_strs o2) fun b hb => by
    rw [ne_eq, map_str_inj] at hb
    rw [show b = !decide (ns = ms) by rw [Bool.eq_iff_iff, hb]; simp]
    exact k
/-- a text cut by another one -/
def rSplit : V → List V → Hp → VK → Prop := fun x xs H Q => ∃ a b, x = .str a ∧ xs = [.str b] ∧ (b.length == 0) = false ∧ a.length + 2 ≤ sizeLine ∧ rNewStrs (Txt.split a b) H Q
theorem mt_splitA {X : Cx} : MtR X "str.split" rSplit := mt_split
theorem w_split {a b : Str} {ys : List Str} (e : Txt.split a b = ys) (hb : (b.length == 0) = false) (ha : a.length + 2 ≤ sizeLine) (k : NewO (.lst (ys.map V.str)) H Q) : rSplit (.str a) [.str b] H Q := ⟨a, b, rfl, rfl, hb, ha, by rw [e]; exact k⟩
end

/-! ### what no tuple loses -/
def TS (H H' : Hp) : Prop := ∀ b xs, (H b = some (.tup xs) → H' b = some (.tup xs)) ∧ ∀ u, H b = some (.frz u (.tup xs)) → H' b = some (.frz u (.tup xs))
theorem TS.of {H H' : Hp} (e : Same H H') : TS H H' := fun b _ => ⟨e b _, fun _ => e b _⟩
theorem TS.butL {s : Addr} {H H' : Hp} {ys : List V} (e : But s H H') (t : H s = some (.lst ys)) : TS H H' := fun b _ => ⟨fun h => e b _ (ne_of h t (by intro q; cases q)) h, fun _ h => e b _ (ne_of h t (by intro q; cases q)) h⟩
theorem TS.butS {s : Addr} {H H' : Hp} (e : But s H H') (t : Stm H s) : TS H H' := by
  obtain ⟨_, _, _, t⟩ := t
  exact TS.butL e t
theorem TS.butI {s C dx : Addr} {fs : List (Str × V)} {H H' : Hp} (e : But s H H') (t : H s = some (.ins C dx fs)) : TS H H' := fun b _ => ⟨fun h => e b _ (ne_of h t (by intro q; cases q)) h, fun _ h => e b _ (ne_of h t (by intro q; cases q)) h⟩
theorem TS.trans {H H1 H2 : Hp} (a : TS H H1) (b : TS H1 H2) : TS H H2 := fun c xs => ⟨fun h => (b c xs).1 ((a c xs).1 h), fun u h => (b c xs).2 u ((a c xs).2 u h)⟩
theorem TS.refl (H : Hp) : TS H H := fun _ _ => ⟨fun h => h, fun _ h => h⟩
theorem TS.sqT {K : PySem.W.Frag} {H H' : Hp} {a : Addr} {xs : List V} (e : TS H H') (h : SqT K H a xs) : SqT K H' a xs := by
  rcases h with (h | ⟨o, h⟩) | h
  · exact .inl (.inl ((e a xs).1 h))
  · exact .inl (.inr ⟨o, (e a xs).2 o h⟩)
  · exact .inr h
mutual
/-- tuples all the way -/
def tupD : PyData → Bool
  | .none => true
  | .int _ => true
  | .str _ => true
  | .bool _ => true
  | .list _ => false
  | .tuple xs => tupAll xs
  | .dict _ => false
def tupAll : List PyData → Bool
  | [] => true
  | x :: xs => tupD x && tupAll xs
end
mutual
theorem dp_ts {K : PySem.W.Frag} {H H' : Hp} (e : TS H H') : ∀ (d : PyData) (v : V), tupD d = true → Dp K H v d → Dp K H' v d
  | .none, _, _, h => by cases h; exact .non
  | .int _, _, _, h => by cases h; exact .int _
  | .str _, _, _, h => by cases h; exact .str _
  | .bool _, _, _, h => by cases h; exact .bl _
  | .list _, _, t, _ => by simp [tupD] at t
  | .tuple ds, _, t, h => by
    cases h with
    | tup hs ha => exact .tup (e.sqT hs) (dpAll_ts e ds _ (by simpa [tupD] using t) ha)
  | .dict _, _, t, _ => by simp [tupD] at t
theorem dpAll_ts {K : PySem.W.Frag} {H H' : Hp} (e : TS H H') : ∀ (ds : List PyData) (vs : List V), tupAll ds = true → DpAll K H vs ds → DpAll K H' vs ds
  | [], _, _, h => by cases h; exact .nil
  | d :: ds, _, t, h => by
    rw [tupAll, Bool.and_eq_true] at t
    cases h with
    | cons h1 h2 => exact .cons (dp_ts e d _ t.1 h1) (dpAll_ts e ds _ t.2 h2)
end
section
variable {K : PySem.W.Frag} {H : Hp}
theorem dp_tup {v : V} {ds : List PyData} (h : Dp K H v (.tuple ds)) : ∃ a xs, v = .ref a ∧ SqT K H a xs ∧ DpAll K H xs ds := by
  cases h with
  | tup hs ha => exact ⟨_, _, rfl, hs, ha⟩
theorem dp_str {v : V} {x : Str} (h : Dp K H v (.str x)) : v = .str x := by cases h; rfl
theorem dp_int {v : V} {x : Int} (h : Dp K H v (.int x)) : v = .int x := by cases h; rfl
theorem dpa_nil {vs : List V} (h : DpAll K H vs []) : vs = [] := by cases h; rfl
theorem dpa_cons {vs : List V} {d : PyData} {ds : List PyData} (h : DpAll K H vs (d :: ds)) : ∃ v r, vs = v :: r ∧ Dp K H v d ∧ DpAll K H r ds := by
  cases h with
  | cons a b => exact ⟨_, _, rfl, a, b⟩
theorem dpa_len : ∀ {ds : List PyData} {vs : List V}, DpAll K H vs ds → vs.length = ds.length
  | [], _, h => by cases h; rfl
  | d :: ds, _, h => by
    cases h with
    | cons a b => rw [List.length_cons, List.length_cons, dpa_len b]
theorem dpa_app : ∀ {ds es : List PyData} {vs us : List V}, DpAll K H vs ds → DpAll K H us es → DpAll K H (vs ++ us) (ds ++ es)
  | [], _, _, _, h, h' => by cases h; exact h'
  | d :: ds, _, _, _, h, h' => by
    cases h with
    | cons a b => exact .cons a (dpa_app b h')
theorem dpa_one {v : V} {d : PyData} (h : Dp K H v d) : DpAll K H [v] [d] := .cons h .nil
theorem dpa_at : ∀ {ds : List PyData} {vs : List V} {i : Nat} {d : PyData}, DpAll K H vs ds → ds[i]? = some d → ∃ v, vs[i]? = some v ∧ Dp K H v d
  | [], _, i, _, _, e => by simp at e
  | d :: ds, _, 0, _, h, e => by
    cases h with
    | cons a b => simp at e; subst e; exact ⟨_, rfl, a⟩
  | d :: ds, _, i + 1, _, h, e => by
    cases h with
    | cons a b =>
      have q := dpa_at (ds := ds) (i := i) b (by simpa using e)
      exact q
theorem dpa_at' : ∀ {ds : List PyData} {vs : List V} {i : Nat} {v : V}, DpAll K H vs ds → vs[i]? = some v → ∃ d, ds[i]? = some d ∧ Dp K H v d
  | [], _, i, _, h, e => by cases h; simp at e
  | d :: ds, _, 0, _, h, e => by
    cases h with
    | cons a b => simp at e; subst e; exact ⟨_, rfl, a⟩
  | d :: ds, _, i + 1, _, h, e => by
    cases h with
    | cons a b =>
      have q := dpa_at' (ds := ds) (i := i) b (by simpa using e)
      exact q
theorem tupAll_app : ∀ (a b : List PyData), tupAll (a ++ b) = (tupAll a && tupAll b)
  | [], _ => by simp [tupAll]
  | x :: a, b => by rw [List.cons_append, tupAll, tupAll, tupAll_app a b, Bool.and_assoc]
theorem cleanAll_app : ∀ (a b : List PyData), cleanAll (a ++ b) = (cleanAll a && cleanAll b)
  | [], _ => by simp [cleanAll]
  | x :: a, b => by rw [List.cons_append, cleanAll, cleanAll, cleanAll_app a b, Bool.and_assoc]
end

/-! ### places -/
theorem atI_of {α : Type} {xs : List α} {n : Int} {v : α} (h0 : 0 ≤ n) (h : xs[n.toNat]? = some v) : atI xs n = some v := by
  have e : ((n.toNat : Nat) : Int) = n := Int.toNat_of_nonneg h0
  have q := atI_nat h
  rw [e] at q
  exact q
theorem at0 {α : Type} {a : α} {xs : List α} : atI (a :: xs) 0 = some a := atI_of (Int.le_refl 0) rfl
theorem at1 {α : Type} {a b : α} {xs : List α} : atI (a :: b :: xs) 1 = some b := atI_of (by decide) rfl
theorem at2 {α : Type} {a b c : α} {xs : List α} : atI (a :: b :: c :: xs) 2 = some c := atI_of (by decide) rfl
theorem atI_some {α : Type} {xs : List α} {n : Int} (h0 : 0 ≤ n) (h : n < xs.length) : ∃ v, atI xs n = some v ∧ v ∈ xs ∧ xs[n.toNat]? = some v := by
  have hl : n.toNat < xs.length := by omega
  refine ⟨xs[n.toNat], atI_of h0 (List.getElem?_eq_getElem hl), List.getElem_mem hl, List.getElem?_eq_getElem hl⟩

theorem cdw {i j : Int} (h : 0 < j) (h2 : j < 2 ^ 200) : CDivW i j := wide_div (b := 200) h (by omega) (by decide) (by decide)
/-! ### defs by names -/
/-- the def at f keeps the promise sp -/
def FnA (P : Program) (w : World) (K : PySem.W.Frag) (mg : Str → Option Value) (f : Addr) (k : Nat) (ps : List Str) (sp : Sp) : Prop :=
  ∃ fd, (∀ base, FnOk P w K mg base CX0 k f fd ps sp) ∧ Binds K fd ps [] ∧ ∀ (s : Shared) (us : List Value), us.length = ps.length → BindsTo s fd ⟨us, []⟩ (ps.zip us)
/-- the def of the name x keeps the promise sp -/
structure Fn (P : Program) (w : World) (K : PySem.W.Frag) (mg : Str → Option Value) (x : Str) (k : Nat) (ps : List Str) (sp : Sp) : Prop where
  ex : FnA P w K mg (He.ga K x) k ps sp
  gl : mg x = some (.ref (He.ga K x))
  kp : PySem.W.keepIn K (.ref (He.ga K x)) = true
section
variable {X : Cx} {k : Nat} {x : Str} {ps : List Str} {sp : Sp} {p pos : Pos} {e : Expr} {es : List Expr} {t : TA}
theorem pe_fn (F : Fn X.prog X.w X.K X.mg x k ps sp) (hr : Room k X.A) (hg : Gl X x) (ha : PA X (e :: es) t)
    (hdb : (x == ("__debug__" : Str)) = false := by decide) (he : starEach (e :: es) X.env = (false, eval e X.env) :: starEach es X.env := by rfl) (hpl : (backTo pos (starEach es X.env)).any (·.1) = false := by rfl) :
    PE X (.Call (.Name x p) (e :: es) [] pos) (tCall sp [] E0 t) := by
  obtain ⟨fd, G, b, _⟩ := F.ex
  exact pe_call (G X.base) hr hg F.gl F.kp b .nil pass0 ha hdb he hpl
theorem pe_fn0 (F : Fn X.prog X.w X.K X.mg x k ps sp) (hr : Room k X.A) (hg : Gl X x) (hdb : (x == ("__debug__" : Str)) = false := by decide) :
    PE X (.Call (.Name x p) [] [] pos) (tCall sp [] E0 tNil) := by
  obtain ⟨fd, G, b, _⟩ := F.ex
  exact pe_call0 (G X.base) hr hg F.gl F.kp b .nil pass0 hdb
end
/-- a def's data as the head tells it -/
theorem FnA.mk' {P : Program} {w : World} {K : PySem.W.Frag} {mg : Str → Option Value} {x q : Str} {k : Nat} {N ps : List Str} {sp : Sp} {args : Arguments} {body : List Stmt} {sc : Scope} {f : Addr} {fd : FuncData}
    (F : FunD K x q args body sc [] [] f fd) (S : FnScope N ps sc) (len : ∀ vs H Q E, sp vs H Q E → vs.length = ps.length)
    (hb : ∀ (kV doc pm : Value) (an : Option Addr) (cdv ct : Value) (us : List Value), us.length = ps.length → bindArgs (PySem.W.fnOf x q args body sc .none kV doc pm an cdv ct) ⟨us, []⟩ = pure (ps.zip us))
    (hbody : ∀ (base : Heap) (cdv : Value) (A : Around) (outer : List Env) (s : Shared) (H : Hp) (vs : List V) (Q : VK) (E : XK), Room k (A.deeper (envOfC q sc s.heap.objs.size f cdv)) → sp vs H Q E →
      ∃ t, PSs (cxOf CX0 P w K mg base N q sc f cdv A outer s H E).nox body t ∧ t ⟨fun _ H' => Q .non H', Q, fun _ _ => False, fun _ _ => False⟩ (start N vs) H) : FnA P w K mg f (k + 1) ps sp :=
  ⟨fd, fun base => F.ok S len fun cdv A outer s H vs Q E hr h => by
      obtain ⟨t, d, q⟩ := hbody base cdv A outer s H vs Q E hr h
      exact ⟨t, d.nox, q⟩, F.bindsN hb, F.bindsA hb⟩
theorem Fn.mk' {P : Program} {w : World} {K : PySem.W.Frag} {mg : Str → Option Value} {x : Str} {k : Nat} {N ps : List Str} {sp : Sp} {args : Arguments} {body : List Stmt} {sc : Scope} {fd : FuncData}
    (F : FunD K x x args body sc [] [] (He.ga K x) fd) (gl : mg x = some (.ref (He.ga K x))) (S : FnScope N ps sc) (len : ∀ vs H Q E, sp vs H Q E → vs.length = ps.length)
    (hb : ∀ (kV doc pm : Value) (an : Option Addr) (cdv ct : Value) (us : List Value), us.length = ps.length → bindArgs (PySem.W.fnOf x x args body sc .none kV doc pm an cdv ct) ⟨us, []⟩ = pure (ps.zip us))
    (hbody : ∀ (base : Heap) (cdv : Value) (A : Around) (outer : List Env) (s : Shared) (H : Hp) (vs : List V) (Q : VK) (E : XK), Room k (A.deeper (envOfC x sc s.heap.objs.size (He.ga K x) cdv)) → sp vs H Q E →
      ∃ t, PSs (cxOf CX0 P w K mg base N x sc (He.ga K x) cdv A outer s H E).nox body t ∧ t ⟨fun _ H' => Q .non H', Q, fun _ _ => False, fun _ _ => False⟩ (start N vs) H) : Fn P w K mg x (k + 1) ps sp :=
  ⟨FnA.mk' F S len hb hbody, gl, F.kp⟩
/-! ### classes of the text -/
def tMet (C : Addr) (m : Str) (sp : Sp) (to : TE) (t : TA) : TE := fun σ H Q => to σ H fun x H1 => ∃ a dx fs, x = .ref a ∧ H1 a = some (.ins C dx fs) ∧ fs.lookup m = none ∧ t σ H1 fun vs H2 => sp (x :: vs) H2 Q E0
def tMkI (C : Addr) (sp : Sp) (t : TA) : TE := fun σ H Q => t σ H fun vs H1 => ∀ x dx, H1 x = none → H1 dx = none → dx ≠ x → sp (.ref x :: vs) (upd (upd H1 dx (.own x)) x (.ins C dx [])) (fun v H2 => v = .non ∧ Q (.ref x) H2) E0
theorem tMet_eq (C : Addr) (m : Str) (sp : Sp) (to : TE) (t : TA) : tMeth C m sp [] E0 to t = tMet C m sp to t := by
  unfold tMeth tMet
  simp only [List.append_nil]
theorem tMkI_eq (C : Addr) (sp : Sp) (t : TA) : tMake C sp [] E0 t = tMkI C sp t := by
  unfold tMake tMkI
  simp only [List.append_nil]
theorem PE.or {X : Cx} {e : Expr} {t u : TE} (h : PE X e t) (h' : PE X e u) : PE X e (fun σ H Q => t σ H Q ∨ u σ H Q) := ⟨fun pins s σ H Q I q => by
  rcases q with q | q
  · exact h.run pins s σ H Q I q
  · exact h'.run pins s σ H Q I q⟩
section
variable {X : Cx} {K : PySem.W.Frag} {k : Nat} {m x : Str} {ps : List Str} {sp : Sp} {p pos apos : Pos} {o e : Expr} {es : List Expr} {to : TE} {t : TA} {C : Addr}
theorem pe_met {pl : Sem Bool} (F : FnA X.prog X.w X.K X.mg (He.ma K C m) k ps sp) (hK : X.K = K) (cl : Cls K C) (me : Meth K C m (He.ma K C m)) (hr : Room k X.A) (he : PE X o to) (ha : PA X (e :: es) t)
    (hst : starEach (e :: es) X.env = (false, eval e X.env) :: starEach es X.env := by rfl) (hpl : (backTo pos (starEach es X.env)).any (·.1) = false := by rfl)
    (ht : eval (.Call (.Attribute o m apos) (e :: es) [] pos) X.env = (do
      let ov ← eval o X.env
      standAt apos.atName
      let (f, first) ← holding [ov] (getMethod ov m pl)
      callWith pos f first (backTo pos (starEach (e :: es) X.env)) (backToKw pos (keywordEach [] X.env))) := by rfl) : PE X (.Call (.Attribute o m apos) (e :: es) [] pos) (tMet C m sp to t) := by
  subst hK
  obtain ⟨fd, G, b, _⟩ := F
  rw [← tMet_eq]
  exact pe_meth he cl me (G X.base) hr b .nil pass0 ha hst hpl ht
theorem pe_met0 {pl : Sem Bool} (F : FnA X.prog X.w X.K X.mg (He.ma K C m) k ps sp) (hK : X.K = K) (cl : Cls K C) (me : Meth K C m (He.ma K C m)) (hr : Room k X.A) (he : PE X o to)
    (ht : eval (.Call (.Attribute o m apos) [] [] pos) X.env = (do
      let ov ← eval o X.env
      standAt apos.atName
      let (f, first) ← holding [ov] (getMethod ov m pl)
      callWith pos f first (backTo pos (starEach [] X.env)) (backToKw pos (keywordEach [] X.env))) := by rfl) : PE X (.Call (.Attribute o m apos) [] [] pos) (tMet C m sp to tNil) := by
  subst hK
  obtain ⟨fd, G, b, _⟩ := F
  rw [← tMet_eq]
  exact pe_meth0 he cl me (G X.base) hr b .nil pass0 ht
theorem pe_mkI (F : FnA X.prog X.w X.K X.mg (He.ma K C "__init__") k ps sp) (hK : X.K = K) (M : Mk K C (He.ma K C "__init__")) (hm : X.mg x = some (.ref C)) (hr : Room (k + 1) X.A) (hg : Gl X x) (ha : PA X (e :: es) t)
    (hdb : (x == ("__debug__" : Str)) = false := by decide) (he : starEach (e :: es) X.env = (false, eval e X.env) :: starEach es X.env := by rfl) (hpl : (backTo pos (starEach es X.env)).any (·.1) = false := by rfl) :
    PE X (.Call (.Name x p) (e :: es) [] pos) (tMkI C sp t) := by
  subst hK
  obtain ⟨fd, G, b, _⟩ := F
  rw [← tMkI_eq]
  exact pe_make M (G X.base) hr hg hm b .nil pass0 ha hdb he hpl
theorem pe_mkI0 (F : FnA X.prog X.w X.K X.mg (He.ma K C "__init__") k ps sp) (hK : X.K = K) (M : Mk K C (He.ma K C "__init__")) (hm : X.mg x = some (.ref C)) (hr : Room (k + 1) X.A) (hg : Gl X x)
    (hdb : (x == ("__debug__" : Str)) = false := by decide) : PE X (.Call (.Name x p) [] [] pos) (tMkI C sp tNil) := by
  subst hK
  obtain ⟨fd, G, b, _⟩ := F
  rw [← tMkI_eq]
  exact pe_make0 M (G X.base) hr hg hm b .nil pass0 hdb
theorem pe_fldK {f : Str} (hK : X.K = K) (he : PE X o to) (hb : attributeBase o f X.env (eval o X.env) = eval o X.env := by rfl) : PE X (.Attribute o f pos) (tFld K to f) := by
  subst hK
  exact pe_fld he hb
end
section
variable {K : PySem.W.Frag} {σ : L2.St} {H : Hp} {Q : VK} {p C dx : Addr} {fs : List (Str × V)} {m f : Str} {v y : V} {sp : Sp} {to tv : TE} {t : TA} {nx : L2.St → Hp → Prop} {rt : VK} {bk ct : L2.St → Hp → Prop}
theorem w_met (k : to σ H fun x H1 => ∃ a dx fs, x = .ref a ∧ H1 a = some (.ins C dx fs) ∧ fs.lookup m = none ∧ t σ H1 fun vs H2 => sp (x :: vs) H2 Q E0) : tMet C m sp to t σ H Q := k
theorem w_metAt {R : Prop} (h : H p = some (.ins C dx fs)) (l : fs.lookup m = none) (k : R) : ∃ a dx fs, V.ref p = .ref a ∧ H a = some (.ins C dx fs) ∧ fs.lookup m = none ∧ R := ⟨p, dx, fs, rfl, h, l, k⟩
def NewI (C : Addr) (sp : Sp) (vs : List V) (H : Hp) (Q : VK) : Prop := ∀ x dx, H x = none → H dx = none → dx ≠ x → sp (.ref x :: vs) (upd (upd H dx (.own x)) x (.ins C dx [])) (fun v H2 => v = .non ∧ Q (.ref x) H2) E0
theorem w_mkI (k : t σ H fun vs H1 => NewI C sp vs H1 Q) : tMkI C sp t σ H Q := k
theorem w_newI {vs : List V} (k : ∀ x dx H', H x = none → Same H H' → H' x = some (.ins C dx []) → sp (.ref x :: vs) H' (fun v H2 => v = .non ∧ Q (.ref x) H2) E0) : NewI C sp vs H Q := fun x dx hx hdx ne =>
  k x dx _ hx (fun b o e => by
    rw [upd_ne (ne_of_none e hx), upd_ne (ne_of_none e hdx)]
    exact e) upd_same
theorem w_fld (k : to σ H fun x H1 => ∃ a C dx fs v, x = .ref a ∧ H1 a = some (.ins C dx fs) ∧ Cls K C ∧ NoAttr K C f ∧ fs.lookup f = some v ∧ Q v H1) : tFld K to f σ H Q := k
theorem w_fldAt {R : V → Prop} (h : H p = some (.ins C dx fs)) (cl : Cls K C) (na : NoAttr K C f) (l : fs.lookup f = some v) (k : R v) : ∃ a C dx fs v, V.ref p = .ref a ∧ H a = some (.ins C dx fs) ∧ Cls K C ∧ NoAttr K C f ∧ fs.lookup f = some v ∧ R v := ⟨p, C, dx, fs, v, rfl, h, cl, na, l, k⟩
theorem w_sfld (k : tv σ H fun y H1 => to σ H1 fun x H2 => ∃ a C dx fs, x = .ref a ∧ H2 a = some (.ins C dx fs) ∧ Cls K C ∧ NoAttr K C f ∧ fs.length < 1000 ∧ ChgO a (.ins C dx (putF f y fs)) H2 (nx σ)) : sFld K to tv f ⟨nx, rt, bk, ct⟩ σ H := k
theorem w_sfldAt {S : Hp → Prop} {gs : List (Str × V)} (h : H p = some (.ins C dx fs)) (cl : Cls K C) (na : NoAttr K C f) (hl : fs.length < 1000) (e : putF f y fs = gs) (k : ChgO p (.ins C dx gs) H S) :
    ∃ a C dx fs, V.ref p = .ref a ∧ H a = some (.ins C dx fs) ∧ Cls K C ∧ NoAttr K C f ∧ fs.length < 1000 ∧ ChgO a (.ins C dx (putF f y fs)) H S := ⟨p, C, dx, fs, rfl, h, cl, na, hl, by rw [e]; exact k⟩
end

end J
namespace J
open PySem PySem.Spec PyProof.Rows L2
def top (i : Nat) : Stmt := PySem.Challenge.pw_rowsjoined_k29_needs_and_the_best_order.main.body.getD i (.Pass ⟨0, 0, 0, 0⟩)
abbrev s_is_whole : Stmt := top 1
abbrev N_is_whole : List Str := ["thing"]
theorem sc_is_whole : FnScope N_is_whole ["thing"] (defScope s_is_whole) := ⟨rfl, rfl, rfl, by decide +kernel, rfl, by decide +kernel, by decide +kernel⟩
abbrev s_is_within : Stmt := top 2
abbrev N_is_within : List Str := ["thing", "low", "high"]
theorem sc_is_within : FnScope N_is_within ["thing", "low", "high"] (defScope s_is_within) := ⟨rfl, rfl, rfl, by decide +kernel, rfl, by decide +kernel, by decide +kernel⟩
abbrev s_Partsu_initu : Stmt := inClass (top 4) 0
abbrev N_Partsu_initu : List Str := ["self"]
theorem sc_Partsu_initu : FnScope N_Partsu_initu ["self"] (defScope s_Partsu_initu) := ⟨rfl, rfl, rfl, by decide +kernel, rfl, by decide +kernel, by decide +kernel⟩
abbrev s_Parts_part_in : Stmt := inClass (top 4) 1
abbrev N_Parts_part_in : List Str := ["self", "e", "own", "one"]
theorem sc_Parts_part_in : FnScope N_Parts_part_in ["self", "e"] (defScope s_Parts_part_in) := ⟨rfl, rfl, rfl, by decide +kernel, rfl, by decide +kernel, by decide +kernel⟩
abbrev s_rests_of : Stmt := top 5
abbrev N_rests_of : List Str := ["one"]
theorem sc_rests_of : FnScope N_rests_of ["one"] (defScope s_rests_of) := ⟨rfl, rfl, rfl, by decide +kernel, rfl, by decide +kernel, by decide +kernel⟩
abbrev s_parts_and_roots : Stmt := top 6
abbrev N_parts_and_roots : List Str := ["sets", "parts", "roots", "one", "e"]
theorem sc_parts_and_roots : FnScope N_parts_and_roots ["sets"] (defScope s_parts_and_roots) := ⟨rfl, rfl, rfl, by decide +kernel, rfl, by decide +kernel, by decide +kernel⟩
abbrev s_parts_of : Stmt := top 7
abbrev N_parts_of : List Str := ["sets", "parts", "roots"]
theorem sc_parts_of : FnScope N_parts_of ["sets"] (defScope s_parts_of) := ⟨rfl, rfl, rfl, by decide +kernel, rfl, by decide +kernel, by decide +kernel⟩
abbrev s_roots_of : Stmt := top 8
abbrev N_roots_of : List Str := ["sets", "parts", "roots"]
theorem sc_roots_of : FnScope N_roots_of ["sets"] (defScope s_roots_of) := ⟨rfl, rfl, rfl, by decide +kernel, rfl, by decide +kernel, by decide +kernel⟩
abbrev s_own_parts : Stmt := top 9
abbrev N_own_parts : List Str := ["part", "one"]
theorem sc_own_parts : FnScope N_own_parts ["part"] (defScope s_own_parts) := ⟨rfl, rfl, rfl, by decide +kernel, rfl, by decide +kernel, by decide +kernel⟩
abbrev s_is_order : Stmt := top 10
abbrev N_is_order : List Str := ["parts", "order", "ahead", "number", "own"]
theorem sc_is_order : FnScope N_is_order ["parts", "order"] (defScope s_is_order) := ⟨rfl, rfl, rfl, by decide +kernel, rfl, by decide +kernel, by decide +kernel⟩
abbrev s_held_by : Stmt := top 11
abbrev N_held_by : List Str := ["sets", "order", "parts", "found", "held", "number"]
theorem sc_held_by : FnScope N_held_by ["sets", "order"] (defScope s_held_by) := ⟨rfl, rfl, rfl, by decide +kernel, rfl, by decide +kernel, by decide +kernel⟩
abbrev s_needs_of : Stmt := top 12
abbrev N_needs_of : List Str := ["e", "one", "other"]
theorem sc_needs_of : FnScope N_needs_of ["e"] (defScope s_needs_of) := ⟨rfl, rfl, rfl, by decide +kernel, rfl, by decide +kernel, by decide +kernel⟩
abbrev s_falling : Stmt := top 13
abbrev N_falling : List Str := ["sets", "roots", "found", "one", "root", "e", "number"]
theorem sc_falling : FnScope N_falling ["sets"] (defScope s_falling) := ⟨rfl, rfl, rfl, by decide +kernel, rfl, by decide +kernel, by decide +kernel⟩
abbrev s_needs_of_sets : Stmt := top 14
abbrev N_needs_of_sets : List Str := ["sets", "found", "at", "less", "told", "number"]
theorem sc_needs_of_sets : FnScope N_needs_of_sets ["sets"] (defScope s_needs_of_sets) := ⟨rfl, rfl, rfl, by decide +kernel, rfl, by decide +kernel, by decide +kernel⟩
abbrev s_Orderu_initu : Stmt := inClass (top 15) 0
abbrev N_Orderu_initu : List Str := ["self", "parts", "part"]
theorem sc_Orderu_initu : FnScope N_Orderu_initu ["self", "parts"] (defScope s_Orderu_initu) := ⟨rfl, rfl, rfl, by decide +kernel, rfl, by decide +kernel, by decide +kernel⟩
abbrev s_Order_need_at : Stmt := inClass (top 15) 1
abbrev N_Order_need_at : List Str := ["self", "one"]
theorem sc_Order_need_at : FnScope N_Order_need_at ["self", "one"] (defScope s_Order_need_at) := ⟨rfl, rfl, rfl, by decide +kernel, rfl, by decide +kernel, by decide +kernel⟩
abbrev s_Order_need_of : Stmt := inClass (top 15) 2
abbrev N_Order_need_of : List Str := ["self", "part", "needs", "one"]
theorem sc_Order_need_of : FnScope N_Order_need_of ["self", "part"] (defScope s_Order_need_of) := ⟨rfl, rfl, rfl, by decide +kernel, rfl, by decide +kernel, by decide +kernel⟩
abbrev s_Order_go_through : Stmt := inClass (top 15) 3
abbrev N_Order_go_through : List Str := ["self", "number", "own", "one"]
theorem sc_Order_go_through : FnScope N_Order_go_through ["self", "number"] (defScope s_Order_go_through) := ⟨rfl, rfl, rfl, by decide +kernel, rfl, by decide +kernel, by decide +kernel⟩
abbrev s_best_order : Stmt := top 16
abbrev N_best_order : List Str := ["sets", "order", "less", "told", "number"]
theorem sc_best_order : FnScope N_best_order ["sets"] (defScope s_best_order) := ⟨rfl, rfl, rfl, by decide +kernel, rfl, by decide +kernel, by decide +kernel⟩
abbrev s_law_cell : Stmt := top 18
abbrev N_law_cell : List Str := ["script", "k"]
theorem sc_law_cell : FnScope N_law_cell ["script", "k"] (defScope s_law_cell) := ⟨rfl, rfl, rfl, by decide +kernel, rfl, by decide +kernel, by decide +kernel⟩
abbrev s_law_stream : Stmt := top 19
abbrev N_law_stream : List Str := ["cell"]
theorem sc_law_stream : FnScope N_law_stream ["cell"] (defScope s_law_stream) := ⟨rfl, rfl, rfl, by decide +kernel, rfl, by decide +kernel, by decide +kernel⟩
abbrev s_law_take : Stmt := top 20
abbrev N_law_take : List Str := ["stream", "many", "digit", "number"]
theorem sc_law_take : FnScope N_law_take ["stream", "many"] (defScope s_law_take) := ⟨rfl, rfl, rfl, by decide +kernel, rfl, by decide +kernel, by decide +kernel⟩
abbrev s_law_e : Stmt := top 21
abbrev N_law_e : List Str := ["stream", "deep", "way", "sel", "number", "field", "op"]
theorem sc_law_e : FnScope N_law_e ["stream", "deep"] (defScope s_law_e) := ⟨rfl, rfl, rfl, by decide +kernel, rfl, by decide +kernel, by decide +kernel⟩
abbrev s_law_sets : Stmt := top 22
abbrev N_law_sets : List Str := ["stream", "sets", "deep", "k", "way", "sel", "one"]
theorem sc_law_sets : FnScope N_law_sets ["stream"] (defScope s_law_sets) := ⟨rfl, rfl, rfl, by decide +kernel, rfl, by decide +kernel, by decide +kernel⟩
abbrev s_law_part : Stmt := top 23
abbrev N_law_part : List Str := ["e", "parts", "inner", "one", "other"]
theorem sc_law_part : FnScope N_law_part ["e", "parts"] (defScope s_law_part) := ⟨rfl, rfl, rfl, by decide +kernel, rfl, by decide +kernel, by decide +kernel⟩
abbrev s_law_parts : Stmt := top 24
abbrev N_law_parts : List Str := ["sets", "parts", "roots", "one", "first"]
theorem sc_law_parts : FnScope N_law_parts ["sets"] (defScope s_law_parts) := ⟨rfl, rfl, rfl, by decide +kernel, rfl, by decide +kernel, by decide +kernel⟩
abbrev s_law_own : Stmt := top 25
abbrev N_law_own : List Str := ["part", "one"]
theorem sc_law_own : FnScope N_law_own ["part"] (defScope s_law_own) := ⟨rfl, rfl, rfl, by decide +kernel, rfl, by decide +kernel, by decide +kernel⟩
abbrev s_law_need : Stmt := top 26
abbrev N_law_need : List Str := ["e", "needs", "one"]
theorem sc_law_need : FnScope N_law_need ["e"] (defScope s_law_need) := ⟨rfl, rfl, rfl, by decide +kernel, rfl, by decide +kernel, by decide +kernel⟩
abbrev s_law_trees : Stmt := top 27
abbrev N_law_trees : List Str := ["sets", "trees", "one"]
theorem sc_law_trees : FnScope N_law_trees ["sets"] (defScope s_law_trees) := ⟨rfl, rfl, rfl, by decide +kernel, rfl, by decide +kernel, by decide +kernel⟩
abbrev s_law_needs : Stmt := top 28
abbrev N_law_needs : List Str := ["sets", "needs", "tree", "need", "k"]
theorem sc_law_needs : FnScope N_law_needs ["sets"] (defScope s_law_needs) := ⟨rfl, rfl, rfl, by decide +kernel, rfl, by decide +kernel, by decide +kernel⟩
abbrev s_law_whole : Stmt := top 29
abbrev N_law_whole : List Str := ["found", "due"]
theorem sc_law_whole : FnScope N_law_whole ["found", "due"] (defScope s_law_whole) := ⟨rfl, rfl, rfl, by decide +kernel, rfl, by decide +kernel, by decide +kernel⟩
abbrev s_law_inner : Stmt := top 30
abbrev N_law_inner : List Str := ["e", "found", "one"]
theorem sc_law_inner : FnScope N_law_inner ["e"] (defScope s_law_inner) := ⟨rfl, rfl, rfl, by decide +kernel, rfl, by decide +kernel, by decide +kernel⟩
abbrev s_law_through : Stmt := top 31
abbrev N_law_through : List Str := ["parts", "number", "needs", "order", "own", "one"]
theorem sc_law_through : FnScope N_law_through ["parts", "number", "needs", "order"] (defScope s_law_through) := ⟨rfl, rfl, rfl, by decide +kernel, rfl, by decide +kernel, by decide +kernel⟩
abbrev s_law_part_needs : Stmt := top 32
abbrev N_law_part_needs : List Str := ["parts", "needs", "part", "own", "one"]
theorem sc_law_part_needs : FnScope N_law_part_needs ["parts"] (defScope s_law_part_needs) := ⟨rfl, rfl, rfl, by decide +kernel, rfl, by decide +kernel, by decide +kernel⟩
abbrev s_law_due_order : Stmt := top 33
abbrev N_law_due_order : List Str := ["sets", "parts", "roots", "needs", "rests", "root", "order", "one"]
theorem sc_law_due_order : FnScope N_law_due_order ["sets"] (defScope s_law_due_order) := ⟨rfl, rfl, rfl, by decide +kernel, rfl, by decide +kernel, by decide +kernel⟩
abbrev s_law_held : Stmt := top 34
abbrev N_law_held : List Str := ["sets", "order", "parts", "roots", "held", "found", "number", "one"]
theorem sc_law_held : FnScope N_law_held ["sets", "order"] (defScope s_law_held) := ⟨rfl, rfl, rfl, by decide +kernel, rfl, by decide +kernel, by decide +kernel⟩
abbrev s_law : Stmt := top 35
abbrev N_law : List Str := ["script", "k", "sets", "needed", "turn", "order", "held", "tree", "e"]
theorem sc_law : FnScope N_law ["script"] (defScope s_law) := ⟨rfl, rfl, rfl, by decide +kernel, rfl, by decide +kernel, by decide +kernel⟩
def fn : List He.DefD := [⟨("is_whole", none), "is_whole", "is_whole", defArgs s_is_whole, defBody s_is_whole, defScope s_is_whole, [], []⟩,
  ⟨("is_within", none), "is_within", "is_within", defArgs s_is_within, defBody s_is_within, defScope s_is_within, [], []⟩,
  ⟨("rests_of", none), "rests_of", "rests_of", defArgs s_rests_of, defBody s_rests_of, defScope s_rests_of, [], []⟩,
  ⟨("parts_and_roots", none), "parts_and_roots", "parts_and_roots", defArgs s_parts_and_roots, defBody s_parts_and_roots, defScope s_parts_and_roots, [], []⟩,
  ⟨("parts_of", none), "parts_of", "parts_of", defArgs s_parts_of, defBody s_parts_of, defScope s_parts_of, [], []⟩,
  ⟨("roots_of", none), "roots_of", "roots_of", defArgs s_roots_of, defBody s_roots_of, defScope s_roots_of, [], []⟩,
  ⟨("own_parts", none), "own_parts", "own_parts", defArgs s_own_parts, defBody s_own_parts, defScope s_own_parts, [], []⟩,
  ⟨("is_order", none), "is_order", "is_order", defArgs s_is_order, defBody s_is_order, defScope s_is_order, [], []⟩,
  ⟨("held_by", none), "held_by", "held_by", defArgs s_held_by, defBody s_held_by, defScope s_held_by, [], []⟩,
  ⟨("needs_of", none), "needs_of", "needs_of", defArgs s_needs_of, defBody s_needs_of, defScope s_needs_of, [], []⟩,
  ⟨("falling", none), "falling", "falling", defArgs s_falling, defBody s_falling, defScope s_falling, [], []⟩,
  ⟨("needs_of_sets", none), "needs_of_sets", "needs_of_sets", defArgs s_needs_of_sets, defBody s_needs_of_sets, defScope s_needs_of_sets, [], []⟩,
  ⟨("best_order", none), "best_order", "best_order", defArgs s_best_order, defBody s_best_order, defScope s_best_order, [], []⟩,
  ⟨("_law_cell", none), "_law_cell", "_law_cell", defArgs s_law_cell, defBody s_law_cell, defScope s_law_cell, [], []⟩,
  ⟨("_law_stream", none), "_law_stream", "_law_stream", defArgs s_law_stream, defBody s_law_stream, defScope s_law_stream, [], []⟩,
  ⟨("_law_take", none), "_law_take", "_law_take", defArgs s_law_take, defBody s_law_take, defScope s_law_take, [], []⟩,
  ⟨("_law_e", none), "_law_e", "_law_e", defArgs s_law_e, defBody s_law_e, defScope s_law_e, [], []⟩,
  ⟨("_law_sets", none), "_law_sets", "_law_sets", defArgs s_law_sets, defBody s_law_sets, defScope s_law_sets, [], []⟩,
  ⟨("_law_part", none), "_law_part", "_law_part", defArgs s_law_part, defBody s_law_part, defScope s_law_part, [], []⟩,
  ⟨("_law_parts", none), "_law_parts", "_law_parts", defArgs s_law_parts, defBody s_law_parts, defScope s_law_parts, [], []⟩,
  ⟨("_law_own", none), "_law_own", "_law_own", defArgs s_law_own, defBody s_law_own, defScope s_law_own, [], []⟩,
  ⟨("_law_need", none), "_law_need", "_law_need", defArgs s_law_need, defBody s_law_need, defScope s_law_need, [], []⟩,
  ⟨("_law_trees", none), "_law_trees", "_law_trees", defArgs s_law_trees, defBody s_law_trees, defScope s_law_trees, [], []⟩,
  ⟨("_law_needs", none), "_law_needs", "_law_needs", defArgs s_law_needs, defBody s_law_needs, defScope s_law_needs, [], []⟩,
  ⟨("_law_whole", none), "_law_whole", "_law_whole", defArgs s_law_whole, defBody s_law_whole, defScope s_law_whole, [], []⟩,
  ⟨("_law_inner", none), "_law_inner", "_law_inner", defArgs s_law_inner, defBody s_law_inner, defScope s_law_inner, [], []⟩,
  ⟨("_law_through", none), "_law_through", "_law_through", defArgs s_law_through, defBody s_law_through, defScope s_law_through, [], []⟩,
  ⟨("_law_part_needs", none), "_law_part_needs", "_law_part_needs", defArgs s_law_part_needs, defBody s_law_part_needs, defScope s_law_part_needs, [], []⟩,
  ⟨("_law_due_order", none), "_law_due_order", "_law_due_order", defArgs s_law_due_order, defBody s_law_due_order, defScope s_law_due_order, [], []⟩,
  ⟨("_law_held", none), "_law_held", "_law_held", defArgs s_law_held, defBody s_law_held, defScope s_law_held, [], []⟩,
  ⟨("law", none), "law", "law", defArgs s_law, defBody s_law, defScope s_law, [], []⟩,
  ⟨("Parts", some "__init__"), "__init__", "Parts.__init__", defArgs s_Partsu_initu, defBody s_Partsu_initu, defScope s_Partsu_initu, [], []⟩,
  ⟨("Parts", some "part_in"), "part_in", "Parts.part_in", defArgs s_Parts_part_in, defBody s_Parts_part_in, defScope s_Parts_part_in, [], []⟩,
  ⟨("Order", some "__init__"), "__init__", "Order.__init__", defArgs s_Orderu_initu, defBody s_Orderu_initu, defScope s_Orderu_initu, [], []⟩,
  ⟨("Order", some "need_at"), "need_at", "Order.need_at", defArgs s_Order_need_at, defBody s_Order_need_at, defScope s_Order_need_at, [], []⟩,
  ⟨("Order", some "need_of"), "need_of", "Order.need_of", defArgs s_Order_need_of, defBody s_Order_need_of, defScope s_Order_need_of, [], []⟩,
  ⟨("Order", some "go_through"), "go_through", "Order.go_through", defArgs s_Order_go_through, defBody s_Order_go_through, defScope s_Order_go_through, [], []⟩]
def fa : List He.Fa := [.glo "is_whole", .glo "is_within", .glo "rests_of", .glo "parts_and_roots", .glo "parts_of", .glo "roots_of", .glo "own_parts", .glo "is_order", .glo "held_by", .glo "needs_of", .glo "falling", .glo "needs_of_sets", .glo "best_order", .glo "_law_cell", .glo "_law_stream", .glo "_law_take", .glo "_law_e", .glo "_law_sets", .glo "_law_part", .glo "_law_parts", .glo "_law_own", .glo "_law_need", .glo "_law_trees", .glo "_law_needs", .glo "_law_whole", .glo "_law_inner", .glo "_law_through", .glo "_law_part_needs", .glo "_law_due_order", .glo "_law_held", .glo "law", .free "bool", .free "enumerate", .free "int", .free "isinstance", .free "len", .free "list", .free "max", .free "min", .free "range", .free "reversed", .free "sorted", .free "tuple", .free "zip", .glo "Parts", .cls "Parts", .mkr "Parts", .noat "Parts" "rows", .meth "Parts" "part_in", .glo "Order", .cls "Order", .mkr "Order", .noat "Order" "parts", .noat "Order" "order", .noat "Order" "needed", .meth "Order" "need_at", .meth "Order" "need_of", .meth "Order" "go_through"]
/-- what the head tells of the text -/
class Facts (K : PySem.W.Frag) (mg : outParam (Str → Option Value)) : Prop where
  d_is_whole : ∃ fd, FunD K "is_whole" "is_whole" (defArgs s_is_whole) (defBody s_is_whole) (defScope s_is_whole) [] [] (He.ga K "is_whole") fd
  g_is_whole : mg "is_whole" = some (.ref (He.ga K "is_whole"))
  d_is_within : ∃ fd, FunD K "is_within" "is_within" (defArgs s_is_within) (defBody s_is_within) (defScope s_is_within) [] [] (He.ga K "is_within") fd
  g_is_within : mg "is_within" = some (.ref (He.ga K "is_within"))
  d_rests_of : ∃ fd, FunD K "rests_of" "rests_of" (defArgs s_rests_of) (defBody s_rests_of) (defScope s_rests_of) [] [] (He.ga K "rests_of") fd
  g_rests_of : mg "rests_of" = some (.ref (He.ga K "rests_of"))
  d_parts_and_roots : ∃ fd, FunD K "parts_and_roots" "parts_and_roots" (defArgs s_parts_and_roots) (defBody s_parts_and_roots) (defScope s_parts_and_roots) [] [] (He.ga K "parts_and_roots") fd
  g_parts_and_roots : mg "parts_and_roots" = some (.ref (He.ga K "parts_and_roots"))
  d_parts_of : ∃ fd, FunD K "parts_of" "parts_of" (defArgs s_parts_of) (defBody s_parts_of) (defScope s_parts_of) [] [] (He.ga K "parts_of") fd
  g_parts_of : mg "parts_of" = some (.ref (He.ga K "parts_of"))
  d_roots_of : ∃ fd, FunD K "roots_of" "roots_of" (defArgs s_roots_of) (defBody s_roots_of) (defScope s_roots_of) [] [] (He.ga K "roots_of") fd
  g_roots_of : mg "roots_of" = some (.ref (He.ga K "roots_of"))
  d_own_parts : ∃ fd, FunD K "own_parts" "own_parts" (defArgs s_own_parts) (defBody s_own_parts) (defScope s_own_parts) [] [] (He.ga K "own_parts") fd
  g_own_parts : mg "own_parts" = some (.ref (He.ga K "own_parts"))
  d_is_order : ∃ fd, FunD K "is_order" "is_order" (defArgs s_is_order) (defBody s_is_order) (defScope s_is_order) [] [] (He.ga K "is_order") fd
  g_is_order : mg "is_order" = some (.ref (He.ga K "is_order"))
  d_held_by : ∃ fd, FunD K "held_by" "held_by" (defArgs s_held_by) (defBody s_held_by) (defScope s_held_by) [] [] (He.ga K "held_by") fd
  g_held_by : mg "held_by" = some (.ref (He.ga K "held_by"))
  d_needs_of : ∃ fd, FunD K "needs_of" "needs_of" (defArgs s_needs_of) (defBody s_needs_of) (defScope s_needs_of) [] [] (He.ga K "needs_of") fd
  g_needs_of : mg "needs_of" = some (.ref (He.ga K "needs_of"))
  d_falling : ∃ fd, FunD K "falling" "falling" (defArgs s_falling) (defBody s_falling) (defScope s_falling) [] [] (He.ga K "falling") fd
  g_falling : mg "falling" = some (.ref (He.ga K "falling"))
  d_needs_of_sets : ∃ fd, FunD K "needs_of_sets" "needs_of_sets" (defArgs s_needs_of_sets) (defBody s_needs_of_sets) (defScope s_needs_of_sets) [] [] (He.ga K "needs_of_sets") fd
  g_needs_of_sets : mg "needs_of_sets" = some (.ref (He.ga K "needs_of_sets"))
  d_best_order : ∃ fd, FunD K "best_order" "best_order" (defArgs s_best_order) (defBody s_best_order) (defScope s_best_order) [] [] (He.ga K "best_order") fd
  g_best_order : mg "best_order" = some (.ref (He.ga K "best_order"))
  d_law_cell : ∃ fd, FunD K "_law_cell" "_law_cell" (defArgs s_law_cell) (defBody s_law_cell) (defScope s_law_cell) [] [] (He.ga K "_law_cell") fd
  g_law_cell : mg "_law_cell" = some (.ref (He.ga K "_law_cell"))
  d_law_stream : ∃ fd, FunD K "_law_stream" "_law_stream" (defArgs s_law_stream) (defBody s_law_stream) (defScope s_law_stream) [] [] (He.ga K "_law_stream") fd
  g_law_stream : mg "_law_stream" = some (.ref (He.ga K "_law_stream"))
  d_law_take : ∃ fd, FunD K "_law_take" "_law_take" (defArgs s_law_take) (defBody s_law_take) (defScope s_law_take) [] [] (He.ga K "_law_take") fd
  g_law_take : mg "_law_take" = some (.ref (He.ga K "_law_take"))
  d_law_e : ∃ fd, FunD K "_law_e" "_law_e" (defArgs s_law_e) (defBody s_law_e) (defScope s_law_e) [] [] (He.ga K "_law_e") fd
  g_law_e : mg "_law_e" = some (.ref (He.ga K "_law_e"))
  d_law_sets : ∃ fd, FunD K "_law_sets" "_law_sets" (defArgs s_law_sets) (defBody s_law_sets) (defScope s_law_sets) [] [] (He.ga K "_law_sets") fd
  g_law_sets : mg "_law_sets" = some (.ref (He.ga K "_law_sets"))
  d_law_part : ∃ fd, FunD K "_law_part" "_law_part" (defArgs s_law_part) (defBody s_law_part) (defScope s_law_part) [] [] (He.ga K "_law_part") fd
  g_law_part : mg "_law_part" = some (.ref (He.ga K "_law_part"))
  d_law_parts : ∃ fd, FunD K "_law_parts" "_law_parts" (defArgs s_law_parts) (defBody s_law_parts) (defScope s_law_parts) [] [] (He.ga K "_law_parts") fd
  g_law_parts : mg "_law_parts" = some (.ref (He.ga K "_law_parts"))
  d_law_own : ∃ fd, FunD K "_law_own" "_law_own" (defArgs s_law_own) (defBody s_law_own) (defScope s_law_own) [] [] (He.ga K "_law_own") fd
  g_law_own : mg "_law_own" = some (.ref (He.ga K "_law_own"))
  d_law_need : ∃ fd, FunD K "_law_need" "_law_need" (defArgs s_law_need) (defBody s_law_need) (defScope s_law_need) [] [] (He.ga K "_law_need") fd
  g_law_need : mg "_law_need" = some (.ref (He.ga K "_law_need"))
  d_law_trees : ∃ fd, FunD K "_law_trees" "_law_trees" (defArgs s_law_trees) (defBody s_law_trees) (defScope s_law_trees) [] [] (He.ga K "_law_trees") fd
  g_law_trees : mg "_law_trees" = some (.ref (He.ga K "_law_trees"))
  d_law_needs : ∃ fd, FunD K "_law_needs" "_law_needs" (defArgs s_law_needs) (defBody s_law_needs) (defScope s_law_needs) [] [] (He.ga K "_law_needs") fd
  g_law_needs : mg "_law_needs" = some (.ref (He.ga K "_law_needs"))
  d_law_whole : ∃ fd, FunD K "_law_whole" "_law_whole" (defArgs s_law_whole) (defBody s_law_whole) (defScope s_law_whole) [] [] (He.ga K "_law_whole") fd
  g_law_whole : mg "_law_whole" = some (.ref (He.ga K "_law_whole"))
  d_law_inner : ∃ fd, FunD K "_law_inner" "_law_inner" (defArgs s_law_inner) (defBody s_law_inner) (defScope s_law_inner) [] [] (He.ga K "_law_inner") fd
  g_law_inner : mg "_law_inner" = some (.ref (He.ga K "_law_inner"))
  d_law_through : ∃ fd, FunD K "_law_through" "_law_through" (defArgs s_law_through) (defBody s_law_through) (defScope s_law_through) [] [] (He.ga K "_law_through") fd
  g_law_through : mg "_law_through" = some (.ref (He.ga K "_law_through"))
  d_law_part_needs : ∃ fd, FunD K "_law_part_needs" "_law_part_needs" (defArgs s_law_part_needs) (defBody s_law_part_needs) (defScope s_law_part_needs) [] [] (He.ga K "_law_part_needs") fd
  g_law_part_needs : mg "_law_part_needs" = some (.ref (He.ga K "_law_part_needs"))
  d_law_due_order : ∃ fd, FunD K "_law_due_order" "_law_due_order" (defArgs s_law_due_order) (defBody s_law_due_order) (defScope s_law_due_order) [] [] (He.ga K "_law_due_order") fd
  g_law_due_order : mg "_law_due_order" = some (.ref (He.ga K "_law_due_order"))
  d_law_held : ∃ fd, FunD K "_law_held" "_law_held" (defArgs s_law_held) (defBody s_law_held) (defScope s_law_held) [] [] (He.ga K "_law_held") fd
  g_law_held : mg "_law_held" = some (.ref (He.ga K "_law_held"))
  d_law : ∃ fd, FunD K "law" "law" (defArgs s_law) (defBody s_law) (defScope s_law) [] [] (He.ga K "law") fd
  g_law : mg "law" = some (.ref (He.ga K "law"))
  f_bool : mg "bool" = none
  f_enumerate : mg "enumerate" = none
  f_int : mg "int" = none
  f_isinstance : mg "isinstance" = none
  f_len : mg "len" = none
  f_list : mg "list" = none
  f_max : mg "max" = none
  f_min : mg "min" = none
  f_range : mg "range" = none
  f_reversed : mg "reversed" = none
  f_sorted : mg "sorted" = none
  f_tuple : mg "tuple" = none
  f_zip : mg "zip" = none
  dm_Parts___init__ : ∃ fd, FunD K "__init__" "Parts.__init__" (defArgs s_Partsu_initu) (defBody s_Partsu_initu) (defScope s_Partsu_initu) [] [] (He.ma K (He.ga K "Parts") "__init__") fd
  dm_Parts_part_in : ∃ fd, FunD K "part_in" "Parts.part_in" (defArgs s_Parts_part_in) (defBody s_Parts_part_in) (defScope s_Parts_part_in) [] [] (He.ma K (He.ga K "Parts") "part_in") fd
  dm_Order___init__ : ∃ fd, FunD K "__init__" "Order.__init__" (defArgs s_Orderu_initu) (defBody s_Orderu_initu) (defScope s_Orderu_initu) [] [] (He.ma K (He.ga K "Order") "__init__") fd
  dm_Order_need_at : ∃ fd, FunD K "need_at" "Order.need_at" (defArgs s_Order_need_at) (defBody s_Order_need_at) (defScope s_Order_need_at) [] [] (He.ma K (He.ga K "Order") "need_at") fd
  dm_Order_need_of : ∃ fd, FunD K "need_of" "Order.need_of" (defArgs s_Order_need_of) (defBody s_Order_need_of) (defScope s_Order_need_of) [] [] (He.ma K (He.ga K "Order") "need_of") fd
  dm_Order_go_through : ∃ fd, FunD K "go_through" "Order.go_through" (defArgs s_Order_go_through) (defBody s_Order_go_through) (defScope s_Order_go_through) [] [] (He.ma K (He.ga K "Order") "go_through") fd
  gc_Parts : mg "Parts" = some (.ref (He.ga K "Parts"))
  cl_Parts : Cls K (He.ga K "Parts")
  mk_Parts : Mk K (He.ga K "Parts") (He.ma K (He.ga K "Parts") "__init__")
  na_Parts_rows : NoAttr K (He.ga K "Parts") "rows"
  me_Parts_part_in : Meth K (He.ga K "Parts") "part_in" (He.ma K (He.ga K "Parts") "part_in")
  gc_Order : mg "Order" = some (.ref (He.ga K "Order"))
  cl_Order : Cls K (He.ga K "Order")
  mk_Order : Mk K (He.ga K "Order") (He.ma K (He.ga K "Order") "__init__")
  na_Order_parts : NoAttr K (He.ga K "Order") "parts"
  na_Order_order : NoAttr K (He.ga K "Order") "order"
  na_Order_needed : NoAttr K (He.ga K "Order") "needed"
  me_Order_need_at : Meth K (He.ga K "Order") "need_at" (He.ma K (He.ga K "Order") "need_at")
  me_Order_need_of : Meth K (He.ga K "Order") "need_of" (He.ma K (He.ga K "Order") "need_of")
  me_Order_go_through : Meth K (He.ga K "Order") "go_through" (He.ma K (He.ga K "Order") "go_through")
theorem facts_of {h : Heap} {K : PySem.W.Frag} {mg : Str → Option Value} (X : K.In h) (G : h.Ns mainGlobals mg) (c : He.SaysD fa fn K) : Facts K mg where
  d_is_whole := c.def_ 0 rfl
  g_is_whole := He.glo_ok X G (c.fact 0 rfl)
  d_is_within := c.def_ 1 rfl
  g_is_within := He.glo_ok X G (c.fact 1 rfl)
  d_rests_of := c.def_ 2 rfl
  g_rests_of := He.glo_ok X G (c.fact 2 rfl)
  d_parts_and_roots := c.def_ 3 rfl
  g_parts_and_roots := He.glo_ok X G (c.fact 3 rfl)
  d_parts_of := c.def_ 4 rfl
  g_parts_of := He.glo_ok X G (c.fact 4 rfl)
  d_roots_of := c.def_ 5 rfl
  g_roots_of := He.glo_ok X G (c.fact 5 rfl)
  d_own_parts := c.def_ 6 rfl
  g_own_parts := He.glo_ok X G (c.fact 6 rfl)
  d_is_order := c.def_ 7 rfl
  g_is_order := He.glo_ok X G (c.fact 7 rfl)
  d_held_by := c.def_ 8 rfl
  g_held_by := He.glo_ok X G (c.fact 8 rfl)
  d_needs_of := c.def_ 9 rfl
  g_needs_of := He.glo_ok X G (c.fact 9 rfl)
  d_falling := c.def_ 10 rfl
  g_falling := He.glo_ok X G (c.fact 10 rfl)
  d_needs_of_sets := c.def_ 11 rfl
  g_needs_of_sets := He.glo_ok X G (c.fact 11 rfl)
  d_best_order := c.def_ 12 rfl
  g_best_order := He.glo_ok X G (c.fact 12 rfl)
  d_law_cell := c.def_ 13 rfl
  g_law_cell := He.glo_ok X G (c.fact 13 rfl)
  d_law_stream := c.def_ 14 rfl
  g_law_stream := He.glo_ok X G (c.fact 14 rfl)
  d_law_take := c.def_ 15 rfl
  g_law_take := He.glo_ok X G (c.fact 15 rfl)
  d_law_e := c.def_ 16 rfl
  g_law_e := He.glo_ok X G (c.fact 16 rfl)
  d_law_sets := c.def_ 17 rfl
  g_law_sets := He.glo_ok X G (c.fact 17 rfl)
  d_law_part := c.def_ 18 rfl
  g_law_part := He.glo_ok X G (c.fact 18 rfl)
  d_law_parts := c.def_ 19 rfl
  g_law_parts := He.glo_ok X G (c.fact 19 rfl)
  d_law_own := c.def_ 20 rfl
  g_law_own := He.glo_ok X G (c.fact 20 rfl)
  d_law_need := c.def_ 21 rfl
  g_law_need := He.glo_ok X G (c.fact 21 rfl)
  d_law_trees := c.def_ 22 rfl
  g_law_trees := He.glo_ok X G (c.fact 22 rfl)
  d_law_needs := c.def_ 23 rfl
  g_law_needs := He.glo_ok X G (c.fact 23 rfl)
  d_law_whole := c.def_ 24 rfl
  g_law_whole := He.glo_ok X G (c.fact 24 rfl)
  d_law_inner := c.def_ 25 rfl
  g_law_inner := He.glo_ok X G (c.fact 25 rfl)
  d_law_through := c.def_ 26 rfl
  g_law_through := He.glo_ok X G (c.fact 26 rfl)
  d_law_part_needs := c.def_ 27 rfl
  g_law_part_needs := He.glo_ok X G (c.fact 27 rfl)
  d_law_due_order := c.def_ 28 rfl
  g_law_due_order := He.glo_ok X G (c.fact 28 rfl)
  d_law_held := c.def_ 29 rfl
  g_law_held := He.glo_ok X G (c.fact 29 rfl)
  d_law := c.def_ 30 rfl
  g_law := He.glo_ok X G (c.fact 30 rfl)
  f_bool := He.free_ok X G (c.fact 31 rfl)
  f_enumerate := He.free_ok X G (c.fact 32 rfl)
  f_int := He.free_ok X G (c.fact 33 rfl)
  f_isinstance := He.free_ok X G (c.fact 34 rfl)
  f_len := He.free_ok X G (c.fact 35 rfl)
  f_list := He.free_ok X G (c.fact 36 rfl)
  f_max := He.free_ok X G (c.fact 37 rfl)
  f_min := He.free_ok X G (c.fact 38 rfl)
  f_range := He.free_ok X G (c.fact 39 rfl)
  f_reversed := He.free_ok X G (c.fact 40 rfl)
  f_sorted := He.free_ok X G (c.fact 41 rfl)
  f_tuple := He.free_ok X G (c.fact 42 rfl)
  f_zip := He.free_ok X G (c.fact 43 rfl)
  dm_Parts___init__ := c.def_ 31 rfl
  dm_Parts_part_in := c.def_ 32 rfl
  dm_Order___init__ := c.def_ 33 rfl
  dm_Order_need_at := c.def_ 34 rfl
  dm_Order_need_of := c.def_ 35 rfl
  dm_Order_go_through := c.def_ 36 rfl
  gc_Parts := He.glo_ok X G (c.fact 44 rfl)
  cl_Parts := He.cls_ok (c.fact 45 rfl)
  mk_Parts := He.mkr_ok (c.fact 46 rfl)
  na_Parts_rows := He.noat_ok (c.fact 47 rfl)
  me_Parts_part_in := He.meth_ok (c.fact 48 rfl)
  gc_Order := He.glo_ok X G (c.fact 49 rfl)
  cl_Order := He.cls_ok (c.fact 50 rfl)
  mk_Order := He.mkr_ok (c.fact 51 rfl)
  na_Order_parts := He.noat_ok (c.fact 52 rfl)
  na_Order_order := He.noat_ok (c.fact 53 rfl)
  na_Order_needed := He.noat_ok (c.fact 54 rfl)
  me_Order_need_at := He.meth_ok (c.fact 55 rfl)
  me_Order_need_of := He.meth_ok (c.fact 56 rfl)
  me_Order_go_through := He.meth_ok (c.fact 57 rfl)
end J
namespace J
open PySem PySem.Spec PyProof.Rows L2
def loose0 : List PySem.Str := ["is_whole", "is_within", "rests_of", "parts_and_roots", "parts_of", "roots_of", "own_parts", "is_order", "held_by", "needs_of", "falling", "needs_of_sets", "best_order", "_law_cell", "_law_stream", "_law_take", "_law_e", "_law_sets", "_law_part", "_law_parts", "_law_own", "_law_need", "_law_trees", "_law_needs", "_law_whole", "_law_inner", "_law_through", "_law_part_needs", "_law_due_order", "_law_held"]
def loose1 : List PySem.Str := ["Parts", "Order"]
def loose : List PySem.Str := loose0 ++ loose1
abbrev rowR : PySem.W.OpenRow := PySem.W.OpenLaw.row PySem.Challenge.rw_rowsjoined_k29_needs_and_the_best_order
def exB (_ : PySem.W.Frag) : Bool := true
def tf : List He.Defn := [("_law_due_order", none)]
abbrev hk : PySem.W.Hook := He.hookX 4 fa fn [] tf exB
def ob (s : PySem.W.SharedT) : He.AlX := He.obsX 4 fa fn [] tf exB (HandSHeadRun.getT s)
theorem ob_eq (s : PySem.W.SharedT) : ob s = hk.obs s.abs := He.obsX_eq (HandSHeadRun.getT_eq s)
theorem run (w : World) : HandSHeadRun.RunEq rowR (PySem.W.view rowR.prog [35]) hk ob 12000 loose w := by
  intro os
  kernel_rfl
end J
namespace J
open PySem PySem.Spec PyProof.Rows L2
local macro_rules | `(tactic| walk_at "cls") => `(tactic| first
  | with_reducible exact Facts.cl_Parts
  | with_reducible exact Facts.cl_Order)
local macro_rules | `(tactic| walk_at "na") => `(tactic| first
  | with_reducible exact Facts.na_Parts_rows
  | with_reducible exact Facts.na_Order_parts
  | with_reducible exact Facts.na_Order_order
  | with_reducible exact Facts.na_Order_needed)
local macro_rules | `(tactic| walk_at "ty") => `(tactic| first
  | with_reducible exact ty_int
  | with_reducible exact ty_bl
  | with_reducible exact ty_str
  | with_reducible exact ty_non
  | ((with_reducible refine' ty_lst ?vv); (case vv => walk_at "tr"))
  | ((with_reducible refine' ty_sqT ?vv); (case vv => walk_at "tr"))
  | ((with_reducible refine' ty_dic ?vv); (case vv => walk_at "tr")))
local macro_rules | `(tactic| walk_at "ix") => `(tactic| first | exact at0 | exact at1 | exact at2 | assumption)
local macro_rules | `(tactic| walk_at "size") => `(tactic| first
  | assumption
  | (show _ < sizeLine; rw [sizeLine_eq]; (try simp only [List.length_cons, List.length_nil, List.length_append, List.length_map]); omega)
  | (show _ ≤ sizeLine; rw [sizeLine_eq]; (try simp only [List.length_cons, List.length_nil, List.length_append, List.length_map]); omega))
local macro_rules | `(tactic| walk_at "side") => `(tactic| first
  | assumption
  | ((with_reducible refine cdw ?_ ?_) <;> omega)
  | omega
  | (exact ⟨by omega, by omega⟩)
  | (exact Or.inl ⟨by omega, by omega⟩)
  | (exact Or.inr ⟨by omega, by omega⟩)
  | decide
  | (simp only [List.length_cons, List.length_nil, List.length_append, List.length_map]; omega)
  | (show _ ≤ _; decide))
local macro_rules | `(tactic| walk_at "as") => `(tactic| with_reducible assumption)
local macro_rules | `(tactic| walk_at "tr") => `(tactic| first
  | with_reducible assumption
  | with_reducible exact upd_same
  | ((with_reducible refine' SqL.of ?hh); (case hh => walk_at "as"))
  | ((with_reducible refine' SqT.of ?hh); (case hh => walk_at "as"))
  | ((with_reducible refine' Same.stm ?ee ?gg); (case ee => walk_at "as"); (case gg => walk_at "tr"))
  | ((with_reducible refine' Same.sqT ?ee ?gg); (case ee => walk_at "as"); (case gg => walk_at "tr"))
  | ((with_reducible refine' Same.sqL ?ee ?gg); (case ee => walk_at "as"); (case gg => walk_at "tr"))
  | ((with_reducible refine' Same.at ?ee ?gg); (case ee => walk_at "as"); (case gg => walk_at "tr"))
  | ((with_reducible refine' But.stm ?ee ?ff ?gg); (case ee => walk_at "as"); (case ff => walk_at "ne"); (case gg => walk_at "tr"))
  | ((with_reducible refine' But.tup ?ee ?ff ?gg); (case ee => walk_at "as"); (case ff => walk_at "tr1"); (case gg => walk_at "tr"))
  | ((with_reducible refine' But.sqT ?ee ?ff ?gg); (case ee => walk_at "as"); (case ff => walk_at "tr1"); (case gg => walk_at "tr"))
  | ((with_reducible refine' But.tupL ?ee ?ff ?gg); (case ee => walk_at "as"); (case ff => walk_at "tr1"); (case gg => walk_at "tr"))
  | ((with_reducible refine' But.sqTL ?ee ?ff ?gg); (case ee => walk_at "as"); (case ff => walk_at "tr1"); (case gg => walk_at "tr"))
  | ((with_reducible refine' But.sqL ?ee ?ff ?gg); (case ee => walk_at "as"); (case ff => walk_at "ne"); (case gg => walk_at "tr"))
  | ((with_reducible refine' But.at ?ee ?ff ?gg); (case ee => walk_at "as"); (case ff => walk_at "ne"); (case gg => walk_at "tr")))
local macro_rules | `(tactic| walk_at "ts") => `(tactic| first
  | with_reducible assumption
  | with_reducible exact TS.refl _
  | ((with_reducible refine' TS.trans ?gg (TS.of ?ee)); (case ee => walk_at "as"); (case gg => walk_at "ts"))
  | ((with_reducible refine' TS.trans ?gg (TS.butS ?ee ?ff)); (case ee => walk_at "as"); (case ff => walk_at "tr1"); (case gg => walk_at "ts"))
  | ((with_reducible refine' TS.trans ?gg (TS.butL ?ee ?ff)); (case ee => walk_at "as"); (case ff => walk_at "tr1"); (case gg => walk_at "ts"))
  | ((with_reducible refine' TS.trans ?gg (TS.butI ?ee ?ff)); (case ee => walk_at "as"); (case ff => walk_at "tr1"); (case gg => walk_at "ts")))
local macro_rules | `(tactic| walk_at "sm") => `(tactic| first
  | with_reducible assumption
  | with_reducible exact Same.refl _
  | ((with_reducible refine' Same.trans ?gg ?ee); (case ee => walk_at "as"); (case gg => walk_at "sm"))
  | ((with_reducible refine' But.new ?gg ?nn ?ee); (case ee => walk_at "as"); (case nn => walk_at "fr"); (case gg => walk_at "sm")))
local macro_rules | `(tactic| walk_at "fr") => `(tactic| first
  | with_reducible assumption
  | ((with_reducible refine' Same.back ?ee ?nn); (case nn => walk_at "as"); (case ee => walk_at "sm"))
  | ((with_reducible refine' But.back ?ee ?ff ?nn); (case nn => walk_at "as"); (case ff => walk_at "ne0"); (case ee => walk_at "bu")))
local macro_rules | `(tactic| walk_at "bu") => `(tactic| first
  | with_reducible assumption
  | with_reducible exact But.refl _ _
  | ((with_reducible refine' But.trans ?gg ?ee); (case ee => walk_at "as"); (case gg => walk_at "bu"))
  | ((with_reducible refine' But.trans ?gg (But.of ?ee)); (case ee => walk_at "as"); (case gg => walk_at "bu"))
  | ((with_reducible refine' But.new2 ?gg ?nn ?ee); (case ee => walk_at "as"); (case nn => walk_at "frB"); (case gg => walk_at "bu")))
local macro_rules | `(tactic| walk_at "frB") => `(tactic| first
  | with_reducible assumption
  | ((with_reducible refine' Same.back ?ee ?nn); (case nn => walk_at "as"); (case ee => walk_at "sm"))
  | ((with_reducible refine' But.back' ?ee ?ff ?nn); (case nn => walk_at "as"); (case ee => walk_at "bu"); (case ff => walk_at "tr1")))
local macro_rules | `(tactic| walk_at "tr1") => `(tactic| first
  | with_reducible assumption
  | ((with_reducible refine' Same.stm ?ee ?gg); (case ee => walk_at "as"); (case gg => walk_at "tr1"))
  | ((with_reducible refine' Same.at ?ee ?gg); (case ee => walk_at "as"); (case gg => walk_at "tr1"))
  | ((with_reducible refine' But.at ?ee ?ff ?gg); (case ee => walk_at "as"); (case ff => walk_at "ne0"); (case gg => walk_at "tr1"))
  | ((with_reducible refine' But.stm ?ee ?ff ?gg); (case ee => walk_at "as"); (case ff => walk_at "ne0"); (case gg => walk_at "tr1")))
local macro_rules | `(tactic| walk_at "ne0") => `(tactic| first
  | with_reducible assumption
  | (with_reducible apply Ne.symm; with_reducible assumption))
local macro_rules | `(tactic| walk_at "ne") => `(tactic| first
  | with_reducible assumption
  | (with_reducible apply Ne.symm; with_reducible assumption)
  | ((with_reducible refine' stm_ne ?hh ?nn); (case nn => walk_at "as"); (case hh => walk_at "tr1"))
  | ((with_reducible refine' ne_of_none ?hh ?nn); (case nn => walk_at "as"); (case hh => walk_at "tr1"))
  | ((with_reducible apply Ne.symm); (with_reducible refine' ne_of_none ?hh ?nn); (case nn => walk_at "as"); (case hh => walk_at "tr1")))
local macro_rules | `(tactic| walk_at "v") => `(tactic| first
  | with_reducible refine w_seq ?_
  | ((with_reducible refine' w_var ?vv ?_); (case vv => exact rfl))
  | with_reducible refine w_c ?_
  | with_reducible refine w_op ?_
  | with_reducible refine w_asg ?_
  | with_reducible refine w_gName ?_
  | with_reducible refine w_ret ?_
  | with_reducible refine w_ifS ?_
  | with_reducible refine w_drop ?_
  | with_reducible refine w_next ?_
  | with_reducible refine w_cons ?_
  | with_reducible refine w_nil ?_
  | with_reducible refine w_call ?_
  | with_reducible refine w_cb ?_
  | with_reducible refine w_rI0 ?_
  | with_reducible refine w_addI ?_
  | with_reducible refine w_eqI ?_
  | with_reducible refine w_neI ?_
  | with_reducible refine w_eqS ?_
  | with_reducible refine w_neS ?_
  | with_reducible refine w_eqB ?_
  | with_reducible refine w_neB ?_
  | with_reducible refine w_chain ?_
  | with_reducible refine w_test ?_
  | with_reducible refine w_tB ?_
  | with_reducible refine w_bl ?_
  | ((with_reducible refine' w_mulI ?vv ?_); (case vv => walk_at "side"))
  | ((with_reducible refine' w_rI ?vv ?_); (case vv => walk_at "side"))
  | with_reducible refine w_int1 ?_
  | with_reducible refine w_int1b ?_
  | with_reducible refine w_tup ?_
  | with_reducible refine w_lst ?_
  | with_reducible refine w_un ?_
  | with_reducible refine w_rU ?_
  | with_reducible refine w_not ?_
  | with_reducible refine w_notV ?_
  | with_reducible refine w_ifE ?_
  | with_reducible refine w_nT ?_
  | with_reducible refine w_nF ?_
  | with_reducible refine iteT ?_
  | with_reducible refine iteF ?_
  | ((with_reducible refine' w_ixT ?vv ?ww ?_); (case vv => walk_at "tr"); (case ww => walk_at "ix"))
  | ((with_reducible refine' w_ixL ?vv ?ww ?_); (case vv => walk_at "tr"); (case ww => walk_at "ix"))
  | with_reducible refine w_gSub ?_
  | ((with_reducible refine' w_setL ?vv ?ww ?_); (case vv => walk_at "tr"); (case ww => first | rfl | decide | assumption))
  | ((with_reducible refine' w_lenL ?vv ?_); (case vv => walk_at "tr"))
  | ((with_reducible refine' w_lenT ?vv ?_); (case vv => walk_at "tr"))
  | with_reducible refine w_max2 ?_
  | with_reducible refine w_max3 ?_
  | with_reducible refine w_din ?_
  | with_reducible refine w_dnotin ?_
  | with_reducible refine w_dput ?_
  | with_reducible refine w_min2 ?_
  | with_reducible refine w_bm ?_
  | with_reducible refine w_bm0 ?_
  | ((with_reducible refine' w_tyL ?vv ?_); (case vv => walk_at "tr"))
  | ((with_reducible refine' w_append ?vv ?ww ?_); (case vv => walk_at "tr"); (case ww => walk_at "size"))
  | ((with_reducible refine' w_size ?vv ?_); (case vv => walk_at "size"))
  | with_reducible refine w_forL ?_
  | with_reducible refine w_forT ?_
  | with_reducible refine w_forR1 ?_
  | with_reducible refine w_forR2 ?_
  | with_reducible refine w_lcL ?_
  | with_reducible refine w_lcT ?_
  | with_reducible refine w_lcR1 ?_
  | with_reducible refine w_yes ?_
  | with_reducible refine w_sl ?_
  | with_reducible refine w_noPart ?_
  | with_reducible refine w_part ?_
  | with_reducible refine w_int ?_
  | ((with_reducible refine' w_slL ?vv ?_); (case vv => walk_at "tr"))
  | ((with_reducible refine' w_seqL ?vv ?ww ?_); (case vv => walk_at "tr"); (case ww => rfl))
  | ((with_reducible refine' w_seqT ?vv ?ww ?_); (case vv => walk_at "tr"); (case ww => rfl))
  | with_reducible refine w_gNil ?_
  | with_reducible refine w_gCons ?_
  | with_reducible refine w_forZ ?_
  | with_reducible refine w_forM ?_
  | with_reducible refine w_forE ?_
  | with_reducible refine w_forV ?_
  | with_reducible refine w_lcZ ?_
  | with_reducible refine w_lcE ?_
  | ((with_reducible refine' w_isi (b := true) ?vv ?ww ?_); (case vv => walk_at "ty"); (case ww => decide +kernel))
  | ((with_reducible refine' w_isi (b := false) ?vv ?ww ?_); (case vv => walk_at "ty"); (case ww => decide +kernel))
  | with_reducible refine w_revL ?_
  | with_reducible refine w_pairN ?_
  | with_reducible refine w_pairC ?_
  | with_reducible refine w_dget ?_
  | with_reducible refine w_met ?_
  | ((with_reducible refine' w_metAt ?vv ?ww ?_); (case vv => walk_at "tr"); (case ww => rfl))
  | with_reducible refine w_mkI ?_
  | with_reducible refine w_fld ?_
  | ((with_reducible refine' w_fldAt ?vv ?cc ?nn ?ww ?_); (case vv => walk_at "tr"); (case cc => walk_at "cls"); (case nn => walk_at "na"); (case ww => rfl))
  | with_reducible refine w_sfld ?_
  | ((with_reducible refine' w_sfldAt ?vv ?cc ?nn ?ll ?ee ?_); (case vv => walk_at "tr"); (case cc => walk_at "cls"); (case nn => walk_at "na"); (case ll => simp); (case ee => rfl))
  | ((with_reducible refine' w_tupL ?vv ?_); (case vv => walk_at "tr"))
  | ((with_reducible refine' w_tupT ?vv ?_); (case vv => walk_at "tr"))
  | ((with_reducible refine' w_listL ?vv ?_); (case vv => walk_at "tr"))
  | ((with_reducible refine' w_listT ?vv ?_); (case vv => walk_at "tr"))
  | with_reducible refine w_tyS ?_
  | with_reducible refine w_retN ?_
  | with_reducible refine w_break ?_
  | with_reducible refine w_cont ?_)
local macro_rules | `(tactic| walk_at "w") => `(tactic| first
  | walk_at "v"
  | with_reducible refine w_or ?_
  | with_reducible refine w_and ?_
  | with_reducible refine w_andV ?_
  | with_reducible refine w_orV ?_)
local macro_rules | `(tactic| walk_at "wd") => `(tactic| first
  | walk_at "w"
  | ((with_reducible refine' w_decT ?vv ?_); (case vv => decide +kernel))
  | ((with_reducible refine' w_decF ?vv ?_); (case vv => decide +kernel)))
local macro_rules | `(tactic| walk_at "tz") => `(tactic| (intro S z; (repeat walk_at "w"); exact z))
local macro_rules | `(tactic| walk_at "wf") => `(tactic| first
  | walk_at "wd"
  | ((with_reducible refine' w_decF ?vv ?_); (case vv => with_reducible assumption)))
/-! ### the draws, alike in all laws -/
def spCell (K : PySem.W.Frag) : Sp := fun vs H Q _ => ∃ (a : Addr) (ns : List Int) (k : Int), vs = [.ref a, .int k] ∧ SqL K H a (ns.map V.int) ∧ 0 ≤ k ∧ ∀ n : Int, Q (.int n) H
def spStream : Sp := fun vs H Q _ => ∃ c : Int, vs = [.int c] ∧ ∀ s H', Same H H' → H s = none → Stm H' s → Q (.ref s) H'
def spTake : Sp := fun vs H Q _ => ∃ (s : Addr) (m : Int), vs = [.ref s, .int m] ∧ Stm H s ∧ 0 < m ∧ m < 2 ^ 200 ∧ ∀ d H', 0 ≤ d → d < m → Stm H' s → But s H H' → Q (.int d) H'
theorem len_law_cell {K : PySem.W.Frag} {vs H Q E} (h : spCell K vs H Q E) : vs.length = 2 := by obtain ⟨_, _, _, rfl, _⟩ := h; rfl
theorem len_law_stream {vs H Q E} (h : spStream vs H Q E) : vs.length = 1 := by obtain ⟨_, rfl, _⟩ := h; rfl
theorem len_law_take {vs H Q E} (h : spTake vs H Q E) : vs.length = 2 := by obtain ⟨_, _, rfl, _⟩ := h; rfl
def spLaw (K : PySem.W.Frag) : Sp := fun vs H Q _ => ∃ (a : Addr) (ns : List Int), vs = [.ref a] ∧ SqL K H a (ns.map V.int) ∧ ns.length ≤ 63 ∧ ∀ H', Q (.bl true) H'
theorem len_law {K : PySem.W.Frag} {vs H Q E} (h : spLaw K vs H Q E) : vs.length = 1 := by obtain ⟨_, _, rfl, _⟩ := h; rfl
theorem law_in {K : PySem.W.Frag} {H : Hp} {a : Addr} {ns : List Int} (hl : ns.length ≤ 63) (_ : Only H) (hS : SqL K H a (ns.map V.int)) : spLaw K [.ref a] H (fun v _ => v = .bl true) fun _ _ _ => False :=
  ⟨a, ns, rfl, hS, hl, fun _ => rfl⟩
section
variable {P : Program} {w : World} {K : PySem.W.Frag} {mg : Str → Option Value}
theorem ok_law_cell [c : Facts K mg] : Fn P w K mg "_law_cell" 1 ["script", "k"] ((spCell K)) := by
  obtain ⟨fd, F⟩ := c.d_law_cell
  refine Fn.mk' F c.g_law_cell sc_law_cell (k := 0) (fun vs H Q E h => ?_) (fun _ _ _ _ _ _ us hl => match us, hl with | [_, _], _ => rfl) (fun base cdv A outer s H vs Q E hr h => ?_)
  · exact len_law_cell h
  · have nd := sc_law_cell.nd
    have hu := hu_of hr
    refine ⟨_, (pss_cons (ps_if (pt_cmpR op_lt (pv 1) (pe_callB (call_lenA (K := K) rfl) (by rfl) c.f_len boot_len (pa_cons (pv 0) pa_nil)) (nomark _)) (pss_one (ps_ret (pe_ix (ix_any (K := K) rfl) (pv 0) (pv 1) (fun _ _ => rfl)))) pss_nil)
      (pss_one (ps_ret (pe_op (op_addA (K := K) rfl) (pe_op op_mulA pe_int (pv 1)) pe_int)))), ?_⟩
    try dsimp only [cxOf, Cx.nox, Cx.wish]
    obtain ⟨a, ns, k, rfl, hS, h0, q⟩ := h
    repeat walk_at "w"
    refine ite2 (fun hk => ?_) (fun hk => ?_)
    · rw [decide_eq_true_eq] at hk
      repeat walk_at "w"
      obtain ⟨v, e1, e2, _⟩ := atI_some h0 hk
      obtain ⟨n, _, rfl⟩ := List.mem_map.mp e2
      exact w_ixL hS e1 (q n)
    · repeat walk_at "w"
      exact q _
theorem ok_law_stream [c : Facts K mg] : Fn P w K mg "_law_stream" 1 ["cell"] (spStream) := by
  obtain ⟨fd, F⟩ := c.d_law_stream
  refine Fn.mk' F c.g_law_stream sc_law_stream (k := 0) (fun vs H Q E h => ?_) (fun _ _ _ _ _ _ us hl => match us, hl with | [_], _ => rfl) (fun base cdv A outer s H vs Q E hr h => ?_)
  · exact len_law_stream h
  · have nd := sc_law_stream.nd
    have hu := hu_of hr
    refine ⟨_, (pss_one (ps_ret (pe_lst (pa_cons (pe_op op_mulA (pv 0) (pe_callTy call_int1A (by rfl) c.f_int boot_int (pa_cons (pe_cmpR op_ge (pv 0) (pe_op op_pow pe_int pe_int) (nomark _)) pa_nil))) (pa_cons (pe_op op_mod (pv 0) pe_int) (pa_cons pe_int pa_nil)))))), ?_⟩
    try dsimp only [cxOf, Cx.nox, Cx.wish]
    obtain ⟨n, rfl, q⟩ := h
    repeat walk_at "w"
    exact w_new fun p H1 n1 s1 f1 => q _ _ s1 n1 ⟨_, _, _, f1⟩
theorem ok_law_take [c : Facts K mg] : Fn P w K mg "_law_take" 1 ["stream", "many"] (spTake) := by
  obtain ⟨fd, F⟩ := c.d_law_take
  refine Fn.mk' F c.g_law_take sc_law_take (k := 0) (fun vs H Q E h => ?_) (fun _ _ _ _ _ _ us hl => match us, hl with | [_, _], _ => rfl) (fun base cdv A outer s H vs Q E hr h => ?_)
  · exact len_law_take h
  · have nd := sc_law_take.nd
    have hu := hu_of hr
    refine ⟨_, (pss_cons (ps_if (pt_cmpR op_gt (pe_ix (ix_any (K := K) rfl) (pv 0) pe_int (fun _ _ => rfl)) pe_int (nomark _)) (pss_cons (ps_set (i := 2) nd rfl (Or.inl rfl) (pe_op op_mod (pe_ix (ix_any (K := K) rfl) (pv 0) pe_int (fun _ _ => rfl)) (pv 1)))
      (pss_cons (ps_asg (pe_op op_fdivW (pe_ix (ix_any (K := K) rfl) (pv 0) pe_int (fun _ _ => rfl)) (pv 1)) (pg_sub (pv 0) pe_int set_list))
      (pss_one (ps_ret (pv 2))))) pss_nil)
      (pss_cons (ps_asg (pe_op (op_addA (K := K) rfl) (pe_ix (ix_any (K := K) rfl) (pv 0) pe_int (fun _ _ => rfl)) pe_int) (pg_sub (pv 0) pe_int set_list))
      (pss_cons (ps_set (i := 3) nd rfl (Or.inl rfl) (pe_op op_mod (pe_op (op_addA (K := K) rfl) (pe_op op_mulA (pe_op (op_addA (K := K) rfl) (pe_ix (ix_any (K := K) rfl) (pv 0) pe_int (fun _ _ => rfl)) (pe_op op_mulA pe_int (pe_ix (ix_any (K := K) rfl) (pv 0) pe_int (fun _ _ => rfl)))) pe_int) pe_int) pe_int))
      (pss_cons (ps_set (i := 3) nd rfl (Or.inl rfl) (pe_op op_mod (pe_op op_mulA (pv 3) (pv 3)) pe_int))
      (pss_one (ps_ret (pe_op op_mod (pe_op op_fdivW (pe_op op_mod (pe_op (op_addA (K := K) rfl) (pe_op op_mulA (pv 3) (pv 3)) (pe_op op_mulA pe_int (pe_ix (ix_any (K := K) rfl) (pv 0) pe_int (fun _ _ => rfl)))) pe_int) pe_int) (pv 1)))))))), ?_⟩
    try dsimp only [cxOf, Cx.nox, Cx.wish]
    obtain ⟨s, m, rfl, ⟨a, b, d, hs⟩, hm, hl, q⟩ := h
    repeat walk_at "w"
    refine ite2 (fun hk => ?_) (fun hk => ?_)
    · repeat walk_at "w"
      refine w_chg fun H1 e1 f1 => ?_
      repeat walk_at "w"
      exact q _ _ (Int.emod_nonneg _ (by omega)) (Int.emod_lt_of_pos _ hm) ⟨_, _, _, f1⟩ e1
    · repeat walk_at "w"
      refine w_chg fun H1 e1 f1 => ?_
      repeat walk_at "w"
      exact q _ _ (Int.emod_nonneg _ (by omega)) (Int.emod_lt_of_pos _ hm) ⟨_, _, _, f1⟩ e1
end


end J
namespace J
open PySem PySem.Spec PyProof.Rows L2
local macro_rules | `(tactic| walk_at "cls") => `(tactic| first
  | with_reducible exact Facts.cl_Parts
  | with_reducible exact Facts.cl_Order)
local macro_rules | `(tactic| walk_at "na") => `(tactic| first
  | with_reducible exact Facts.na_Parts_rows
  | with_reducible exact Facts.na_Order_parts
  | with_reducible exact Facts.na_Order_order
  | with_reducible exact Facts.na_Order_needed)
local macro_rules | `(tactic| walk_at "ty") => `(tactic| first
  | with_reducible exact ty_int
  | with_reducible exact ty_bl
  | with_reducible exact ty_str
  | with_reducible exact ty_non
  | ((with_reducible refine' ty_lst ?vv); (case vv => walk_at "tr"))
  | ((with_reducible refine' ty_sqT ?vv); (case vv => walk_at "tr"))
  | ((with_reducible refine' ty_dic ?vv); (case vv => walk_at "tr")))
local macro_rules | `(tactic| walk_at "ix") => `(tactic| first | exact at0 | exact at1 | exact at2 | assumption)
local macro_rules | `(tactic| walk_at "size") => `(tactic| first
  | assumption
  | (show _ < sizeLine; rw [sizeLine_eq]; (try simp only [List.length_cons, List.length_nil, List.length_append, List.length_map]); omega)
  | (show _ ≤ sizeLine; rw [sizeLine_eq]; (try simp only [List.length_cons, List.length_nil, List.length_append, List.length_map]); omega))
local macro_rules | `(tactic| walk_at "side") => `(tactic| first
  | assumption
  | ((with_reducible refine cdw ?_ ?_) <;> omega)
  | omega
  | (exact ⟨by omega, by omega⟩)
  | (exact Or.inl ⟨by omega, by omega⟩)
  | (exact Or.inr ⟨by omega, by omega⟩)
  | decide
  | (simp only [List.length_cons, List.length_nil, List.length_append, List.length_map]; omega)
  | (show _ ≤ _; decide))
local macro_rules | `(tactic| walk_at "as") => `(tactic| with_reducible assumption)
local macro_rules | `(tactic| walk_at "tr") => `(tactic| first
  | with_reducible assumption
  | with_reducible exact upd_same
  | ((with_reducible refine' SqL.of ?hh); (case hh => walk_at "as"))
  | ((with_reducible refine' SqT.of ?hh); (case hh => walk_at "as"))
  | ((with_reducible refine' Same.stm ?ee ?gg); (case ee => walk_at "as"); (case gg => walk_at "tr"))
  | ((with_reducible refine' Same.sqT ?ee ?gg); (case ee => walk_at "as"); (case gg => walk_at "tr"))
  | ((with_reducible refine' Same.sqL ?ee ?gg); (case ee => walk_at "as"); (case gg => walk_at "tr"))
  | ((with_reducible refine' Same.at ?ee ?gg); (case ee => walk_at "as"); (case gg => walk_at "tr"))
  | ((with_reducible refine' But.stm ?ee ?ff ?gg); (case ee => walk_at "as"); (case ff => walk_at "ne"); (case gg => walk_at "tr"))
  | ((with_reducible refine' But.tup ?ee ?ff ?gg); (case ee => walk_at "as"); (case ff => walk_at "tr1"); (case gg => walk_at "tr"))
  | ((with_reducible refine' But.sqT ?ee ?ff ?gg); (case ee => walk_at "as"); (case ff => walk_at "tr1"); (case gg => walk_at "tr"))
  | ((with_reducible refine' But.tupL ?ee ?ff ?gg); (case ee => walk_at "as"); (case ff => walk_at "tr1"); (case gg => walk_at "tr"))
  | ((with_reducible refine' But.sqTL ?ee ?ff ?gg); (case ee => walk_at "as"); (case ff => walk_at "tr1"); (case gg => walk_at "tr"))
  | ((with_reducible refine' But.sqL ?ee ?ff ?gg); (case ee => walk_at "as"); (case ff => walk_at "ne"); (case gg => walk_at "tr"))
  | ((with_reducible refine' But.at ?ee ?ff ?gg); (case ee => walk_at "as"); (case ff => walk_at "ne"); (case gg => walk_at "tr")))
local macro_rules | `(tactic| walk_at "ts") => `(tactic| first
  | with_reducible assumption
  | with_reducible exact TS.refl _
  | ((with_reducible refine' TS.trans ?gg (TS.of ?ee)); (case ee => walk_at "as"); (case gg => walk_at "ts"))
  | ((with_reducible refine' TS.trans ?gg (TS.butS ?ee ?ff)); (case ee => walk_at "as"); (case ff => walk_at "tr1"); (case gg => walk_at "ts"))
  | ((with_reducible refine' TS.trans ?gg (TS.butL ?ee ?ff)); (case ee => walk_at "as"); (case ff => walk_at "tr1"); (case gg => walk_at "ts"))
  | ((with_reducible refine' TS.trans ?gg (TS.butI ?ee ?ff)); (case ee => walk_at "as"); (case ff => walk_at "tr1"); (case gg => walk_at "ts")))
local macro_rules | `(tactic| walk_at "sm") => `(tactic| first
  | with_reducible assumption
  | with_reducible exact Same.refl _
  | ((with_reducible refine' Same.trans ?gg ?ee); (case ee => walk_at "as"); (case gg => walk_at "sm"))
  | ((with_reducible refine' But.new ?gg ?nn ?ee); (case ee => walk_at "as"); (case nn => walk_at "fr"); (case gg => walk_at "sm")))
local macro_rules | `(tactic| walk_at "fr") => `(tactic| first
  | with_reducible assumption
  | ((with_reducible refine' Same.back ?ee ?nn); (case nn => walk_at "as"); (case ee => walk_at "sm"))
  | ((with_reducible refine' But.back ?ee ?ff ?nn); (case nn => walk_at "as"); (case ff => walk_at "ne0"); (case ee => walk_at "bu")))
local macro_rules | `(tactic| walk_at "bu") => `(tactic| first
  | with_reducible assumption
  | with_reducible exact But.refl _ _
  | ((with_reducible refine' But.trans ?gg ?ee); (case ee => walk_at "as"); (case gg => walk_at "bu"))
  | ((with_reducible refine' But.trans ?gg (But.of ?ee)); (case ee => walk_at "as"); (case gg => walk_at "bu"))
  | ((with_reducible refine' But.new2 ?gg ?nn ?ee); (case ee => walk_at "as"); (case nn => walk_at "frB"); (case gg => walk_at "bu")))
local macro_rules | `(tactic| walk_at "frB") => `(tactic| first
  | with_reducible assumption
  | ((with_reducible refine' Same.back ?ee ?nn); (case nn => walk_at "as"); (case ee => walk_at "sm"))
  | ((with_reducible refine' But.back' ?ee ?ff ?nn); (case nn => walk_at "as"); (case ee => walk_at "bu"); (case ff => walk_at "tr1")))
local macro_rules | `(tactic| walk_at "tr1") => `(tactic| first
  | with_reducible assumption
  | ((with_reducible refine' Same.stm ?ee ?gg); (case ee => walk_at "as"); (case gg => walk_at "tr1"))
  | ((with_reducible refine' Same.at ?ee ?gg); (case ee => walk_at "as"); (case gg => walk_at "tr1"))
  | ((with_reducible refine' But.at ?ee ?ff ?gg); (case ee => walk_at "as"); (case ff => walk_at "ne0"); (case gg => walk_at "tr1"))
  | ((with_reducible refine' But.stm ?ee ?ff ?gg); (case ee => walk_at "as"); (case ff => walk_at "ne0"); (case gg => walk_at "tr1")))
local macro_rules | `(tactic| walk_at "ne0") => `(tactic| first
  | with_reducible assumption
  | (with_reducible apply Ne.symm; with_reducible assumption))
local macro_rules | `(tactic| walk_at "ne") => `(tactic| first
  | with_reducible assumption
  | (with_reducible apply Ne.symm; with_reducible assumption)
  | ((with_reducible refine' stm_ne ?hh ?nn); (case nn => walk_at "as"); (case hh => walk_at "tr1"))
  | ((with_reducible refine' ne_of_none ?hh ?nn); (case nn => walk_at "as"); (case hh => walk_at "tr1"))
  | ((with_reducible apply Ne.symm); (with_reducible refine' ne_of_none ?hh ?nn); (case nn => walk_at "as"); (case hh => walk_at "tr1")))
local macro_rules | `(tactic| walk_at "v") => `(tactic| first
  | with_reducible refine w_seq ?_
  | ((with_reducible refine' w_var ?vv ?_); (case vv => exact rfl))
  | with_reducible refine w_c ?_
  | with_reducible refine w_op ?_
  | with_reducible refine w_asg ?_
  | with_reducible refine w_gName ?_
  | with_reducible refine w_ret ?_
  | with_reducible refine w_ifS ?_
  | with_reducible refine w_drop ?_
  | with_reducible refine w_next ?_
  | with_reducible refine w_cons ?_
  | with_reducible refine w_nil ?_
  | with_reducible refine w_call ?_
  | with_reducible refine w_cb ?_
  | with_reducible refine w_rI0 ?_
  | with_reducible refine w_addI ?_
  | with_reducible refine w_eqI ?_
  | with_reducible refine w_neI ?_
  | with_reducible refine w_eqS ?_
  | with_reducible refine w_neS ?_
  | with_reducible refine w_eqB ?_
  | with_reducible refine w_neB ?_
  | with_reducible refine w_chain ?_
  | with_reducible refine w_test ?_
  | with_reducible refine w_tB ?_
  | with_reducible refine w_bl ?_
  | ((with_reducible refine' w_mulI ?vv ?_); (case vv => walk_at "side"))
  | ((with_reducible refine' w_rI ?vv ?_); (case vv => walk_at "side"))
  | with_reducible refine w_int1 ?_
  | with_reducible refine w_int1b ?_
  | with_reducible refine w_tup ?_
  | with_reducible refine w_lst ?_
  | with_reducible refine w_un ?_
  | with_reducible refine w_rU ?_
  | with_reducible refine w_not ?_
  | with_reducible refine w_notV ?_
  | with_reducible refine w_ifE ?_
  | with_reducible refine w_nT ?_
  | with_reducible refine w_nF ?_
  | with_reducible refine iteT ?_
  | with_reducible refine iteF ?_
  | ((with_reducible refine' w_ixT ?vv ?ww ?_); (case vv => walk_at "tr"); (case ww => walk_at "ix"))
  | ((with_reducible refine' w_ixL ?vv ?ww ?_); (case vv => walk_at "tr"); (case ww => walk_at "ix"))
  | with_reducible refine w_gSub ?_
  | ((with_reducible refine' w_setL ?vv ?ww ?_); (case vv => walk_at "tr"); (case ww => first | rfl | decide | assumption))
  | ((with_reducible refine' w_lenL ?vv ?_); (case vv => walk_at "tr"))
  | ((with_reducible refine' w_lenT ?vv ?_); (case vv => walk_at "tr"))
  | with_reducible refine w_max2 ?_
  | with_reducible refine w_max3 ?_
  | with_reducible refine w_din ?_
  | with_reducible refine w_dnotin ?_
  | with_reducible refine w_dput ?_
  | with_reducible refine w_min2 ?_
  | with_reducible refine w_bm ?_
  | with_reducible refine w_bm0 ?_
  | ((with_reducible refine' w_tyL ?vv ?_); (case vv => walk_at "tr"))
  | ((with_reducible refine' w_append ?vv ?ww ?_); (case vv => walk_at "tr"); (case ww => walk_at "size"))
  | ((with_reducible refine' w_size ?vv ?_); (case vv => walk_at "size"))
  | with_reducible refine w_forL ?_
  | with_reducible refine w_forT ?_
  | with_reducible refine w_forR1 ?_
  | with_reducible refine w_forR2 ?_
  | with_reducible refine w_lcL ?_
  | with_reducible refine w_lcT ?_
  | with_reducible refine w_lcR1 ?_
  | with_reducible refine w_yes ?_
  | with_reducible refine w_sl ?_
  | with_reducible refine w_noPart ?_
  | with_reducible refine w_part ?_
  | with_reducible refine w_int ?_
  | ((with_reducible refine' w_slL ?vv ?_); (case vv => walk_at "tr"))
  | ((with_reducible refine' w_seqL ?vv ?ww ?_); (case vv => walk_at "tr"); (case ww => rfl))
  | ((with_reducible refine' w_seqT ?vv ?ww ?_); (case vv => walk_at "tr"); (case ww => rfl))
  | with_reducible refine w_gNil ?_
  | with_reducible refine w_gCons ?_
  | with_reducible refine w_forZ ?_
  | with_reducible refine w_forM ?_
  | with_reducible refine w_forE ?_
  | with_reducible refine w_forV ?_
  | with_reducible refine w_lcZ ?_
  | with_reducible refine w_lcE ?_
  | ((with_reducible refine' w_isi (b := true) ?vv ?ww ?_); (case vv => walk_at "ty"); (case ww => decide +kernel))
  | ((with_reducible refine' w_isi (b := false) ?vv ?ww ?_); (case vv => walk_at "ty"); (case ww => decide +kernel))
  | with_reducible refine w_revL ?_
  | with_reducible refine w_pairN ?_
  | with_reducible refine w_pairC ?_
  | with_reducible refine w_dget ?_
  | with_reducible refine w_met ?_
  | ((with_reducible refine' w_metAt ?vv ?ww ?_); (case vv => walk_at "tr"); (case ww => rfl))
  | with_reducible refine w_mkI ?_
  | with_reducible refine w_fld ?_
  | ((with_reducible refine' w_fldAt ?vv ?cc ?nn ?ww ?_); (case vv => walk_at "tr"); (case cc => walk_at "cls"); (case nn => walk_at "na"); (case ww => rfl))
  | with_reducible refine w_sfld ?_
  | ((with_reducible refine' w_sfldAt ?vv ?cc ?nn ?ll ?ee ?_); (case vv => walk_at "tr"); (case cc => walk_at "cls"); (case nn => walk_at "na"); (case ll => simp); (case ee => rfl))
  | ((with_reducible refine' w_tupL ?vv ?_); (case vv => walk_at "tr"))
  | ((with_reducible refine' w_tupT ?vv ?_); (case vv => walk_at "tr"))
  | ((with_reducible refine' w_listL ?vv ?_); (case vv => walk_at "tr"))
  | ((with_reducible refine' w_listT ?vv ?_); (case vv => walk_at "tr"))
  | with_reducible refine w_tyS ?_
  | with_reducible refine w_retN ?_
  | with_reducible refine w_break ?_
  | with_reducible refine w_cont ?_)
local macro_rules | `(tactic| walk_at "w") => `(tactic| first
  | walk_at "v"
  | with_reducible refine w_or ?_
  | with_reducible refine w_and ?_
  | with_reducible refine w_andV ?_
  | with_reducible refine w_orV ?_)
local macro_rules | `(tactic| walk_at "wd") => `(tactic| first
  | walk_at "w"
  | ((with_reducible refine' w_decT ?vv ?_); (case vv => decide +kernel))
  | ((with_reducible refine' w_decF ?vv ?_); (case vv => decide +kernel)))
local macro_rules | `(tactic| walk_at "tz") => `(tactic| (intro S z; (repeat walk_at "w"); exact z))
local macro_rules | `(tactic| walk_at "wf") => `(tactic| first
  | walk_at "wd"
  | ((with_reducible refine' w_decF ?vv ?_); (case vv => with_reducible assumption)))
/-! ### sorted: tuples of ints, item by item -/
def lexI : List Int → List Int → Bool
  | [], [] => false
  | [], _ :: _ => true
  | _ :: _, [] => false
  | a :: l, b :: m => if a = b then lexI l m else decide (a < b)
theorem lexI_asym : ∀ x y : List Int, lexI x y = true → lexI y x = false
  | [], [], h => by cases h
  | [], _ :: _, _ => rfl
  | _ :: _, [], h => by cases h
  | a :: l, b :: m, h => by
    unfold lexI at h ⊢
    by_cases e : a = b
    · rw [if_pos e] at h
      rw [if_pos e.symm]
      exact lexI_asym l m h
    · rw [if_neg e, decide_eq_true_eq] at h
      rw [if_neg (fun z => e z.symm)]
      exact decide_eq_false (by omega)
theorem lexI_tr : ∀ x y z : List Int, lexI y x = false → lexI z y = false → lexI z x = false
  | [], [], [], _, _ => rfl
  | [], [], _ :: _, _, h => h
  | [], _ :: _, [], h, _ => rfl
  | [], _ :: _, _ :: _, h, _ => rfl
  | _ :: _, [], _, h, _ => by cases h
  | _ :: _, _ :: _, [], _, h => by cases h
  | a :: l, b :: m, c :: n, h1, h2 => by
    unfold lexI at h1 h2 ⊢
    by_cases e1 : b = a
    · subst e1
      rw [if_pos rfl] at h1
      by_cases e2 : c = b
      · subst e2
        rw [if_pos rfl] at h2 ⊢
        exact lexI_tr l m n h1 h2
      · rw [if_neg e2] at h2 ⊢
        exact h2
    · rw [if_neg e1, decide_eq_false_iff_not] at h1
      by_cases e2 : c = b
      · subst e2
        rw [if_neg e1]
        exact decide_eq_false h1
      · rw [if_neg e2, decide_eq_false_iff_not] at h2
        rw [if_neg (by omega)]
        exact decide_eq_false (by omega)
theorem lexI_swo {α : Type} (k : α → List Int) : SrtO.Swo fun x y => lexI (k x) (k y) := ⟨fun x y => lexI_asym _ _, fun x y z => lexI_tr _ _ _⟩
section
variable {prog : Program} {w : World} {A : Around} {E : Value → Shared → Prop} {s : Shared} {Q : Bool → Shared → Prop}
theorem lexI_run {b : Bool} {xs ys : List Value} {ns ms : List Int} (i : Nat) (hx : IntsAre xs ns) (hy : IntsAre ys ms) (hl : ns.length = ms.length)
    (h : Q (lexI ns ms) s) : PySem.W.KatLex prog w A b false Q (xs.zip ys) i s := by
  induction hx generalizing ys ms i with
  | nil =>
    cases hy with
    | nil => exact PySem.W.kat_nil h
    | cons q u hy => simp at hl
  | @cons p t xs ns hx ih =>
    cases hy with
    | nil => simp at hl
    | @cons q u ys ms hy =>
      have hl' : ns.length = ms.length := by simpa using hl
      show PySem.W.KatLex prog w A b false Q ((Value.int p t, Value.int q u) :: xs.zip ys) i s
      refine PySem.W.kat_cons (wpAny_eqBool_int ?_)
      unfold lexI at h
      by_cases e : p = q
      · subst e
        rw [beq_self_eq_true]
        rw [if_pos rfl] at h
        refine PySem.W.kat_yes ?_
        first
          | exact ih (i + 1) hy hl' h
          | exact ih _ _ (i + 1) hy hl' h
      · rw [show (p == q) = false from beq_eq_false_iff_ne.mpr e]
        rw [if_neg e] at h
        exact PySem.W.kat_no (TS.oneLt_ints _ h)
end
def TupsI (h : Heap) (d : Nat) (k : Value → List Int) (vs : List Value) : Prop := ∀ v, v ∈ vs → TS.TupInts h v (k v) ∧ (k v).length = d
theorem firstsI {h : Heap} {d : Nat} {k : Value → List Int} (hd : 1 ≤ d) : ∀ vs : List Value, TupsI h d k vs → ∃ fs, PySem.W.KatTups h vs fs ∧ fs.length = vs.length ∧ ∀ f, f ∈ fs → ∃ n t, f = Value.int n t
  | [], _ => ⟨[], PySem.W.KatTups.nil, rfl, fun f hf => by simp at hf⟩
  | v :: vs, x => by
    obtain ⟨fs, kk, hl, hi⟩ := firstsI hd vs fun u hu => x u (List.mem_cons_of_mem _ hu)
    obtain ⟨⟨a, xs, e0, ⟨o, ho, hc, n, hdt⟩, i⟩, hn⟩ := x v (List.mem_cons_self ..)
    generalize k v = ns at i hn
    subst e0
    obtain ⟨y, ys, e⟩ : ∃ y ys, xs.toList = y :: ys := by
      cases q : xs.toList with
      | nil =>
        rw [q] at i
        have l := i.length
        rw [List.length_nil, hn] at l
        omega
      | cons y ys => exact ⟨y, ys, rfl⟩
    obtain ⟨m, t, hy⟩ := i.all y (by rw [e]; exact List.mem_cons_self ..)
    refine ⟨y :: fs, PySem.W.KatTups.cons ho hc hdt ?_ kk, by simp [hl], ?_⟩
    · have z := congrArg (fun l : List Value => l[0]?) e
      simpa using z
    · intro f hf
      rcases List.mem_cons.mp hf with rfl | hf
      · exact ⟨m, t, hy⟩
      · exact hi f hf
section
variable {prog : Program} {w : World} {A : Around} {s : Shared}
theorem tupsI_sortable {a : Addr} {vs : List Value} {d : Nat} {k : Value → List Int} (hd : 1 ≤ d) (h2 : 2 ≤ vs.length) (x : TupsI s.heap d k vs) (ha : ∀ o, s.heap.get? a = some o → o.cls ≠ .type "tuple") :
    SrtO.SortableO prog w A s a vs fun v u => lexI (k v) (k u) := by
  intro h' keep
  have x' : TupsI h' d k vs := fun v hv => ⟨(x v hv).1.keeps fun b o e c => keep b o (fun z => by subst z; exact ha o e c) e, (x v hv).2⟩
  obtain ⟨fs, kt, hl, hi⟩ := firstsI hd vs x'
  refine ⟨_, fun Q E hq => PySem.W.kat_kind (T := Value.type "int") kt (by omega) (fun f hf => ?_) rfl hq, fun p q hp hq => ?_⟩
  · obtain ⟨n, t, rfl⟩ := hi f hf
    exact PySem.W.Looks.of_pure rfl
  · obtain ⟨tp, lp⟩ := x' _ hp
    obtain ⟨tq, lq⟩ := x' _ hq
    show wpAny (model prog w) A _ (fun r s' => s' = { s with heap := h' } ∧ r = lexI (k p.1) (k q.1)) (fun _ _ => False) _
    generalize k p.1 = ns at tp lp ⊢
    generalize k q.1 = ms at tq lq ⊢
    obtain ⟨a, xs, e1, ⟨o, ho, hc, n, hdt⟩, i⟩ := tp
    obtain ⟨a', ys, e2, ⟨o', ho', hc', n', hdt'⟩, i'⟩ := tq
    rw [e1, e2]
    refine PySem.W.kat_lt ho hdt ho' hdt' ?_
    have sz : decide (xs.size < ys.size) = false := by
      have l1 := i.length
      have l2 := i'.length
      rw [Array.length_toList] at l1 l2
      exact decide_eq_false (by omega)
    rw [sz]
    exact lexI_run 0 i i' (by omega) ⟨rfl, rfl⟩
theorem sorted_tupsI {E : Value → Shared → Prop} {l : Addr} {vs : List Value} {d : Nat} {k : Value → List Int} {Q : Value → Shared → Prop} (hd : 1 ≤ d) (hl : s.heap.IsList l vs.toArray) (hz : vs.length ≤ sizeLine) (hp : TupsI s.heap d k vs)
    (h : ∀ (h' : Heap) (d : Addr) (out : List Value), SrtO.Srtd (fun v u => lexI (k v) (k u)) out → SrtO.Stb (fun v u => lexI (k v) (k u)) out vs → (∀ b o, s.heap.get? b = some o → h'.get? b = some o) → s.heap.objs.size ≤ d → (∃ n, h'.get? d = some (seqObj "list" out.toArray n)) → Q (.ref d) { s with heap := h' }) :
    wpAny (model prog w) A (call (.builtin "sorted") [.ref l]) Q E s := by
  refine SrtO.sorted_ord (lexI_swo k) hl hz (fun h2 h₁ a ha kk => ?_) fun out hs hb => ?_
  · refine tupsI_sortable (s := { s with heap := h₁ }) hd (by omega) (fun v hm => ⟨(hp v hm).1.keeps fun b o e _ => (kk b o e).2, (hp v hm).2⟩) fun o e => ?_
    have e' : some o = some (seqObj "list" vs.toArray 0) := e.symm.trans ha
    cases e'
    intro c
    exact absurd (Value.type.inj c) (by decide)
  · exact h _ _ out hs hb (fun b o e => sortedAll_old e) (Nat.le_succ _) (sortedAll_at s.heap vs out.toArray)
end
/-- sorted(xs), xs a list of tuples of d ints: a new list, ascending item by item -/
def rSortedL (K : PySem.W.Frag) : List V → Hp → VK → Prop := fun vs H Q => ∃ (a : Addr) (xs : List V) (k : V → List Int) (d : Nat), vs = [V.ref a] ∧ SqL K H a xs ∧ 1 ≤ d ∧ (∀ x ∈ xs, TupI K H x (k x) ∧ (k x).length = d) ∧
  ∀ ys, ys.Perm xs → ys.Pairwise (fun x y => lexI (k y) (k x) = false) → NewO (.lst ys) H Q
section
variable {X : Cx} {K : PySem.W.Frag}
theorem call_sortedL (hK : X.K = K) : CallR X (.builtin "sorted") (rSortedL K) := by
  subst hK
  intro pins s σ H vs us Q I r h
  obtain ⟨a, xs, k, d, rfl, hs, hd, hx, q⟩ := h
  obtain ⟨its, rv, hl, hz⟩ := I.list hs
  obtain ⟨u, rfl, ru⟩ := vals1 r
  obtain rfl : u = Value.ref a := ru
  obtain ⟨e1, e2⟩ := refs_back rv fun x m => by
    obtain ⟨⟨t, e, _⟩, _⟩ := hx x m
    exact ⟨t, e⟩
  refine sorted_tupsI (k := fun u => k (backV u)) hd hl.isList (by rw [← rv.length]; exact hz) (fun v hv => ?_) fun h' d out h1 h2 kp hd hn => ?_
  · obtain ⟨t, rfl⟩ := e2 v hv
    have hm : V.ref t ∈ xs := by rw [e1]; exact List.mem_map.mpr ⟨_, hv, rfl⟩
    obtain ⟨⟨t', e, ht⟩, hn⟩ := hx _ hm
    cases e
    exact ⟨tupI_raw I ht, hn⟩
  · have h3 : ∀ u ∈ out, ∃ a, u = Value.ref a := fun u hu => e2 u (h2.perm.mem_iff.mp hu)
    obtain ⟨n, hn⟩ := hn
    have hb : (out.map backV).Perm xs := by
      rw [e1]
      exact h2.perm.map backV
    refine ⟨.ref d, upd H d (.lst (out.map backV)), I.laid (t' := s.toks) kp hd ⟨?_, out, n, vals_back h3, hn⟩, rfl, q _ hb (List.pairwise_map.mpr h1) d (I.hok.fresh hd)⟩
    rw [hb.length_eq]
    exact hz
end

end J
namespace J
open PySem PySem.Spec PyProof.Rows L2
local macro_rules | `(tactic| walk_at "cls") => `(tactic| first
  | with_reducible exact Facts.cl_Parts
  | with_reducible exact Facts.cl_Order)
local macro_rules | `(tactic| walk_at "na") => `(tactic| first
  | with_reducible exact Facts.na_Parts_rows
  | with_reducible exact Facts.na_Order_parts
  | with_reducible exact Facts.na_Order_order
  | with_reducible exact Facts.na_Order_needed)
local macro_rules | `(tactic| walk_at "ty") => `(tactic| first
  | with_reducible exact ty_int
  | with_reducible exact ty_bl
  | with_reducible exact ty_str
  | with_reducible exact ty_non
  | ((with_reducible refine' ty_lst ?vv); (case vv => walk_at "tr"))
  | ((with_reducible refine' ty_sqT ?vv); (case vv => walk_at "tr"))
  | ((with_reducible refine' ty_dic ?vv); (case vv => walk_at "tr")))
local macro_rules | `(tactic| walk_at "ix") => `(tactic| first | exact at0 | exact at1 | exact at2 | assumption)
local macro_rules | `(tactic| walk_at "size") => `(tactic| first
  | assumption
  | (show _ < sizeLine; rw [sizeLine_eq]; (try simp only [List.length_cons, List.length_nil, List.length_append, List.length_map]); omega)
  | (show _ ≤ sizeLine; rw [sizeLine_eq]; (try simp only [List.length_cons, List.length_nil, List.length_append, List.length_map]); omega))
local macro_rules | `(tactic| walk_at "side") => `(tactic| first
  | assumption
  | ((with_reducible refine cdw ?_ ?_) <;> omega)
  | omega
  | (exact ⟨by omega, by omega⟩)
  | (exact Or.inl ⟨by omega, by omega⟩)
  | (exact Or.inr ⟨by omega, by omega⟩)
  | decide
  | (simp only [List.length_cons, List.length_nil, List.length_append, List.length_map]; omega)
  | (show _ ≤ _; decide))
local macro_rules | `(tactic| walk_at "as") => `(tactic| with_reducible assumption)
local macro_rules | `(tactic| walk_at "tr") => `(tactic| first
  | with_reducible assumption
  | with_reducible exact upd_same
  | ((with_reducible refine' SqL.of ?hh); (case hh => walk_at "as"))
  | ((with_reducible refine' SqT.of ?hh); (case hh => walk_at "as"))
  | ((with_reducible refine' Same.stm ?ee ?gg); (case ee => walk_at "as"); (case gg => walk_at "tr"))
  | ((with_reducible refine' Same.sqT ?ee ?gg); (case ee => walk_at "as"); (case gg => walk_at "tr"))
  | ((with_reducible refine' Same.sqL ?ee ?gg); (case ee => walk_at "as"); (case gg => walk_at "tr"))
  | ((with_reducible refine' Same.at ?ee ?gg); (case ee => walk_at "as"); (case gg => walk_at "tr"))
  | ((with_reducible refine' But.stm ?ee ?ff ?gg); (case ee => walk_at "as"); (case ff => walk_at "ne"); (case gg => walk_at "tr"))
  | ((with_reducible refine' But.tup ?ee ?ff ?gg); (case ee => walk_at "as"); (case ff => walk_at "tr1"); (case gg => walk_at "tr"))
  | ((with_reducible refine' But.sqT ?ee ?ff ?gg); (case ee => walk_at "as"); (case ff => walk_at "tr1"); (case gg => walk_at "tr"))
  | ((with_reducible refine' But.tupL ?ee ?ff ?gg); (case ee => walk_at "as"); (case ff => walk_at "tr1"); (case gg => walk_at "tr"))
  | ((with_reducible refine' But.sqTL ?ee ?ff ?gg); (case ee => walk_at "as"); (case ff => walk_at "tr1"); (case gg => walk_at "tr"))
  | ((with_reducible refine' But.sqL ?ee ?ff ?gg); (case ee => walk_at "as"); (case ff => walk_at "ne"); (case gg => walk_at "tr"))
  | ((with_reducible refine' But.at ?ee ?ff ?gg); (case ee => walk_at "as"); (case ff => walk_at "ne"); (case gg => walk_at "tr")))
local macro_rules | `(tactic| walk_at "ts") => `(tactic| first
  | with_reducible assumption
  | with_reducible exact TS.refl _
  | ((with_reducible refine' TS.trans ?gg (TS.of ?ee)); (case ee => walk_at "as"); (case gg => walk_at "ts"))
  | ((with_reducible refine' TS.trans ?gg (TS.butS ?ee ?ff)); (case ee => walk_at "as"); (case ff => walk_at "tr1"); (case gg => walk_at "ts"))
  | ((with_reducible refine' TS.trans ?gg (TS.butL ?ee ?ff)); (case ee => walk_at "as"); (case ff => walk_at "tr1"); (case gg => walk_at "ts"))
  | ((with_reducible refine' TS.trans ?gg (TS.butI ?ee ?ff)); (case ee => walk_at "as"); (case ff => walk_at "tr1"); (case gg => walk_at "ts")))
local macro_rules | `(tactic| walk_at "sm") => `(tactic| first
  | with_reducible assumption
  | with_reducible exact Same.refl _
  | ((with_reducible refine' Same.trans ?gg ?ee); (case ee => walk_at "as"); (case gg => walk_at "sm"))
  | ((with_reducible refine' But.new ?gg ?nn ?ee); (case ee => walk_at "as"); (case nn => walk_at "fr"); (case gg => walk_at "sm")))
local macro_rules | `(tactic| walk_at "fr") => `(tactic| first
  | with_reducible assumption
  | ((with_reducible refine' Same.back ?ee ?nn); (case nn => walk_at "as"); (case ee => walk_at "sm"))
  | ((with_reducible refine' But.back ?ee ?ff ?nn); (case nn => walk_at "as"); (case ff => walk_at "ne0"); (case ee => walk_at "bu")))
local macro_rules | `(tactic| walk_at "bu") => `(tactic| first
  | with_reducible assumption
  | with_reducible exact But.refl _ _
  | ((with_reducible refine' But.trans ?gg ?ee); (case ee => walk_at "as"); (case gg => walk_at "bu"))
  | ((with_reducible refine' But.trans ?gg (But.of ?ee)); (case ee => walk_at "as"); (case gg => walk_at "bu"))
  | ((with_reducible refine' But.new2 ?gg ?nn ?ee); (case ee => walk_at "as"); (case nn => walk_at "frB"); (case gg => walk_at "bu")))
local macro_rules | `(tactic| walk_at "frB") => `(tactic| first
  | with_reducible assumption
  | ((with_reducible refine' Same.back ?ee ?nn); (case nn => walk_at "as"); (case ee => walk_at "sm"))
  | ((with_reducible refine' But.back' ?ee ?ff ?nn); (case nn => walk_at "as"); (case ee => walk_at "bu"); (case ff => walk_at "tr1")))
local macro_rules | `(tactic| walk_at "tr1") => `(tactic| first
  | with_reducible assumption
  | ((with_reducible refine' Same.stm ?ee ?gg); (case ee => walk_at "as"); (case gg => walk_at "tr1"))
  | ((with_reducible refine' Same.at ?ee ?gg); (case ee => walk_at "as"); (case gg => walk_at "tr1"))
  | ((with_reducible refine' But.at ?ee ?ff ?gg); (case ee => walk_at "as"); (case ff => walk_at "ne0"); (case gg => walk_at "tr1"))
  | ((with_reducible refine' But.stm ?ee ?ff ?gg); (case ee => walk_at "as"); (case ff => walk_at "ne0"); (case gg => walk_at "tr1")))
local macro_rules | `(tactic| walk_at "ne0") => `(tactic| first
  | with_reducible assumption
  | (with_reducible apply Ne.symm; with_reducible assumption))
local macro_rules | `(tactic| walk_at "ne") => `(tactic| first
  | with_reducible assumption
  | (with_reducible apply Ne.symm; with_reducible assumption)
  | ((with_reducible refine' stm_ne ?hh ?nn); (case nn => walk_at "as"); (case hh => walk_at "tr1"))
  | ((with_reducible refine' ne_of_none ?hh ?nn); (case nn => walk_at "as"); (case hh => walk_at "tr1"))
  | ((with_reducible apply Ne.symm); (with_reducible refine' ne_of_none ?hh ?nn); (case nn => walk_at "as"); (case hh => walk_at "tr1")))
local macro_rules | `(tactic| walk_at "v") => `(tactic| first
  | with_reducible refine w_seq ?_
  | ((with_reducible refine' w_var ?vv ?_); (case vv => exact rfl))
  | with_reducible refine w_c ?_
  | with_reducible refine w_op ?_
  | with_reducible refine w_asg ?_
  | with_reducible refine w_gName ?_
  | with_reducible refine w_ret ?_
  | with_reducible refine w_ifS ?_
  | with_reducible refine w_drop ?_
  | with_reducible refine w_next ?_
  | with_reducible refine w_cons ?_
  | with_reducible refine w_nil ?_
  | with_reducible refine w_call ?_
  | with_reducible refine w_cb ?_
  | with_reducible refine w_rI0 ?_
  | with_reducible refine w_addI ?_
  | with_reducible refine w_eqI ?_
  | with_reducible refine w_neI ?_
  | with_reducible refine w_eqS ?_
  | with_reducible refine w_neS ?_
  | with_reducible refine w_eqB ?_
  | with_reducible refine w_neB ?_
  | with_reducible refine w_chain ?_
  | with_reducible refine w_test ?_
  | with_reducible refine w_tB ?_
  | with_reducible refine w_bl ?_
  | ((with_reducible refine' w_mulI ?vv ?_); (case vv => walk_at "side"))
  | ((with_reducible refine' w_rI ?vv ?_); (case vv => walk_at "side"))
  | with_reducible refine w_int1 ?_
  | with_reducible refine w_int1b ?_
  | with_reducible refine w_tup ?_
  | with_reducible refine w_lst ?_
  | with_reducible refine w_un ?_
  | with_reducible refine w_rU ?_
  | with_reducible refine w_not ?_
  | with_reducible refine w_notV ?_
  | with_reducible refine w_ifE ?_
  | with_reducible refine w_nT ?_
  | with_reducible refine w_nF ?_
  | with_reducible refine iteT ?_
  | with_reducible refine iteF ?_
  | ((with_reducible refine' w_ixT ?vv ?ww ?_); (case vv => walk_at "tr"); (case ww => walk_at "ix"))
  | ((with_reducible refine' w_ixL ?vv ?ww ?_); (case vv => walk_at "tr"); (case ww => walk_at "ix"))
  | with_reducible refine w_gSub ?_
  | ((with_reducible refine' w_setL ?vv ?ww ?_); (case vv => walk_at "tr"); (case ww => first | rfl | decide | assumption))
  | ((with_reducible refine' w_lenL ?vv ?_); (case vv => walk_at "tr"))
  | ((with_reducible refine' w_lenT ?vv ?_); (case vv => walk_at "tr"))
  | with_reducible refine w_max2 ?_
  | with_reducible refine w_max3 ?_
  | with_reducible refine w_din ?_
  | with_reducible refine w_dnotin ?_
  | with_reducible refine w_dput ?_
  | with_reducible refine w_min2 ?_
  | with_reducible refine w_bm ?_
  | with_reducible refine w_bm0 ?_
  | ((with_reducible refine' w_tyL ?vv ?_); (case vv => walk_at "tr"))
  | ((with_reducible refine' w_append ?vv ?ww ?_); (case vv => walk_at "tr"); (case ww => walk_at "size"))
  | ((with_reducible refine' w_size ?vv ?_); (case vv => walk_at "size"))
  | with_reducible refine w_forL ?_
  | with_reducible refine w_forT ?_
  | with_reducible refine w_forR1 ?_
  | with_reducible refine w_forR2 ?_
  | with_reducible refine w_lcL ?_
  | with_reducible refine w_lcT ?_
  | with_reducible refine w_lcR1 ?_
  | with_reducible refine w_yes ?_
  | with_reducible refine w_sl ?_
  | with_reducible refine w_noPart ?_
  | with_reducible refine w_part ?_
  | with_reducible refine w_int ?_
  | ((with_reducible refine' w_slL ?vv ?_); (case vv => walk_at "tr"))
  | ((with_reducible refine' w_seqL ?vv ?ww ?_); (case vv => walk_at "tr"); (case ww => rfl))
  | ((with_reducible refine' w_seqT ?vv ?ww ?_); (case vv => walk_at "tr"); (case ww => rfl))
  | with_reducible refine w_gNil ?_
  | with_reducible refine w_gCons ?_
  | with_reducible refine w_forZ ?_
  | with_reducible refine w_forM ?_
  | with_reducible refine w_forE ?_
  | with_reducible refine w_forV ?_
  | with_reducible refine w_lcZ ?_
  | with_reducible refine w_lcE ?_
  | ((with_reducible refine' w_isi (b := true) ?vv ?ww ?_); (case vv => walk_at "ty"); (case ww => decide +kernel))
  | ((with_reducible refine' w_isi (b := false) ?vv ?ww ?_); (case vv => walk_at "ty"); (case ww => decide +kernel))
  | with_reducible refine w_revL ?_
  | with_reducible refine w_pairN ?_
  | with_reducible refine w_pairC ?_
  | with_reducible refine w_dget ?_
  | with_reducible refine w_met ?_
  | ((with_reducible refine' w_metAt ?vv ?ww ?_); (case vv => walk_at "tr"); (case ww => rfl))
  | with_reducible refine w_mkI ?_
  | with_reducible refine w_fld ?_
  | ((with_reducible refine' w_fldAt ?vv ?cc ?nn ?ww ?_); (case vv => walk_at "tr"); (case cc => walk_at "cls"); (case nn => walk_at "na"); (case ww => rfl))
  | with_reducible refine w_sfld ?_
  | ((with_reducible refine' w_sfldAt ?vv ?cc ?nn ?ll ?ee ?_); (case vv => walk_at "tr"); (case cc => walk_at "cls"); (case nn => walk_at "na"); (case ll => simp); (case ee => rfl))
  | ((with_reducible refine' w_tupL ?vv ?_); (case vv => walk_at "tr"))
  | ((with_reducible refine' w_tupT ?vv ?_); (case vv => walk_at "tr"))
  | ((with_reducible refine' w_listL ?vv ?_); (case vv => walk_at "tr"))
  | ((with_reducible refine' w_listT ?vv ?_); (case vv => walk_at "tr"))
  | with_reducible refine w_tyS ?_
  | with_reducible refine w_retN ?_
  | with_reducible refine w_break ?_
  | with_reducible refine w_cont ?_)
local macro_rules | `(tactic| walk_at "w") => `(tactic| first
  | walk_at "v"
  | with_reducible refine w_or ?_
  | with_reducible refine w_and ?_
  | with_reducible refine w_andV ?_
  | with_reducible refine w_orV ?_)
local macro_rules | `(tactic| walk_at "wd") => `(tactic| first
  | walk_at "w"
  | ((with_reducible refine' w_decT ?vv ?_); (case vv => decide +kernel))
  | ((with_reducible refine' w_decF ?vv ?_); (case vv => decide +kernel)))
local macro_rules | `(tactic| walk_at "tz") => `(tactic| (intro S z; (repeat walk_at "w"); exact z))
local macro_rules | `(tactic| walk_at "wf") => `(tactic| first
  | walk_at "wd"
  | ((with_reducible refine' w_decF ?vv ?_); (case vv => with_reducible assumption)))
section
variable {X : Cx} {K : PySem.W.Frag} {H : Hp} {Q : VK}
/-- max, min of a list of ints; max of three -/
def rMaxO (K : PySem.W.Frag) : List V → Hp → VK → Prop := fun vs H Q => ∃ (a : Addr) (ns : List Int), vs = [V.ref a] ∧ SqL K H a (ns.map V.int) ∧ 0 < ns.length ∧ ∀ m, m ∈ ns → (∀ y, y ∈ ns → y ≤ m) → Q (.int m) H
theorem call_maxL (hK : X.K = K) (hc : X.calm = true) : CallR X (.builtin "max") (rMaxO K) := by subst hK; exact cr_max hc
theorem w_maxL {a : Addr} {ns : List Int} (h : SqL K H a (ns.map V.int)) (hl : 0 < ns.length) (k : ∀ m, m ∈ ns → (∀ y, y ∈ ns → y ≤ m) → Q (.int m) H) : rMaxO K [.ref a] H Q := ⟨a, ns, rfl, h, hl, k⟩
def rMax3 : List V → Hp → VK → Prop := fun xs H Q => ∃ i j k : Int, xs = [.int i, .int j, .int k] ∧ Q (.int (max (max i j) k)) H
theorem lt3 (i j : Int) : (if decide (j > i) = true then V.int j else .int i) = .int (max i j) := by
  by_cases h : j > i
  · rw [decide_eq_true h, if_pos rfl]; exact congrArg V.int (by omega)
  · rw [decide_eq_false h, if_neg Bool.false_ne_true]; exact congrArg V.int (by omega)
theorem call_max3A (hc : X.calm = true) : CallR X (.builtin "max") rMax3 := fun pins s σ H xs us Q I r h => by
  obtain ⟨i, j, k, rfl, q⟩ := h
  refine call_max3Nu hc pins s σ H _ us Q I r ⟨.int i, .int j, .int k, .int (max (max i j) k), rfl, ?_, q⟩
  have m2 : ∀ i j : Int, nuMax2 (.int i) (.int j) = some (.int (max i j)) := fun i j => by
    show some _ = _
    exact congrArg some (lt3 i j)
  show (nuMax2 (.int i) (.int j)).bind _ = _
  rw [m2]
  exact m2 _ _
theorem w_max3 {i j k : Int} (q : Q (.int (max (max i j) k)) H) : rMax3 [.int i, .int j, .int k] H Q := ⟨i, j, k, rfl, q⟩
/-- list.index -/
theorem mt_indexA (hK : X.K = K) : MtR X "list.index" (rIndex K) := by subst hK; exact mt_index
theorem w_indexI {a : Addr} {ns : List Int} {k : Int} {j : Nat} (h : SqL K H a (ns.map V.int)) (e : ns[j]? = some k) (no : ∀ m, m < j → ns[m]? ≠ some k) (q : Q (.int (j : Nat)) H) : rIndex K (.ref a) [.int k] H Q :=
  ⟨a, ns.map V.int, .int k, j, .int k, rfl, rfl, h, rfl, by rw [List.all_eq_true]; intro x hx; obtain ⟨_, _, rfl⟩ := List.mem_map.mp hx; rfl, by rw [List.getElem?_map, e]; rfl, by simp [eqV], fun m z hm hz => by
    rw [List.getElem?_map] at hz
    cases h2 : ns[m]? with
    | none => rw [h2] at hz; cases hz
    | some y =>
      rw [h2] at hz
      cases Option.some.inj hz
      have : y ≠ k := fun z => no m hm (by rw [h2, z])
      simp [eqV, this], q⟩
/-- list(range(n)) -/
def rRng1 : List V → Hp → VK → Prop := fun vs H Q => ∃ j : Int, vs = [V.int j] ∧ NewO (.rng 0 j) H Q
theorem call_rng1 : CallR X (.type "range") rRng1 := by
  intro pins s σ H vs us Q I r h
  obtain ⟨j, rfl, q⟩ := h
  obtain ⟨u, rfl, ru⟩ := vals1 r
  obtain ⟨t, rfl⟩ := ru
  refine call_range_1 ⟨.ref s.heap.objs.size, upd H s.heap.objs.size (.rng 0 j), I.laid (t' := s.toks + 1 + 1) (fun b o e => Heap.get?_push_of_some _ e) (Nat.le_refl _) ?_, rfl, q _ (I.hok.fresh (Nat.le_refl _))⟩
  exact ⟨s.toks, t, s.toks + 1, Heap.get?_push_size _ rfl⟩
def rListRng : List V → Hp → VK → Prop := fun vs H Q => ∃ (a : Addr) (j : Int), vs = [V.ref a] ∧ H a = some (.rng 0 j) ∧ 0 ≤ j ∧ j ≤ 1000 ∧ NewO (.lst ((List.range j.toNat).map fun i : Nat => V.int (i : Int))) H Q
theorem vals_ixR : ∀ {xs : List V} {us : List Value}, xs.length = us.length → (∀ (j : Nat) (x : V) (u : Value), xs[j]? = some x → us[j]? = some u → RelV x u) → Vals xs us
  | [], [], _, _ => .nil
  | [], _ :: _, h, _ => by simp at h
  | _ :: _, [], h, _ => by simp at h
  | x :: xs, u :: us, h, f => .cons (f 0 x u rfl rfl) (vals_ixR (by simpa using h) fun j y w h1 h2 => f (j + 1) y w (by simpa using h1) (by simpa using h2))
theorem vals_items {acc : Array Value} {n : Nat} (h : ItemsOf (fun i v => ∃ t, v = Value.int (0 + (i : Int) * 1) t) acc n) : Vals ((List.range n).map fun i : Nat => V.int (i : Int)) acc.toList := by
  refine vals_ixR (by rw [List.length_map, List.length_range, Array.length_toList]; exact h.1.symm) fun j x u hx hu => ?_
  rw [List.getElem?_map] at hx
  cases hr : (List.range n)[j]? with
  | none => rw [hr] at hx; cases hx
  | some i =>
    rw [hr] at hx
    obtain ⟨hl, he⟩ := List.getElem?_eq_some_iff.mp hr
    rw [List.getElem_range] at he
    subst he
    rw [List.length_range] at hl
    cases Option.some.inj hx
    rw [Array.getElem?_toList] at hu
    obtain ⟨t, rfl⟩ := h.2 j u hu
    exact ⟨t, by rw [Int.zero_add, Int.mul_one]⟩
theorem call_listRng (hc : X.calm = true) : CallR X (.type "list") rListRng := by
  intro pins s σ H vs us Q I r h
  obtain ⟨a, j, rfl, ha, h0, h1, q⟩ := h
  obtain ⟨u, rfl, ru⟩ := vals1 r
  obtain rfl : u = Value.ref a := ru
  obtain ⟨t, u, v, hr⟩ := I.hok a _ ha
  refine call_list_range (n := j.toNat) (I.ok.hd hc) hr ?_ ?_ (by omega) fun h' tk acc' c' hk hS hi => ?_
  · exact PySem.small_one (by decide) (by decide) (by omega) (by omega)
  · rw [PySem.rangeSize_one]
    by_cases z : 0 < j
    · rw [if_pos z]; omega
    · rw [if_neg z]; omega
  · refine ⟨.ref s.heap.objs.size, upd H s.heap.objs.size (.lst _), I.laid (t' := tk) hk (Nat.le_refl _) ⟨?_, acc'.toList, c', vals_items hi, by simpa using hS⟩, rfl, q _ (I.hok.fresh (Nat.le_refl _))⟩
    rw [List.length_map, List.length_range, sizeLine_eq]
    omega
theorem w_rng1 {j : Int} (k : NewO (.rng 0 j) H Q) : rRng1 [.int j] H Q := ⟨j, rfl, k⟩
theorem w_listRng {a : Addr} {j : Int} (h : H a = some (.rng 0 j)) (h0 : 0 ≤ j) (h1 : j ≤ 1000) (k : NewO (.lst ((List.range j.toNat).map fun i : Nat => V.int (i : Int))) H Q) : rListRng [.ref a] H Q := ⟨a, j, rfl, h, h0, h1, k⟩
/-- list.remove -/
theorem w_remove {a : Addr} {ns : List Int} {k : Int} {j : Nat} (h : H a = some (.lst (ns.map V.int))) (e : ns[j]? = some k) (no : ∀ m, m < j → ns[m]? ≠ some k) (q : ChgO a (.lst ((ns.eraseIdx j).map V.int)) H (Q .non)) : rRemI (.ref a) [.int k] H Q := ⟨a, ns, k, j, rfl, rfl, h, e, no, q⟩
end
section
variable {K : PySem.W.Frag} {H : Hp} {Q : VK} {σ : L2.St} {ty td tv : TE}
theorem w_din (k : ty σ H fun y H1 => td σ H1 fun x H2 => ∃ a o, x = .ref a ∧ DGet H2 a y o ∧ Q (.bl o.isSome) H2) : tDIn ty td σ H Q := k
theorem w_dnotin (k : ty σ H fun y H1 => td σ H1 fun x H2 => ∃ a o, x = .ref a ∧ DGet H2 a y o ∧ Q (.bl (!o.isSome)) H2) : tDNotIn ty td σ H Q := k
theorem w_dput {D : L2.Ends} (k : tv σ H fun v H1 => td σ H1 fun x H2 => ty σ H2 fun y H3 => ∃ a H4, x = .ref a ∧ DPut H3 a y v H4 ∧ D.nx σ H4) : sDPut td ty tv D σ H := k
end
/-- a comprehension within one -/
theorem lookup_rel {env : Env} : ∀ {names : List (Str × NameKind)} {x : Str}, (names.lookup x = some .cell ∨ names.lookup x = some .free) →
    ((names.map fun (n, k) => if (k == NameKind.free && env.scope.kind == .function && env.kindOf n == some .cell) then (n, NameKind.cell) else (n, k)).lookup x = some .cell ∨
     (names.map fun (n, k) => if (k == NameKind.free && env.scope.kind == .function && env.kindOf n == some .cell) then (n, NameKind.cell) else (n, k)).lookup x = some .free)
  | [], x, h => by simp at h
  | (n, k) :: r, x, h => by
    have ih := @lookup_rel env r x
    show List.lookup x ((if (k == NameKind.free && env.scope.kind == .function && env.kindOf n == some .cell) = true then (n, NameKind.cell) else (n, k)) :: _) = _ ∨ List.lookup x ((if (k == NameKind.free && env.scope.kind == .function && env.kindOf n == some .cell) = true then (n, NameKind.cell) else (n, k)) :: _) = _
    cases hx : x == n with
    | true =>
      simp only [List.lookup_cons, hx] at h
      by_cases hc : (k == NameKind.free && env.scope.kind == .function && env.kindOf n == some .cell) = true
      · rw [if_pos hc]; simp only [List.lookup_cons, hx]; exact .inl trivial
      · rw [if_neg hc]; simp only [List.lookup_cons, hx]; exact h
    | false =>
      simp only [List.lookup_cons, hx] at h
      by_cases hc : (k == NameKind.free && env.scope.kind == .function && env.kindOf n == some .cell) = true
      · rw [if_pos hc]; simp only [List.lookup_cons, hx]; exact ih h
      · rw [if_neg hc]; simp only [List.lookup_cons, hx]; exact ih h
theorem blkOk_rel {N : List Str} {sc0 scope : Scope} {env : Env} {own : List (Str × Nat)} (h : blkC N sc0 scope own = true) : BlkOk N (relabel sc0 env) scope own := by
  have b := blkOk_by h
  exact ⟨b.kind, b.uniq, b.ix, fun y hy e => lookup_rel (b.free y hy e), b.own⟩

end J
namespace J
open PySem PySem.Spec PyProof.Rows L2
local macro_rules | `(tactic| walk_at "cls") => `(tactic| first
  | with_reducible exact Facts.cl_Parts
  | with_reducible exact Facts.cl_Order)
local macro_rules | `(tactic| walk_at "na") => `(tactic| first
  | with_reducible exact Facts.na_Parts_rows
  | with_reducible exact Facts.na_Order_parts
  | with_reducible exact Facts.na_Order_order
  | with_reducible exact Facts.na_Order_needed)
local macro_rules | `(tactic| walk_at "ty") => `(tactic| first
  | with_reducible exact ty_int
  | with_reducible exact ty_bl
  | with_reducible exact ty_str
  | with_reducible exact ty_non
  | ((with_reducible refine' ty_lst ?vv); (case vv => walk_at "tr"))
  | ((with_reducible refine' ty_sqT ?vv); (case vv => walk_at "tr"))
  | ((with_reducible refine' ty_dic ?vv); (case vv => walk_at "tr")))
local macro_rules | `(tactic| walk_at "ix") => `(tactic| first | exact at0 | exact at1 | exact at2 | assumption)
local macro_rules | `(tactic| walk_at "size") => `(tactic| first
  | assumption
  | (show _ < sizeLine; rw [sizeLine_eq]; (try simp only [List.length_cons, List.length_nil, List.length_append, List.length_map]); omega)
  | (show _ ≤ sizeLine; rw [sizeLine_eq]; (try simp only [List.length_cons, List.length_nil, List.length_append, List.length_map]); omega))
local macro_rules | `(tactic| walk_at "side") => `(tactic| first
  | assumption
  | ((with_reducible refine cdw ?_ ?_) <;> omega)
  | omega
  | (exact ⟨by omega, by omega⟩)
  | (exact Or.inl ⟨by omega, by omega⟩)
  | (exact Or.inr ⟨by omega, by omega⟩)
  | decide
  | (simp only [List.length_cons, List.length_nil, List.length_append, List.length_map]; omega)
  | (show _ ≤ _; decide))
local macro_rules | `(tactic| walk_at "as") => `(tactic| with_reducible assumption)
local macro_rules | `(tactic| walk_at "tr") => `(tactic| first
  | with_reducible assumption
  | with_reducible exact upd_same
  | ((with_reducible refine' SqL.of ?hh); (case hh => walk_at "as"))
  | ((with_reducible refine' SqT.of ?hh); (case hh => walk_at "as"))
  | ((with_reducible refine' Same.stm ?ee ?gg); (case ee => walk_at "as"); (case gg => walk_at "tr"))
  | ((with_reducible refine' Same.sqT ?ee ?gg); (case ee => walk_at "as"); (case gg => walk_at "tr"))
  | ((with_reducible refine' Same.sqL ?ee ?gg); (case ee => walk_at "as"); (case gg => walk_at "tr"))
  | ((with_reducible refine' Same.at ?ee ?gg); (case ee => walk_at "as"); (case gg => walk_at "tr"))
  | ((with_reducible refine' But.stm ?ee ?ff ?gg); (case ee => walk_at "as"); (case ff => walk_at "ne"); (case gg => walk_at "tr"))
  | ((with_reducible refine' But.tup ?ee ?ff ?gg); (case ee => walk_at "as"); (case ff => walk_at "tr1"); (case gg => walk_at "tr"))
  | ((with_reducible refine' But.sqT ?ee ?ff ?gg); (case ee => walk_at "as"); (case ff => walk_at "tr1"); (case gg => walk_at "tr"))
  | ((with_reducible refine' But.tupL ?ee ?ff ?gg); (case ee => walk_at "as"); (case ff => walk_at "tr1"); (case gg => walk_at "tr"))
  | ((with_reducible refine' But.sqTL ?ee ?ff ?gg); (case ee => walk_at "as"); (case ff => walk_at "tr1"); (case gg => walk_at "tr"))
  | ((with_reducible refine' But.sqL ?ee ?ff ?gg); (case ee => walk_at "as"); (case ff => walk_at "ne"); (case gg => walk_at "tr"))
  | ((with_reducible refine' But.at ?ee ?ff ?gg); (case ee => walk_at "as"); (case ff => walk_at "ne"); (case gg => walk_at "tr")))
local macro_rules | `(tactic| walk_at "ts") => `(tactic| first
  | with_reducible assumption
  | with_reducible exact TS.refl _
  | ((with_reducible refine' TS.trans ?gg (TS.of ?ee)); (case ee => walk_at "as"); (case gg => walk_at "ts"))
  | ((with_reducible refine' TS.trans ?gg (TS.butS ?ee ?ff)); (case ee => walk_at "as"); (case ff => walk_at "tr1"); (case gg => walk_at "ts"))
  | ((with_reducible refine' TS.trans ?gg (TS.butL ?ee ?ff)); (case ee => walk_at "as"); (case ff => walk_at "tr1"); (case gg => walk_at "ts"))
  | ((with_reducible refine' TS.trans ?gg (TS.butI ?ee ?ff)); (case ee => walk_at "as"); (case ff => walk_at "tr1"); (case gg => walk_at "ts")))
local macro_rules | `(tactic| walk_at "sm") => `(tactic| first
  | with_reducible assumption
  | with_reducible exact Same.refl _
  | ((with_reducible refine' Same.trans ?gg ?ee); (case ee => walk_at "as"); (case gg => walk_at "sm"))
  | ((with_reducible refine' But.new ?gg ?nn ?ee); (case ee => walk_at "as"); (case nn => walk_at "fr"); (case gg => walk_at "sm")))
local macro_rules | `(tactic| walk_at "fr") => `(tactic| first
  | with_reducible assumption
  | ((with_reducible refine' Same.back ?ee ?nn); (case nn => walk_at "as"); (case ee => walk_at "sm"))
  | ((with_reducible refine' But.back ?ee ?ff ?nn); (case nn => walk_at "as"); (case ff => walk_at "ne0"); (case ee => walk_at "bu")))
local macro_rules | `(tactic| walk_at "bu") => `(tactic| first
  | with_reducible assumption
  | with_reducible exact But.refl _ _
  | ((with_reducible refine' But.trans ?gg ?ee); (case ee => walk_at "as"); (case gg => walk_at "bu"))
  | ((with_reducible refine' But.trans ?gg (But.of ?ee)); (case ee => walk_at "as"); (case gg => walk_at "bu"))
  | ((with_reducible refine' But.new2 ?gg ?nn ?ee); (case ee => walk_at "as"); (case nn => walk_at "frB"); (case gg => walk_at "bu")))
local macro_rules | `(tactic| walk_at "frB") => `(tactic| first
  | with_reducible assumption
  | ((with_reducible refine' Same.back ?ee ?nn); (case nn => walk_at "as"); (case ee => walk_at "sm"))
  | ((with_reducible refine' But.back' ?ee ?ff ?nn); (case nn => walk_at "as"); (case ee => walk_at "bu"); (case ff => walk_at "tr1")))
local macro_rules | `(tactic| walk_at "tr1") => `(tactic| first
  | with_reducible assumption
  | ((with_reducible refine' Same.stm ?ee ?gg); (case ee => walk_at "as"); (case gg => walk_at "tr1"))
  | ((with_reducible refine' Same.at ?ee ?gg); (case ee => walk_at "as"); (case gg => walk_at "tr1"))
  | ((with_reducible refine' But.at ?ee ?ff ?gg); (case ee => walk_at "as"); (case ff => walk_at "ne0"); (case gg => walk_at "tr1"))
  | ((with_reducible refine' But.stm ?ee ?ff ?gg); (case ee => walk_at "as"); (case ff => walk_at "ne0"); (case gg => walk_at "tr1")))
local macro_rules | `(tactic| walk_at "ne0") => `(tactic| first
  | with_reducible assumption
  | (with_reducible apply Ne.symm; with_reducible assumption))
local macro_rules | `(tactic| walk_at "ne") => `(tactic| first
  | with_reducible assumption
  | (with_reducible apply Ne.symm; with_reducible assumption)
  | ((with_reducible refine' stm_ne ?hh ?nn); (case nn => walk_at "as"); (case hh => walk_at "tr1"))
  | ((with_reducible refine' ne_of_none ?hh ?nn); (case nn => walk_at "as"); (case hh => walk_at "tr1"))
  | ((with_reducible apply Ne.symm); (with_reducible refine' ne_of_none ?hh ?nn); (case nn => walk_at "as"); (case hh => walk_at "tr1")))
local macro_rules | `(tactic| walk_at "v") => `(tactic| first
  | with_reducible refine w_seq ?_
  | ((with_reducible refine' w_var ?vv ?_); (case vv => exact rfl))
  | with_reducible refine w_c ?_
  | with_reducible refine w_op ?_
  | with_reducible refine w_asg ?_
  | with_reducible refine w_gName ?_
  | with_reducible refine w_ret ?_
  | with_reducible refine w_ifS ?_
  | with_reducible refine w_drop ?_
  | with_reducible refine w_next ?_
  | with_reducible refine w_cons ?_
  | with_reducible refine w_nil ?_
  | with_reducible refine w_call ?_
  | with_reducible refine w_cb ?_
  | with_reducible refine w_rI0 ?_
  | with_reducible refine w_addI ?_
  | with_reducible refine w_eqI ?_
  | with_reducible refine w_neI ?_
  | with_reducible refine w_eqS ?_
  | with_reducible refine w_neS ?_
  | with_reducible refine w_eqB ?_
  | with_reducible refine w_neB ?_
  | with_reducible refine w_chain ?_
  | with_reducible refine w_test ?_
  | with_reducible refine w_tB ?_
  | with_reducible refine w_bl ?_
  | ((with_reducible refine' w_mulI ?vv ?_); (case vv => walk_at "side"))
  | ((with_reducible refine' w_rI ?vv ?_); (case vv => walk_at "side"))
  | with_reducible refine w_int1 ?_
  | with_reducible refine w_int1b ?_
  | with_reducible refine w_tup ?_
  | with_reducible refine w_lst ?_
  | with_reducible refine w_un ?_
  | with_reducible refine w_rU ?_
  | with_reducible refine w_not ?_
  | with_reducible refine w_notV ?_
  | with_reducible refine w_ifE ?_
  | with_reducible refine w_nT ?_
  | with_reducible refine w_nF ?_
  | with_reducible refine iteT ?_
  | with_reducible refine iteF ?_
  | ((with_reducible refine' w_ixT ?vv ?ww ?_); (case vv => walk_at "tr"); (case ww => walk_at "ix"))
  | ((with_reducible refine' w_ixL ?vv ?ww ?_); (case vv => walk_at "tr"); (case ww => walk_at "ix"))
  | with_reducible refine w_gSub ?_
  | ((with_reducible refine' w_setL ?vv ?ww ?_); (case vv => walk_at "tr"); (case ww => first | rfl | decide | assumption))
  | ((with_reducible refine' w_lenL ?vv ?_); (case vv => walk_at "tr"))
  | ((with_reducible refine' w_lenT ?vv ?_); (case vv => walk_at "tr"))
  | with_reducible refine w_max2 ?_
  | with_reducible refine w_max3 ?_
  | with_reducible refine w_din ?_
  | with_reducible refine w_dnotin ?_
  | with_reducible refine w_dput ?_
  | with_reducible refine w_min2 ?_
  | with_reducible refine w_bm ?_
  | with_reducible refine w_bm0 ?_
  | ((with_reducible refine' w_tyL ?vv ?_); (case vv => walk_at "tr"))
  | ((with_reducible refine' w_append ?vv ?ww ?_); (case vv => walk_at "tr"); (case ww => walk_at "size"))
  | ((with_reducible refine' w_size ?vv ?_); (case vv => walk_at "size"))
  | with_reducible refine w_forL ?_
  | with_reducible refine w_forT ?_
  | with_reducible refine w_forR1 ?_
  | with_reducible refine w_forR2 ?_
  | with_reducible refine w_lcL ?_
  | with_reducible refine w_lcT ?_
  | with_reducible refine w_lcR1 ?_
  | with_reducible refine w_yes ?_
  | with_reducible refine w_sl ?_
  | with_reducible refine w_noPart ?_
  | with_reducible refine w_part ?_
  | with_reducible refine w_int ?_
  | ((with_reducible refine' w_slL ?vv ?_); (case vv => walk_at "tr"))
  | ((with_reducible refine' w_seqL ?vv ?ww ?_); (case vv => walk_at "tr"); (case ww => rfl))
  | ((with_reducible refine' w_seqT ?vv ?ww ?_); (case vv => walk_at "tr"); (case ww => rfl))
  | with_reducible refine w_gNil ?_
  | with_reducible refine w_gCons ?_
  | with_reducible refine w_forZ ?_
  | with_reducible refine w_forM ?_
  | with_reducible refine w_forE ?_
  | with_reducible refine w_forV ?_
  | with_reducible refine w_lcZ ?_
  | with_reducible refine w_lcE ?_
  | ((with_reducible refine' w_isi (b := true) ?vv ?ww ?_); (case vv => walk_at "ty"); (case ww => decide +kernel))
  | ((with_reducible refine' w_isi (b := false) ?vv ?ww ?_); (case vv => walk_at "ty"); (case ww => decide +kernel))
  | with_reducible refine w_revL ?_
  | with_reducible refine w_pairN ?_
  | with_reducible refine w_pairC ?_
  | with_reducible refine w_dget ?_
  | with_reducible refine w_met ?_
  | ((with_reducible refine' w_metAt ?vv ?ww ?_); (case vv => walk_at "tr"); (case ww => rfl))
  | with_reducible refine w_mkI ?_
  | with_reducible refine w_fld ?_
  | ((with_reducible refine' w_fldAt ?vv ?cc ?nn ?ww ?_); (case vv => walk_at "tr"); (case cc => walk_at "cls"); (case nn => walk_at "na"); (case ww => rfl))
  | with_reducible refine w_sfld ?_
  | ((with_reducible refine' w_sfldAt ?vv ?cc ?nn ?ll ?ee ?_); (case vv => walk_at "tr"); (case cc => walk_at "cls"); (case nn => walk_at "na"); (case ll => simp); (case ee => rfl))
  | ((with_reducible refine' w_tupL ?vv ?_); (case vv => walk_at "tr"))
  | ((with_reducible refine' w_tupT ?vv ?_); (case vv => walk_at "tr"))
  | ((with_reducible refine' w_listL ?vv ?_); (case vv => walk_at "tr"))
  | ((with_reducible refine' w_listT ?vv ?_); (case vv => walk_at "tr"))
  | with_reducible refine w_tyS ?_
  | with_reducible refine w_retN ?_
  | with_reducible refine w_break ?_
  | with_reducible refine w_cont ?_)
local macro_rules | `(tactic| walk_at "w") => `(tactic| first
  | walk_at "v"
  | with_reducible refine w_or ?_
  | with_reducible refine w_and ?_
  | with_reducible refine w_andV ?_
  | with_reducible refine w_orV ?_)
local macro_rules | `(tactic| walk_at "wd") => `(tactic| first
  | walk_at "w"
  | ((with_reducible refine' w_decT ?vv ?_); (case vv => decide +kernel))
  | ((with_reducible refine' w_decF ?vv ?_); (case vv => decide +kernel)))
local macro_rules | `(tactic| walk_at "tz") => `(tactic| (intro S z; (repeat walk_at "w"); exact z))
local macro_rules | `(tactic| walk_at "wf") => `(tactic| first
  | walk_at "wd"
  | ((with_reducible refine' w_decF ?vv ?_); (case vv => with_reducible assumption)))
/-! ### zip of lists and tuples in any mix (t: a tuple) -/
def SqX (t : Bool) (K : PySem.W.Frag) (H : Hp) (a : Addr) (xs : List V) : Prop := match t with
  | true => SqT K H a xs
  | false => SqL K H a xs
def ItX (t : Bool) (h : Heap) (it l : Addr) (i : Nat) : Prop := match t with
  | true => h.IsTupleIter it l i
  | false => h.IsListIter it l i
def SeqX (t : Bool) (h : Heap) (l : Addr) (xs : Array Value) : Prop := match t with
  | true => h.IsTuple l xs
  | false => h.IsList l xs
theorem drawsX {prog : Program} {w : World} {A : Around} (t : Bool) (hh : A.handled = none) (it l : Addr) (hne : l ≠ it) (items : Array Value) :
    PySem.Draws prog w A it [it, l] items.size (fun i v => items[i]? = some v) (fun i h => ItX t h it l i ∧ SeqX t h l items) := by
  cases t with
  | true => exact PySem.Draws.tuple hh it l hne items
  | false => exact PySem.Draws.list hh it l hne items
def itO (t : Bool) (l : Addr) : Obj := match t with
  | true => { cls := .type "tuple_iterator", data := .fields #[.ref l, .int 0 0] }
  | false => { cls := .type "list_iterator", data := .fields #[.ref l, .int 0 0] }
theorem beginsX (t : Bool) (l : Addr) (items : Array Value) : PySem.Begins (.ref l) (itO t l) fun h => SeqX t h l items := by
  cases t with
  | true => exact PySem.begins_tuple l items
  | false => exact PySem.begins_list l items
theorem itX_new (t : Bool) {h : Heap} {it l : Addr} (e : h.get? it = some (itO t l)) : ItX t h it l 0 := by
  cases t with
  | true => exact ⟨_, e, rfl, rfl⟩
  | false => exact ⟨_, e, rfl, rfl⟩
theorem itX_at (t : Bool) {h h' : Heap} {it l : Addr} {i : Nat} (x : ItX t h it l i) (k : ∀ o, h.get? it = some o → h'.get? it = some o) : ItX t h' it l i := by
  cases t with
  | true => exact PySem.Heap.IsTupleIter.at x k
  | false => exact PySem.Heap.IsListIter.at x k
theorem itX_obj (t : Bool) {h : Heap} {it l : Addr} {i : Nat} (x : ItX t h it l i) : ∃ o, h.get? it = some o ∧ ∀ v, o.data ≠ .cell v := by
  cases t with
  | true => obtain ⟨o, e, _, d⟩ := x; exact ⟨o, e, fun v q => by rw [d] at q; cases q⟩
  | false => obtain ⟨o, e, _, d⟩ := x; exact ⟨o, e, fun v q => by rw [d] at q; cases q⟩
section
variable {X : Cx} {pins : List (Addr × Obj)} {σ : L2.St} {H : Hp} {s : Shared}
theorem inv_seqX (I : Inv X pins σ H s) (t : Bool) {a : Addr} {xs : List V} (h : SqX t X.K H a xs) : ∃ its : List Value, Vals xs its ∧ SeqX t s.heap a its.toArray ∧ a < s.heap.objs.size := by
  cases t with
  | true =>
    obtain ⟨its, rv, p, _⟩ := I.tuple h
    obtain ⟨o, ho, _⟩ := id p
    exact ⟨its, rv, p, Heap.lt_size ho⟩
  | false =>
    obtain ⟨its, rv, p, _⟩ := I.list h
    exact ⟨its, rv, p.isList, p.lt⟩
theorem inv_injX (I : Inv X pins σ H s) (t : Bool) {a : Addr} {xs ys : List V} (h : SqX t X.K H a xs) (g : SqX t X.K H a ys) : xs = ys := by
  cases t with
  | true => exact I.tuple_inj h g
  | false => exact I.list_inj h g
end
def ItzM (t u : Bool) (K : PySem.W.Frag) (a b : Addr) : It :=
  ⟨fun i H => ∃ (xs ys : List V) (x y : V), SqX t K H a xs ∧ SqX u K H b ys ∧ xs[i]? = some x ∧ ys[i]? = some y,
    fun i H v H' => ∃ T x y, v = .ref T ∧ H T = none ∧ H' = upd H T (.tup [x, y]) ∧ (∀ xs, SqX t K H a xs → xs[i]? = some x) ∧ ∀ ys, SqX u K H b ys → ys[i]? = some y,
    fun i H => ∃ xs ys : List V, SqX t K H a xs ∧ SqX u K H b ys ∧ i ≤ xs.length ∧ i ≤ ys.length ∧ (xs.length ≤ i ∨ ys.length ≤ i)⟩
theorem sepX {z TI TO i1 i2 l1 l2 : Addr} (D : ZipApart z TI TO i1 i2 l1 l2) : PySem.ZipSep2 z TI TO i1 i2 [i1, l1] [i2, l2] where
  TIz := D.TIz
  TOz := D.TOz
  TITO := D.TITO
  TIi1 := D.TIi1
  mem1 := by simp
  zf1 := by
    have a := D.i1z
    have b := D.l1z
    simp only [List.mem_cons, List.not_mem_nil, or_false, not_or]
    exact ⟨a.symm, b.symm⟩
  Tf1 := by
    simp only [List.mem_cons, List.not_mem_nil, or_false, not_or]
    exact ⟨D.TOi1, D.l1TO.symm⟩
  TIi2 := D.TIi2
  mem2 := by simp
  zf2 := by
    simp only [List.mem_cons, List.not_mem_nil, or_false, not_or]
    exact ⟨D.i2z.symm, D.l2z.symm⟩
  Tf2 := by
    simp only [List.mem_cons, List.not_mem_nil, or_false, not_or]
    exact ⟨D.TOi2, D.l2TO.symm⟩
  sep1_2 := by
    simp only [List.mem_cons, List.not_mem_nil, or_false, not_or]
    exact ⟨D.i12, D.l2i1.symm⟩
  sep2_1 := by
    simp only [List.mem_cons, List.not_mem_nil, or_false, not_or]
    exact ⟨D.i12.symm, D.l1i2.symm⟩
theorem turn_zipM {P : Program} {w : World} {K : PySem.W.Frag} {elts : List Expr} {kk : Nat} {tpos : Pos} {a b z TI TO i1 i2 : Addr} (t u : Bool) (D : ZipApart z TI TO i1 i2 a b) :
    Turn P w K (.Tuple elts kk tpos) (ItzM t u K a b) [z, TI, TO, i1, i2] z (fun i h => IsZip h z TI TO .none ∧ IsPair h TI (.ref i1) (.ref i2) ∧ (∃ x y, IsPair h TO x y) ∧ ItX t h i1 a i ∧ ItX u h i2 b i) where
  mem := by simp
  obj := fun i h st c hc => by
    obtain ⟨hz, hTI, ⟨x, y, hTO⟩, h1, h2⟩ := st
    have e' : c = z ∨ c = TI ∨ c = TO ∨ c = i1 ∨ c = i2 := by simpa using hc
    rcases e' with q | q | q | q | q
    · rw [q]; exact ⟨_, hz, fun v q => nomatch q⟩
    · rw [q]; exact ⟨_, hTI, fun v q => nomatch q⟩
    · rw [q]; exact ⟨_, hTO, fun v q => nomatch q⟩
    · rw [q]; exact itX_obj t h1
    · rw [q]; exact itX_obj u h2
  keep := fun i h h' st k => by
    obtain ⟨hz, hTI, ⟨x, y, hTO⟩, h1, h2⟩ := st
    exact ⟨k z (by simp) _ hz, k TI (by simp) _ hTI, ⟨x, y, k TO (by simp) _ hTO⟩, itX_at t h1 fun o q => k i1 (by simp) o q, itX_at u h2 fun o q => k i2 (by simp) o q⟩
  item := by
    intro X hP hw hK hc i pins s σ H E I hf st hg
    subst hP hw hK
    obtain ⟨hz, hTI, ⟨x0, y0, hTO⟩, h1, h2⟩ := st
    obtain ⟨xs, ys, x, y, hqx, hqy, hx, hy⟩ := hg
    obtain ⟨its, rv, p, lt1⟩ := inv_seqX I t hqx
    obtain ⟨its2, rv2, p2, lt2⟩ := inv_seqX I u hqy
    obtain ⟨v1, hu, ru⟩ := rv.get hx
    obtain ⟨v2, hu2, ru2⟩ := rv2.get hy
    have hzl : z < s.heap.objs.size := Heap.lt_size hz
    have hh : X.A.in1.handled = none := I.ok.hd hc
    have D1 := drawsX (prog := X.prog) (w := X.w) t hh i1 a D.l1i1 its.toArray
    have D2 := drawsX (prog := X.prog) (w := X.w) u hh i2 b D.l2i2 its2.toArray
    have n1 : i < its.toArray.size := by rw [List.size_toArray]; exact (List.getElem?_eq_some_iff.mp hu).1
    have n2 : i < its2.toArray.size := by rw [List.size_toArray]; exact (List.getElem?_eq_some_iff.mp hu2).1
    refine PySem.wpAny_pyNext_zipD2_item (sepX D) D1 D2 hz hTI hTO ⟨h1, p⟩ ⟨h2, p2⟩ n1 n2 fun w1 w2 h' tk g1 g2 z' TO' h1' h2' hT hsz hk => ?_
    have e1 : w1 = v1 := by
      have := g1.symm.trans (by simpa using hu : its.toArray[i]? = some v1)
      exact Option.some.inj this
    have e2 : w2 = v2 := by
      have := g2.symm.trans (by simpa using hu2 : its2.toArray[i]? = some v2)
      exact Option.some.inj this
    subst e1 e2
    refine ⟨_, rfl, wpAny_letOwnedTupleGo_zip (s := { s with heap := h', toks := tk }) z' fun h'' z'' sb => ?_⟩
    have hT2 : h''.get? s.heap.objs.size = some { cls := .type "tuple", data := .seq #[w1, w2] } := (sb.2 _ (Nat.ne_of_gt hzl)).trans hT
    have new : ObjOk X.prog X.w (upd H s.heap.objs.size (.tup [x, y])) h'' s.heap.objs.size (.tup [x, y]) :=
      ⟨by show 2 ≤ sizeLine; decide, [w1, w2], .cons ru (.cons ru2 .nil), ⟨_, hT2, rfl, _, rfl⟩⟩
    have I1 : Inv X pins σ (upd H s.heap.objs.size (.tup [x, y])) { s with heap := h'', toks := tk } :=
      I.turnedNew (t' := tk) (ch := [z, TI, TO, i1, i2]) (fun c o hb q => (sb.2 c (fun q' => hb (by simp [q']))).trans (hk c o (fun q' => hb (by simp [q'])) (fun q' => hb (by simp [q'])) (fun q' => hb (by simp [q'])) (fun q' => hb (by simp [q'])) q)) hf (Nat.le_refl _) new
    refine ⟨.ref s.heap.objs.size, _, I1, rfl, ⟨_, x, y, rfl, I.hok.fresh (Nat.le_refl _), rfl, fun l hl => by rw [inv_injX I t hl hqx]; exact hx, fun l hl => by rw [inv_injX I u hl hqy]; exact hy⟩, ⟨z'', ?_, ⟨w1, w2, ?_⟩, ?_, ?_⟩, fun c hcm => ?_⟩
    · exact (sb.2 _ D.TIz).trans (hk _ _ D.TIz D.TITO D.TIi1 D.TIi2 hTI)
    · exact (sb.2 _ D.TOz).trans TO'
    · exact itX_at t h1'.1 fun o q => (sb.2 _ D.i1z).trans q
    · exact itX_at u h2'.1 fun o q => (sb.2 _ D.i2z).trans q
    · have hlt : c < s.heap.objs.size := by
        have e' : c = z ∨ c = TI ∨ c = TO ∨ c = i1 ∨ c = i2 := by simpa using hcm
        rcases e' with q | q | q | q | q
        · rw [q]; exact hzl
        · rw [q]; exact Heap.lt_size hTI
        · rw [q]; exact Heap.lt_size hTO
        · rw [q]; obtain ⟨_, e1, _⟩ := itX_obj t h1; exact Heap.lt_size e1
        · rw [q]; obtain ⟨_, e2, _⟩ := itX_obj u h2; exact Heap.lt_size e2
      rw [upd_ne (Nat.ne_of_lt hlt)]
      exact (hf c hcm).1
  done := by
    intro X hP hw hK hc i pins s σ H E I hf st hg
    subst hP hw hK
    obtain ⟨hz, hTI, ⟨x0, y0, hTO⟩, h1, h2⟩ := st
    obtain ⟨xs, ys, hqx, hqy, le1, le2, hend⟩ := hg
    obtain ⟨its, rv, p, lt1⟩ := inv_seqX I t hqx
    obtain ⟨its2, rv2, p2, lt2⟩ := inv_seqX I u hqy
    have l1 := rv.length
    have l2 := rv2.length
    have hh : X.A.in1.handled = none := I.ok.hd hc
    have D1 := drawsX (prog := X.prog) (w := X.w) t hh i1 a D.l1i1 its.toArray
    have D2 := drawsX (prog := X.prog) (w := X.w) u hh i2 b D.l2i2 its2.toArray
    refine PySem.wpAny_pyNext_zipD2_end (sepX D) D1 D2 hz hTI hTO ⟨h1, p⟩ ⟨h2, p2⟩ (by rw [List.size_toArray]; omega) (by rw [List.size_toArray]; omega) (by rw [List.size_toArray, List.size_toArray]; omega) fun h' tk hk => ⟨rfl, I.turnedL (t' := tk) (ch := [z, TI, TO, i1, i2]) (fun c o hb q =>
      hk c o (fun q' => hb (by simp [q'])) (fun q' => hb (by simp [q'])) (fun q' => hb (by simp [q'])) (fun q' => hb (by simp [q'])) q) hf⟩
  self := fun A i s Q E st h => wpAny_pyIter_zip st.1 h
def iZipM (t u : Bool) (K : PySem.W.Frag) (ta : TA) : TI := fun σ H R => ta σ H fun vs H1 => ∃ a b xs ys, vs = [.ref a, .ref b] ∧ SqX t K H1 a xs ∧ SqX u K H1 b ys ∧ R (ItzM t u K a b) H1
theorem pi_zipM {X : Cx} {K : PySem.W.Frag} {e e2 : Expr} {ta : TA} {p pos tpos : Pos} {elts : List Expr} {kk : Nat} (t u : Bool) (hK : X.K = K) (hg : Gl X "zip") (hm : X.mg "zip" = none) (ha : PA X [e, e2] ta)
    (hs : starEach [e, e2] X.env = (false, eval e X.env) :: starEach [e2] X.env := by rfl) (hpl : (backTo pos (starEach [e2] X.env)).any (·.1) = false := by rfl) :
    PI X (.Tuple elts kk tpos) (.Call (.Name "zip" p) [e, e2] [] pos) (iZipM t u K ta) := by
  subst hK
  refine ⟨fun pins s σ H R I h => ?_⟩
  refine Call_ (ld_blt I hg hm PyProof.Rows.boot_zip (PyProof.Rows.callWith_type1 (thn (ha.run pos pins s σ H _ I h) fun us s1 ⟨vs, H1, I1, r1, q1⟩ => ?_) hs hpl))
  obtain ⟨a, b, xs, ys, ex, hqx, hqy, q⟩ := q1
  subst ex
  cases r1 with
  | cons r rr =>
    cases rr with
    | cons r' rr =>
      cases rr
      cases r
      cases r'
      have fresh5 : ∀ c, c ∈ [s1.heap.objs.size + 4, s1.heap.objs.size + 2, s1.heap.objs.size + 3, s1.heap.objs.size, s1.heap.objs.size + 1] → FpOk X pins H1 c := fun c hcm => by
        have e' : c = s1.heap.objs.size + 4 ∨ c = s1.heap.objs.size + 2 ∨ c = s1.heap.objs.size + 3 ∨ c = s1.heap.objs.size ∨ c = s1.heap.objs.size + 1 := by simpa using hcm
        have hle : s1.heap.objs.size ≤ c := by
          rcases e' with z | z | z | z | z
          · rw [z]; exact Nat.le_add_right _ _
          · rw [z]; exact Nat.le_add_right _ _
          · rw [z]; exact Nat.le_add_right _ _
          · rw [z]; exact Nat.le_refl _
          · rw [z]; exact Nat.le_add_right _ _
        exact I1.fpOk hle (I1.hok.fresh hle)
      obtain ⟨its, rv, p1, lt1⟩ := inv_seqX I1 t hqx
      obtain ⟨its2, rv2, p2, lt2⟩ := inv_seqX I1 u hqy
      refine PySem.zip_begins2 (beginsX t a its.toArray) (beginsX u b its2.toArray) p1 p2 fun h' hz hTI hTO h1 h2 hsz hk => wpAny_pyIter_zip hz ?_
      have I2 : Inv X pins σ H1 { s1 with heap := h' } := I1.kept (t' := s1.toks) hk
      exact ⟨s1.heap.objs.size + 4, [s1.heap.objs.size + 4, s1.heap.objs.size + 2, s1.heap.objs.size + 3, s1.heap.objs.size, s1.heap.objs.size + 1], _, _, H1, rfl, I2, turn_zipM t u (PySem.W.ktu_apart s1.heap.objs.size a b lt1 lt2), ⟨hz, hTI, ⟨_, _, hTO⟩, itX_new t h1, itX_new u h2⟩, fresh5, q⟩
section
variable {K : PySem.W.Frag} {σ : L2.St} {H : Hp} {a b : Addr} {xs ys : List V} {g : TG} {tb : L2.TS} {nx : L2.St → Hp → Prop} {rt : VK} {bk ct : L2.St → Hp → Prop} {ta : TA} {t u : Bool}
theorem w_forM (k : ta σ H fun vs H1 => ∃ a b xs ys, vs = [.ref a, .ref b] ∧ SqX t K H1 a xs ∧ SqX u K H1 b ys ∧ WFor (ItzM t u K a b) g tb nx rt σ H1) : tFor (iZipM t u K ta) g tb ⟨nx, rt, bk, ct⟩ σ H := k
theorem walk_zipM {n : Nat} (hn : n = min xs.length ys.length) : Walk (ItzM t u K a b) n (fun H => SqX t K H a xs ∧ SqX u K H b ys) (YPair (fun i => xs[i]?) (fun i => ys[i]?)) := by
  subst hn
  refine ⟨fun i _ hi q => ?_, fun _ q => ⟨xs, ys, q.1, q.2, by omega⟩, fun i H v H' _ q y => ?_⟩
  · have h1 : i < xs.length := by omega
    have h2 : i < ys.length := by omega
    exact ⟨xs, ys, xs[i], ys[i], q.1, q.2, by simp [h1], by simp [h2]⟩
  · obtain ⟨T, x, z, h1, h2, h3, h4, h5⟩ := y
    exact ⟨T, x, z, h1, h2, h3, h4 xs q.1, h5 ys q.2⟩
theorem fl_zipM (Pv : Nat → L2.St → Hp → Prop) (hx : SqX t K H a xs) (hy : SqX u K H b ys) (h0 : Pv 0 σ H) (hG : ∀ i σ H, i ≤ min xs.length ys.length → Pv i σ H → SqX t K H a xs ∧ SqX u K H b ys)
    (hs : ∀ i x y T σ H H', xs[i]? = some x → ys[i]? = some y → Pv i σ H → H T = none → Same H H' → H' T = some (.tup [x, y]) → g (.ref T) σ H' fun σ2 H2 => tb ⟨Pv (i + 1), rt, nx, Pv (i + 1)⟩ σ2 H2) (hd : ∀ σ H, Pv (min xs.length ys.length) σ H → nx σ H) :
    ∃ p q us ws, [V.ref a, .ref b] = [.ref p, .ref q] ∧ SqX t K H p us ∧ SqX u K H q ws ∧ WFor (ItzM t u K p q) g tb nx rt σ H :=
  ⟨a, b, xs, ys, rfl, hx, hy, wfor_it (walk_zipM rfl) Pv h0 hG (fun i v σ H H' hi p ⟨T, x, y, e, nT, e2, h1, h2⟩ => by subst e e2; exact hs i x y T σ H _ h1 h2 p nT (Same.one nT) upd_same) hd⟩
end

end J
namespace J
open PySem PySem.Spec PyProof.Rows L2
local macro_rules | `(tactic| walk_at "cls") => `(tactic| first
  | with_reducible exact Facts.cl_Parts
  | with_reducible exact Facts.cl_Order)
local macro_rules | `(tactic| walk_at "na") => `(tactic| first
  | with_reducible exact Facts.na_Parts_rows
  | with_reducible exact Facts.na_Order_parts
  | with_reducible exact Facts.na_Order_order
  | with_reducible exact Facts.na_Order_needed)
local macro_rules | `(tactic| walk_at "ty") => `(tactic| first
  | with_reducible exact ty_int
  | with_reducible exact ty_bl
  | with_reducible exact ty_str
  | with_reducible exact ty_non
  | ((with_reducible refine' ty_lst ?vv); (case vv => walk_at "tr"))
  | ((with_reducible refine' ty_sqT ?vv); (case vv => walk_at "tr"))
  | ((with_reducible refine' ty_dic ?vv); (case vv => walk_at "tr")))
local macro_rules | `(tactic| walk_at "ix") => `(tactic| first | exact at0 | exact at1 | exact at2 | assumption)
local macro_rules | `(tactic| walk_at "size") => `(tactic| first
  | assumption
  | (show _ < sizeLine; rw [sizeLine_eq]; (try simp only [List.length_cons, List.length_nil, List.length_append, List.length_map]); omega)
  | (show _ ≤ sizeLine; rw [sizeLine_eq]; (try simp only [List.length_cons, List.length_nil, List.length_append, List.length_map]); omega))
local macro_rules | `(tactic| walk_at "side") => `(tactic| first
  | assumption
  | ((with_reducible refine cdw ?_ ?_) <;> omega)
  | omega
  | (exact ⟨by omega, by omega⟩)
  | (exact Or.inl ⟨by omega, by omega⟩)
  | (exact Or.inr ⟨by omega, by omega⟩)
  | decide
  | (simp only [List.length_cons, List.length_nil, List.length_append, List.length_map]; omega)
  | (show _ ≤ _; decide))
local macro_rules | `(tactic| walk_at "as") => `(tactic| with_reducible assumption)
local macro_rules | `(tactic| walk_at "tr") => `(tactic| first
  | with_reducible assumption
  | with_reducible exact upd_same
  | ((with_reducible refine' SqL.of ?hh); (case hh => walk_at "as"))
  | ((with_reducible refine' SqT.of ?hh); (case hh => walk_at "as"))
  | ((with_reducible refine' Same.stm ?ee ?gg); (case ee => walk_at "as"); (case gg => walk_at "tr"))
  | ((with_reducible refine' Same.sqT ?ee ?gg); (case ee => walk_at "as"); (case gg => walk_at "tr"))
  | ((with_reducible refine' Same.sqL ?ee ?gg); (case ee => walk_at "as"); (case gg => walk_at "tr"))
  | ((with_reducible refine' Same.at ?ee ?gg); (case ee => walk_at "as"); (case gg => walk_at "tr"))
  | ((with_reducible refine' But.stm ?ee ?ff ?gg); (case ee => walk_at "as"); (case ff => walk_at "ne"); (case gg => walk_at "tr"))
  | ((with_reducible refine' But.tup ?ee ?ff ?gg); (case ee => walk_at "as"); (case ff => walk_at "tr1"); (case gg => walk_at "tr"))
  | ((with_reducible refine' But.sqT ?ee ?ff ?gg); (case ee => walk_at "as"); (case ff => walk_at "tr1"); (case gg => walk_at "tr"))
  | ((with_reducible refine' But.tupL ?ee ?ff ?gg); (case ee => walk_at "as"); (case ff => walk_at "tr1"); (case gg => walk_at "tr"))
  | ((with_reducible refine' But.sqTL ?ee ?ff ?gg); (case ee => walk_at "as"); (case ff => walk_at "tr1"); (case gg => walk_at "tr"))
  | ((with_reducible refine' But.sqL ?ee ?ff ?gg); (case ee => walk_at "as"); (case ff => walk_at "ne"); (case gg => walk_at "tr"))
  | ((with_reducible refine' But.at ?ee ?ff ?gg); (case ee => walk_at "as"); (case ff => walk_at "ne"); (case gg => walk_at "tr")))
local macro_rules | `(tactic| walk_at "ts") => `(tactic| first
  | with_reducible assumption
  | with_reducible exact TS.refl _
  | ((with_reducible refine' TS.trans ?gg (TS.of ?ee)); (case ee => walk_at "as"); (case gg => walk_at "ts"))
  | ((with_reducible refine' TS.trans ?gg (TS.butS ?ee ?ff)); (case ee => walk_at "as"); (case ff => walk_at "tr1"); (case gg => walk_at "ts"))
  | ((with_reducible refine' TS.trans ?gg (TS.butL ?ee ?ff)); (case ee => walk_at "as"); (case ff => walk_at "tr1"); (case gg => walk_at "ts"))
  | ((with_reducible refine' TS.trans ?gg (TS.butI ?ee ?ff)); (case ee => walk_at "as"); (case ff => walk_at "tr1"); (case gg => walk_at "ts")))
local macro_rules | `(tactic| walk_at "sm") => `(tactic| first
  | with_reducible assumption
  | with_reducible exact Same.refl _
  | ((with_reducible refine' Same.trans ?gg ?ee); (case ee => walk_at "as"); (case gg => walk_at "sm"))
  | ((with_reducible refine' But.new ?gg ?nn ?ee); (case ee => walk_at "as"); (case nn => walk_at "fr"); (case gg => walk_at "sm")))
local macro_rules | `(tactic| walk_at "fr") => `(tactic| first
  | with_reducible assumption
  | ((with_reducible refine' Same.back ?ee ?nn); (case nn => walk_at "as"); (case ee => walk_at "sm"))
  | ((with_reducible refine' But.back ?ee ?ff ?nn); (case nn => walk_at "as"); (case ff => walk_at "ne0"); (case ee => walk_at "bu")))
local macro_rules | `(tactic| walk_at "bu") => `(tactic| first
  | with_reducible assumption
  | with_reducible exact But.refl _ _
  | ((with_reducible refine' But.trans ?gg ?ee); (case ee => walk_at "as"); (case gg => walk_at "bu"))
  | ((with_reducible refine' But.trans ?gg (But.of ?ee)); (case ee => walk_at "as"); (case gg => walk_at "bu"))
  | ((with_reducible refine' But.new2 ?gg ?nn ?ee); (case ee => walk_at "as"); (case nn => walk_at "frB"); (case gg => walk_at "bu")))
local macro_rules | `(tactic| walk_at "frB") => `(tactic| first
  | with_reducible assumption
  | ((with_reducible refine' Same.back ?ee ?nn); (case nn => walk_at "as"); (case ee => walk_at "sm"))
  | ((with_reducible refine' But.back' ?ee ?ff ?nn); (case nn => walk_at "as"); (case ee => walk_at "bu"); (case ff => walk_at "tr1")))
local macro_rules | `(tactic| walk_at "tr1") => `(tactic| first
  | with_reducible assumption
  | ((with_reducible refine' Same.stm ?ee ?gg); (case ee => walk_at "as"); (case gg => walk_at "tr1"))
  | ((with_reducible refine' Same.at ?ee ?gg); (case ee => walk_at "as"); (case gg => walk_at "tr1"))
  | ((with_reducible refine' But.at ?ee ?ff ?gg); (case ee => walk_at "as"); (case ff => walk_at "ne0"); (case gg => walk_at "tr1"))
  | ((with_reducible refine' But.stm ?ee ?ff ?gg); (case ee => walk_at "as"); (case ff => walk_at "ne0"); (case gg => walk_at "tr1")))
local macro_rules | `(tactic| walk_at "ne0") => `(tactic| first
  | with_reducible assumption
  | (with_reducible apply Ne.symm; with_reducible assumption))
local macro_rules | `(tactic| walk_at "ne") => `(tactic| first
  | with_reducible assumption
  | (with_reducible apply Ne.symm; with_reducible assumption)
  | ((with_reducible refine' stm_ne ?hh ?nn); (case nn => walk_at "as"); (case hh => walk_at "tr1"))
  | ((with_reducible refine' ne_of_none ?hh ?nn); (case nn => walk_at "as"); (case hh => walk_at "tr1"))
  | ((with_reducible apply Ne.symm); (with_reducible refine' ne_of_none ?hh ?nn); (case nn => walk_at "as"); (case hh => walk_at "tr1")))
local macro_rules | `(tactic| walk_at "v") => `(tactic| first
  | with_reducible refine w_seq ?_
  | ((with_reducible refine' w_var ?vv ?_); (case vv => exact rfl))
  | with_reducible refine w_c ?_
  | with_reducible refine w_op ?_
  | with_reducible refine w_asg ?_
  | with_reducible refine w_gName ?_
  | with_reducible refine w_ret ?_
  | with_reducible refine w_ifS ?_
  | with_reducible refine w_drop ?_
  | with_reducible refine w_next ?_
  | with_reducible refine w_cons ?_
  | with_reducible refine w_nil ?_
  | with_reducible refine w_call ?_
  | with_reducible refine w_cb ?_
  | with_reducible refine w_rI0 ?_
  | with_reducible refine w_addI ?_
  | with_reducible refine w_eqI ?_
  | with_reducible refine w_neI ?_
  | with_reducible refine w_eqS ?_
  | with_reducible refine w_neS ?_
  | with_reducible refine w_eqB ?_
  | with_reducible refine w_neB ?_
  | with_reducible refine w_chain ?_
  | with_reducible refine w_test ?_
  | with_reducible refine w_tB ?_
  | with_reducible refine w_bl ?_
  | ((with_reducible refine' w_mulI ?vv ?_); (case vv => walk_at "side"))
  | ((with_reducible refine' w_rI ?vv ?_); (case vv => walk_at "side"))
  | with_reducible refine w_int1 ?_
  | with_reducible refine w_int1b ?_
  | with_reducible refine w_tup ?_
  | with_reducible refine w_lst ?_
  | with_reducible refine w_un ?_
  | with_reducible refine w_rU ?_
  | with_reducible refine w_not ?_
  | with_reducible refine w_notV ?_
  | with_reducible refine w_ifE ?_
  | with_reducible refine w_nT ?_
  | with_reducible refine w_nF ?_
  | with_reducible refine iteT ?_
  | with_reducible refine iteF ?_
  | ((with_reducible refine' w_ixT ?vv ?ww ?_); (case vv => walk_at "tr"); (case ww => walk_at "ix"))
  | ((with_reducible refine' w_ixL ?vv ?ww ?_); (case vv => walk_at "tr"); (case ww => walk_at "ix"))
  | with_reducible refine w_gSub ?_
  | ((with_reducible refine' w_setL ?vv ?ww ?_); (case vv => walk_at "tr"); (case ww => first | rfl | decide | assumption))
  | ((with_reducible refine' w_lenL ?vv ?_); (case vv => walk_at "tr"))
  | ((with_reducible refine' w_lenT ?vv ?_); (case vv => walk_at "tr"))
  | with_reducible refine w_max2 ?_
  | with_reducible refine w_max3 ?_
  | with_reducible refine w_din ?_
  | with_reducible refine w_dnotin ?_
  | with_reducible refine w_dput ?_
  | with_reducible refine w_min2 ?_
  | with_reducible refine w_bm ?_
  | with_reducible refine w_bm0 ?_
  | ((with_reducible refine' w_tyL ?vv ?_); (case vv => walk_at "tr"))
  | ((with_reducible refine' w_append ?vv ?ww ?_); (case vv => walk_at "tr"); (case ww => walk_at "size"))
  | ((with_reducible refine' w_size ?vv ?_); (case vv => walk_at "size"))
  | with_reducible refine w_forL ?_
  | with_reducible refine w_forT ?_
  | with_reducible refine w_forR1 ?_
  | with_reducible refine w_forR2 ?_
  | with_reducible refine w_lcL ?_
  | with_reducible refine w_lcT ?_
  | with_reducible refine w_lcR1 ?_
  | with_reducible refine w_yes ?_
  | with_reducible refine w_sl ?_
  | with_reducible refine w_noPart ?_
  | with_reducible refine w_part ?_
  | with_reducible refine w_int ?_
  | ((with_reducible refine' w_slL ?vv ?_); (case vv => walk_at "tr"))
  | ((with_reducible refine' w_seqL ?vv ?ww ?_); (case vv => walk_at "tr"); (case ww => rfl))
  | ((with_reducible refine' w_seqT ?vv ?ww ?_); (case vv => walk_at "tr"); (case ww => rfl))
  | with_reducible refine w_gNil ?_
  | with_reducible refine w_gCons ?_
  | with_reducible refine w_forZ ?_
  | with_reducible refine w_forM ?_
  | with_reducible refine w_forE ?_
  | with_reducible refine w_forV ?_
  | with_reducible refine w_lcZ ?_
  | with_reducible refine w_lcE ?_
  | ((with_reducible refine' w_isi (b := true) ?vv ?ww ?_); (case vv => walk_at "ty"); (case ww => decide +kernel))
  | ((with_reducible refine' w_isi (b := false) ?vv ?ww ?_); (case vv => walk_at "ty"); (case ww => decide +kernel))
  | with_reducible refine w_revL ?_
  | with_reducible refine w_pairN ?_
  | with_reducible refine w_pairC ?_
  | with_reducible refine w_dget ?_
  | with_reducible refine w_met ?_
  | ((with_reducible refine' w_metAt ?vv ?ww ?_); (case vv => walk_at "tr"); (case ww => rfl))
  | with_reducible refine w_mkI ?_
  | with_reducible refine w_fld ?_
  | ((with_reducible refine' w_fldAt ?vv ?cc ?nn ?ww ?_); (case vv => walk_at "tr"); (case cc => walk_at "cls"); (case nn => walk_at "na"); (case ww => rfl))
  | with_reducible refine w_sfld ?_
  | ((with_reducible refine' w_sfldAt ?vv ?cc ?nn ?ll ?ee ?_); (case vv => walk_at "tr"); (case cc => walk_at "cls"); (case nn => walk_at "na"); (case ll => simp); (case ee => rfl))
  | ((with_reducible refine' w_tupL ?vv ?_); (case vv => walk_at "tr"))
  | ((with_reducible refine' w_tupT ?vv ?_); (case vv => walk_at "tr"))
  | ((with_reducible refine' w_listL ?vv ?_); (case vv => walk_at "tr"))
  | ((with_reducible refine' w_listT ?vv ?_); (case vv => walk_at "tr"))
  | with_reducible refine w_tyS ?_
  | with_reducible refine w_retN ?_
  | with_reducible refine w_break ?_
  | with_reducible refine w_cont ?_)
local macro_rules | `(tactic| walk_at "w") => `(tactic| first
  | walk_at "v"
  | with_reducible refine w_or ?_
  | with_reducible refine w_and ?_
  | with_reducible refine w_andV ?_
  | with_reducible refine w_orV ?_)
local macro_rules | `(tactic| walk_at "wd") => `(tactic| first
  | walk_at "w"
  | ((with_reducible refine' w_decT ?vv ?_); (case vv => decide +kernel))
  | ((with_reducible refine' w_decF ?vv ?_); (case vv => decide +kernel)))
local macro_rules | `(tactic| walk_at "tz") => `(tactic| (intro S z; (repeat walk_at "w"); exact z))
local macro_rules | `(tactic| walk_at "wf") => `(tactic| first
  | walk_at "wd"
  | ((with_reducible refine' w_decF ?vv ?_); (case vv => with_reducible assumption)))
/-! ### expressions, sets, parts: plain -/
def selD (k : Str) (n : Int) : PyData := .tuple [.str k, .int n]
inductive Exp where
  | num (n : Int)
  | fld (n : Int)
  | plc (k : Str) (n : Int)
  | mrk (k : Str) (n : Int)
  | cell (a : Exp)
  | two (o : Str) (a b : Exp)
def Exp.d : Exp → PyData
  | .num n => .tuple [.str "number", .int n]
  | .fld n => .tuple [.str "field", .int n]
  | .plc k n => .tuple [.str "place", selD k n]
  | .mrk k n => .tuple [.str "mark", selD k n]
  | .cell a => .tuple [.str "cell", a.d]
  | .two o a b => .tuple [.str o, a.d, b.d]
def Exp.dep : Exp → Nat
  | .cell a => a.dep + 1
  | .two _ a b => max a.dep b.dep + 1
  | _ => 1
def OpS (o : Str) : Prop := o = "+" ∨ o = "-" ∨ o = "&" ∨ o = "|" ∨ o = "^" ∨ o = "<<" ∨ o = ">>" ∨ o = "<" ∨ o = "="
def SelS (k : Str) : Prop := k = "is" ∨ k = "by"
theorem OpS.ok {o : Str} (h : OpS o) : PyData.strOk o = true := by
  rcases h with rfl | rfl | rfl | rfl | rfl | rfl | rfl | rfl | rfl <;> decide +kernel
theorem SelS.ok {o : Str} (h : SelS o) : PyData.strOk o = true := by
  rcases h with rfl | rfl <;> decide +kernel
theorem OpS.ne {o : Str} (h : OpS o) : o ≠ "number" ∧ o ≠ "field" ∧ o ≠ "place" ∧ o ≠ "mark" ∧ o ≠ "cell" := by
  rcases h with rfl | rfl | rfl | rfl | rfl | rfl | rfl | rfl | rfl <;> decide +kernel
def Exp.good : Exp → Prop
  | .plc k _ => SelS k
  | .mrk k _ => SelS k
  | .cell a => a.good
  | .two o a b => OpS o ∧ a.good ∧ b.good
  | _ => True
def OkE (n : Nat) (e : Exp) : Prop := e.dep ≤ n ∧ e.good
theorem OkE.mono {m n : Nat} {e : Exp} (h : OkE m e) (l : m ≤ n) : OkE n e := ⟨Nat.le_trans h.1 l, h.2⟩
theorem Exp.dep_pos : ∀ e : Exp, 1 ≤ e.dep
  | .num _ | .fld _ | .plc _ _ | .mrk _ _ => Nat.le_refl 1
  | .cell _ | .two _ _ _ => Nat.succ_le_succ (Nat.zero_le _)
theorem okE_0 {e : Exp} (h : OkE 0 e) : False := by have := e.dep_pos; have := h.1; omega
theorem okE_cell {n : Nat} {a : Exp} (h : OkE (n + 1) (.cell a)) : OkE n a := ⟨Nat.le_of_succ_le_succ h.1, h.2⟩
theorem okE_two {n : Nat} {o : Str} {a b : Exp} (h : OkE (n + 1) (.two o a b)) : OpS o ∧ OkE n a ∧ OkE n b := by
  obtain ⟨h1, h2, h3, h4⟩ := h
  have h5 : max a.dep b.dep ≤ n := Nat.le_of_succ_le_succ h1
  exact ⟨h2, ⟨by omega, h3⟩, by omega, h4⟩
theorem tupD_sel (k : Str) (n : Int) : tupD (selD k n) = true := by simp [selD, tupD, tupAll]
theorem Exp.tup : ∀ e : Exp, tupD e.d = true
  | .num _ => by simp [Exp.d, tupD, tupAll]
  | .fld _ => by simp [Exp.d, tupD, tupAll]
  | .plc _ _ => by simp [Exp.d, tupD, tupAll, tupD_sel]
  | .mrk _ _ => by simp [Exp.d, tupD, tupAll, tupD_sel]
  | .cell a => by simp [Exp.d, tupD, tupAll, Exp.tup a]
  | .two _ a b => by simp [Exp.d, tupD, tupAll, Exp.tup a, Exp.tup b]
theorem Exp.cln : ∀ {e : Exp}, e.good → clean e.d = true
  | .num _, _ => by
    simp only [Exp.d, clean, cleanAll]
    decide +kernel
  | .fld _, _ => by
    simp only [Exp.d, clean, cleanAll]
    decide +kernel
  | .plc _ _, h => by
    have := SelS.ok h
    simp only [Exp.d, selD, clean, cleanAll, this]
    decide +kernel
  | .mrk _ _, h => by
    have := SelS.ok h
    simp only [Exp.d, selD, clean, cleanAll, this]
    decide +kernel
  | .cell a, h => by
    have := Exp.cln (e := a) h
    simp only [Exp.d, clean, cleanAll, this]
    decide +kernel
  | .two _ a b, h => by
    have := Exp.cln (e := a) h.2.1
    have := Exp.cln (e := b) h.2.2
    have := h.1.ok
    simp only [Exp.d, clean, cleanAll, *]
    decide +kernel
theorem Exp.depth : ∀ e : Exp, e.d.depth ≤ e.dep + 1
  | .num _ | .fld _ | .plc _ _ | .mrk _ _ => by simp [Exp.d, selD, PyData.depth, PyData.depthAll, Exp.dep]
  | .cell a => by
    have := Exp.depth a
    simp only [Exp.d, PyData.depth, PyData.depthAll, Exp.dep]
    omega
  | .two _ a b => by
    have := Exp.depth a
    have := Exp.depth b
    simp only [Exp.d, PyData.depth, PyData.depthAll, Exp.dep]
    omega
/-- sets -/
inductive SetE where
  | cell (a b : Exp)
  | sel (m : Bool) (k : Str) (n : Int) (e : Exp)
def SetE.d : SetE → PyData
  | .cell a b => .tuple [.str "cell", a.d, b.d]
  | .sel m k n e => .tuple [.str (if m then "mark" else "place"), selD k n, e.d]
def OkS (n : Nat) : SetE → Prop
  | .cell a b => OkE n a ∧ OkE n b
  | .sel _ k _ e => SelS k ∧ OkE n e
theorem SetE.tup : ∀ s : SetE, tupD s.d = true
  | .cell a b => by simp [SetE.d, tupD, tupAll, a.tup, b.tup]
  | .sel _ _ _ e => by simp [SetE.d, tupD, tupAll, e.tup, tupD_sel]
theorem OkE.cln' {n : Nat} {e : Exp} (h : OkE n e) : clean e.d = true := Exp.cln h.2
theorem SetE.cln {n : Nat} : ∀ {s : SetE}, OkS n s → clean s.d = true
  | .cell a b, h => by
    have := h.1.cln'
    have := h.2.cln'
    simp only [SetE.d, clean, cleanAll, *]
    decide +kernel
  | .sel m k _ e, h => by
    have := h.1.ok
    have := h.2.cln'
    cases m <;> simp only [SetE.d, selD, clean, cleanAll, *] <;> decide +kernel
theorem SetE.depth {n : Nat} : ∀ {s : SetE}, OkS n s → s.d.depth ≤ n + 2
  | .cell a b, h => by
    have := a.depth
    have := b.depth
    have := h.1.1
    have := h.2.1
    simp only [SetE.d, PyData.depth, PyData.depthAll]
    omega
  | .sel m k _ e, h => by
    have := e.depth
    have := h.2.1
    simp only [SetE.d, selD, PyData.depth, PyData.depthAll]
    omega
theorem sets_cmp : ∀ {ss : List SetE}, (∀ s ∈ ss, OkS 4 s) → cleanAll (ss.map SetE.d) = true ∧ PyData.depthAll (ss.map SetE.d) ≤ 6
  | [], _ => by simp [cleanAll, PyData.depthAll]
  | s :: ss, h => by
    obtain ⟨a, b⟩ := sets_cmp (ss := ss) (fun x hx => h x (List.mem_cons_of_mem _ hx))
    have c := h s List.mem_cons_self
    have d := SetE.cln c
    have e := SetE.depth c
    rw [List.map_cons, cleanAll, PyData.depthAll, d, a]
    exact ⟨rfl, by omega⟩
theorem cmpL {ss : List SetE} (h : ∀ s ∈ ss, OkS 4 s) : Cmp (.list (ss.map SetE.d)) := by
  obtain ⟨a, b⟩ := sets_cmp h
  refine ⟨by rw [clean]; exact a, ?_⟩
  rw [PyData.depth]
  omega
def setsD (ss : List SetE) : PyData := .tuple (ss.map SetE.d)
theorem setsD_tup : ∀ ss : List SetE, tupAll (ss.map SetE.d) = true
  | [] => rfl
  | s :: ss => by rw [List.map_cons, tupAll, s.tup, setsD_tup ss]; rfl
/-! rows of items -/
inductive Item : PyData → Prop
  | int (n : Int) : Item (.int n)
  | str {s : Str} (h : PyData.strOk s = true) : Item (.str s)
  | pair {s : Str} (h : PyData.strOk s = true) (n : Int) : Item (.tuple [.str s, .int n])
def Row (d : PyData) : Prop := ∃ xs, d = .tuple xs ∧ ∀ x ∈ xs, Item x
def Rows (ds : List PyData) : Prop := ∀ d ∈ ds, Row d
theorem Item.tup {d : PyData} (h : Item d) : tupD d = true := by cases h <;> simp [tupD, tupAll]
theorem Item.cln {d : PyData} (h : Item d) : clean d = true := by
  cases h with
  | int => simp [clean]
  | str h => rw [clean]; exact h
  | pair h => rw [clean, cleanAll, cleanAll, cleanAll, clean, clean, h]; rfl
theorem Item.dep {d : PyData} (h : Item d) : d.depth ≤ 1 := by
  cases h <;> simp [PyData.depth, PyData.depthAll]
theorem items_all : ∀ {xs : List PyData}, (∀ x ∈ xs, Item x) → tupAll xs = true ∧ cleanAll xs = true ∧ PyData.depthAll xs ≤ 1
  | [], _ => by simp [tupAll, cleanAll, PyData.depthAll]
  | x :: xs, h => by
    obtain ⟨a, b, c⟩ := items_all (xs := xs) (fun y hy => h y (List.mem_cons_of_mem _ hy))
    have i := h x List.mem_cons_self
    refine ⟨by rw [tupAll, i.tup, a]; rfl, by rw [cleanAll, i.cln, b]; rfl, ?_⟩
    rw [PyData.depthAll]
    have := i.dep
    omega
theorem Row.all {d : PyData} (h : Row d) : tupD d = true ∧ clean d = true ∧ d.depth ≤ 2 := by
  obtain ⟨xs, rfl, h⟩ := h
  obtain ⟨a, b, c⟩ := items_all h
  refine ⟨by rw [tupD]; exact a, by rw [clean]; exact b, ?_⟩
  rw [PyData.depth]
  omega
theorem rows_all : ∀ {ds : List PyData}, Rows ds → tupAll ds = true ∧ cleanAll ds = true ∧ PyData.depthAll ds ≤ 2
  | [], _ => by simp [tupAll, cleanAll, PyData.depthAll]
  | x :: xs, h => by
    obtain ⟨a, b, c⟩ := rows_all (ds := xs) (fun y hy => h y (List.mem_cons_of_mem _ hy))
    have i := (h x List.mem_cons_self).all
    refine ⟨by rw [tupAll, i.1, a]; rfl, by rw [cleanAll, i.2.1, b]; rfl, ?_⟩
    rw [PyData.depthAll]
    omega
theorem Rows.cmp {ds : List PyData} (h : Rows ds) : Cmp (.list ds) := by
  obtain ⟨_, b, c⟩ := rows_all h
  refine ⟨by rw [clean]; exact b, ?_⟩
  rw [PyData.depth]
  omega
theorem rows_nil : Rows [] := fun _ h => (List.not_mem_nil h).elim
theorem rows_snoc {ds : List PyData} {d : PyData} (h : Rows ds) (i : Row d) : Rows (ds ++ [d]) := fun x hx => by
  rcases List.mem_append.mp hx with q | q
  · exact h x q
  · rw [List.mem_singleton.mp q]; exact i
/-! parts and roots -/
def Exp.part : Exp → List PyData → PyData × List PyData
  | .num n, ps => (.tuple [.str "number", .int n], ps)
  | .fld n, ps => (.tuple [.str "field", .int n], ps)
  | .plc k n, ps => (.int ps.length, ps ++ [.tuple [.str "get", selD k n]])
  | .mrk k n, ps => (.int ps.length, ps ++ [.tuple [.str "ask", selD k n]])
  | .cell a, ps => (.int (a.part ps).2.length, (a.part ps).2 ++ [.tuple [.str "cell", (a.part ps).1]])
  | .two o a b, ps => (.int (b.part (a.part ps).2).2.length, (b.part (a.part ps).2).2 ++ [.tuple [.str o, (a.part ps).1, (b.part (a.part ps).2).1]])
def Exp.cnt : Exp → Nat
  | .num _ => 0
  | .fld _ => 0
  | .plc _ _ => 1
  | .mrk _ _ => 1
  | .cell a => a.cnt + 1
  | .two _ a b => a.cnt + b.cnt + 1
theorem Exp.part_len : ∀ (e : Exp) (ps : List PyData), (e.part ps).2.length = ps.length + e.cnt
  | .num _, ps => rfl
  | .fld _, ps => rfl
  | .plc _ _, ps => by simp [Exp.part, Exp.cnt]
  | .mrk _ _, ps => by simp [Exp.part, Exp.cnt]
  | .cell a, ps => by simp [Exp.part, Exp.cnt, Exp.part_len a]; omega
  | .two _ a b, ps => by simp [Exp.part, Exp.cnt, Exp.part_len a, Exp.part_len b]; omega
theorem Exp.cnt_le : ∀ e : Exp, e.cnt + 1 ≤ 2 ^ e.dep
  | .num _ | .fld _ | .plc _ _ | .mrk _ _ => by simp [Exp.cnt, Exp.dep]
  | .cell a => by
    have := Exp.cnt_le a
    simp only [Exp.cnt, Exp.dep, Nat.pow_succ]
    have := Nat.two_pow_pos a.dep
    omega
  | .two _ a b => by
    have := Exp.cnt_le a
    have := Exp.cnt_le b
    simp only [Exp.cnt, Exp.dep, Nat.pow_succ]
    have := Nat.pow_le_pow_right (show 0 < 2 by decide) (Nat.le_max_left a.dep b.dep)
    have := Nat.pow_le_pow_right (show 0 < 2 by decide) (Nat.le_max_right a.dep b.dep)
    omega
theorem cnt4 {n : Nat} {e : Exp} (h : OkE n e) (hn : n ≤ 4) : e.cnt ≤ 15 := by
  have := e.cnt_le
  have := Nat.pow_le_pow_right (show 0 < 2 by decide) (Nat.le_trans h.1 hn)
  omega
theorem row_sel {s k : Str} {n : Int} (h : PyData.strOk s = true) (hk : SelS k) : Row (.tuple [.str s, selD k n]) := ⟨_, rfl, fun x hx => by
  simp only [List.mem_cons, List.mem_nil_iff, or_false] at hx
  rcases hx with rfl | rfl
  · exact .str h
  · exact .pair hk.ok n⟩
theorem Exp.part_ok : ∀ (e : Exp) {ps : List PyData}, e.good → Rows ps → Item (e.part ps).1 ∧ Rows (e.part ps).2
  | .num n, ps, _, h => ⟨.pair (by decide +kernel) _, h⟩
  | .fld n, ps, _, h => ⟨.pair (by decide +kernel) _, h⟩
  | .plc k n, ps, g, h => ⟨.int _, rows_snoc h (row_sel (by decide +kernel) g)⟩
  | .mrk k n, ps, g, h => ⟨.int _, rows_snoc h (row_sel (by decide +kernel) g)⟩
  | .cell a, ps, g, h => by
    obtain ⟨i, r⟩ := Exp.part_ok a g h
    refine ⟨.int _, rows_snoc r ⟨_, rfl, fun x hx => ?_⟩⟩
    simp only [List.mem_cons, List.mem_nil_iff, or_false] at hx
    rcases hx with rfl | rfl
    · exact .str (by decide +kernel)
    · exact i
  | .two o a b, ps, g, h => by
    obtain ⟨i, r⟩ := Exp.part_ok a g.2.1 h
    obtain ⟨j, q⟩ := Exp.part_ok b g.2.2 r
    refine ⟨.int _, rows_snoc q ⟨_, rfl, fun x hx => ?_⟩⟩
    simp only [List.mem_cons, List.mem_nil_iff, or_false] at hx
    rcases hx with rfl | rfl | rfl
    · exact .str g.1.ok
    · exact i
    · exact j
/-- one behind the other -/
def parts : List Exp → List PyData → List PyData × List PyData
  | [], ps => ([], ps)
  | e :: es, ps => ((e.part ps).1 :: (parts es (e.part ps).2).1, (parts es (e.part ps).2).2)
theorem parts_snoc : ∀ (es : List Exp) (e : Exp) (ps : List PyData), parts (es ++ [e]) ps = ((parts es ps).1 ++ [(e.part (parts es ps).2).1], (e.part (parts es ps).2).2)
  | [], e, ps => rfl
  | x :: es, e, ps => by
    rw [List.cons_append, parts, parts_snoc es e]
    rfl
def SetE.rests : SetE → List Exp
  | .cell a b => [a, b]
  | .sel _ _ _ e => [e]
def proots : List SetE → List PyData → List PyData × List PyData
  | [], ps => ([], ps)
  | s :: ss, ps => (.tuple (parts s.rests ps).1 :: (proots ss (parts s.rests ps).2).1, (proots ss (parts s.rests ps).2).2)
theorem proots_snoc : ∀ (ss : List SetE) (s : SetE) (ps : List PyData), proots (ss ++ [s]) ps = ((proots ss ps).1 ++ [.tuple (parts s.rests (proots ss ps).2).1], (parts s.rests (proots ss ps).2).2)
  | [], s, ps => rfl
  | x :: ss, s, ps => by
    rw [List.cons_append, proots, proots_snoc ss s]
    rfl
theorem take_snoc {α : Type} {xs : List α} {i : Nat} {x : α} (h : xs[i]? = some x) : xs.take (i + 1) = xs.take i ++ [x] := by
  obtain ⟨hl, rfl⟩ := List.getElem?_eq_some_iff.mp h
  exact List.take_succ_eq_append_getElem hl
theorem parts_ok : ∀ (es : List Exp) {ps : List PyData}, (∀ e ∈ es, e.good) → Rows ps → (∀ x ∈ (parts es ps).1, Item x) ∧ Rows (parts es ps).2
  | [], ps, _, h => ⟨fun _ q => (List.not_mem_nil q).elim, h⟩
  | e :: es, ps, g, h => by
    obtain ⟨i, r⟩ := e.part_ok (g e List.mem_cons_self) h
    obtain ⟨j, q⟩ := parts_ok es (ps := (e.part ps).2) (fun x hx => g x (List.mem_cons_of_mem _ hx)) r
    refine ⟨fun x hx => ?_, q⟩
    rcases List.mem_cons.mp hx with rfl | hx
    · exact i
    · exact j x hx
theorem okS_rests {n : Nat} {s : SetE} (h : OkS n s) : ∀ e ∈ s.rests, OkE n e := by
  cases s with
  | cell a b =>
    intro e he
    simp only [SetE.rests, List.mem_cons, List.mem_nil_iff, or_false] at he
    rcases he with rfl | rfl
    · exact h.1
    · exact h.2
  | sel m k j e =>
    intro x hx
    rw [List.mem_singleton.mp hx]
    exact h.2
theorem proots_ok : ∀ (ss : List SetE) {n : Nat} {ps : List PyData}, (∀ s ∈ ss, OkS n s) → Rows ps → Rows (proots ss ps).1 ∧ Rows (proots ss ps).2
  | [], n, ps, _, h => ⟨rows_nil, h⟩
  | s :: ss, n, ps, g, h => by
    obtain ⟨i, r⟩ := parts_ok s.rests (fun e he => (okS_rests (g s List.mem_cons_self) e he).2) h
    obtain ⟨j, q⟩ := proots_ok ss (ps := (parts s.rests ps).2) (fun x hx => g x (List.mem_cons_of_mem _ hx)) r
    refine ⟨fun x hx => ?_, q⟩
    rcases List.mem_cons.mp hx with rfl | hx
    · exact ⟨_, rfl, i⟩
    · exact j x hx
def cnts : List Exp → Nat
  | [] => 0
  | e :: es => e.cnt + cnts es
theorem parts_len : ∀ (es : List Exp) (ps : List PyData), (parts es ps).2.length = ps.length + cnts es
  | [], ps => rfl
  | e :: es, ps => by rw [parts, parts_len es, e.part_len, cnts]; omega
theorem cnts_le : ∀ (es : List Exp), (∀ e ∈ es, OkE 4 e) → cnts es ≤ 15 * es.length
  | [], _ => Nat.le_refl 0
  | e :: es, h => by
    have := cnts_le es (fun x hx => h x (List.mem_cons_of_mem _ hx))
    have := cnt4 (h e List.mem_cons_self) (Nat.le_refl 4)
    rw [cnts, List.length_cons]
    omega
theorem proots_len : ∀ (ss : List SetE) (ps : List PyData), (∀ s ∈ ss, OkS 4 s) → (proots ss ps).2.length ≤ ps.length + 30 * ss.length ∧ (proots ss ps).1.length = ss.length
  | [], ps, _ => ⟨Nat.le_refl _, rfl⟩
  | s :: ss, ps, h => by
    obtain ⟨a, b⟩ := proots_len ss (parts s.rests ps).2 (fun x hx => h x (List.mem_cons_of_mem _ hx))
    have c := cnts_le s.rests (okS_rests (h s List.mem_cons_self))
    have d : s.rests.length ≤ 2 := by cases s <;> simp [SetE.rests]
    rw [parts_len] at a
    refine ⟨?_, ?_⟩
    · rw [proots, List.length_cons]
      show (proots ss (parts s.rests ps).2).2.length ≤ _
      omega
    · rw [proots, List.length_cons, List.length_cons]
      show (proots ss (parts s.rests ps).2).1.length + 1 = _
      omega

end J
namespace J
open PySem PySem.Spec PyProof.Rows L2
--plain
/-! ### orders of parts: how many are held -/
def Exp.need : Exp → Nat
  | .num _ => 0
  | .fld _ => 0
  | .plc _ _ => 1
  | .mrk _ _ => 1
  | .cell a => max 1 a.need
  | .two _ a b => if a.need = b.need ∧ 0 < a.need then a.need + 1 else max 1 (max a.need b.need)
theorem need_cnt : ∀ e : Exp, 0 < e.need ↔ 0 < e.cnt
  | .num _ | .fld _ => by simp [Exp.need, Exp.cnt]
  | .plc _ _ | .mrk _ _ => by simp [Exp.need, Exp.cnt]
  | .cell a => by simp [Exp.need, Exp.cnt]; omega
  | .two _ a b => by
    simp only [Exp.need, Exp.cnt]
    by_cases h : a.need = b.need ∧ 0 < a.need
    · rw [if_pos h]; omega
    · rw [if_neg h]; omega
/-- the root's number, if there is one -/
def Exp.rt (e : Exp) (b : Int) : List Int := if e.cnt = 0 then [] else [b + e.cnt - 1]
/-- own parts, part by part -/
def Exp.own : Exp → Int → List (List Int)
  | .num _, _ => []
  | .fld _, _ => []
  | .plc _ _, _ => [[]]
  | .mrk _ _, _ => [[]]
  | .cell a, b => a.own b ++ [a.rt b]
  | .two _ a c, b => a.own b ++ c.own (b + a.cnt) ++ [a.rt b ++ c.rt (b + a.cnt)]
theorem own_len : ∀ (e : Exp) (b : Int), (e.own b).length = e.cnt
  | .num _, _ | .fld _, _ | .plc _ _, _ | .mrk _ _, _ => rfl
  | .cell a, b => by simp [Exp.own, Exp.cnt, own_len a]
  | .two _ a c, b => by simp [Exp.own, Exp.cnt, own_len a, own_len c]; omega
/-- own tells what the parts from b on have -/
def Tr (own : Int → List Int) (e : Exp) (b : Int) : Prop := ∀ (i : Nat) (l : List Int), (e.own b)[i]? = some l → own (b + i) = l
theorem tr_cell {own : Int → List Int} {a : Exp} {b : Int} (h : Tr own (.cell a) b) : Tr own a b ∧ own (b + a.cnt) = a.rt b := by
  refine ⟨fun i l hi => h i l ?_, h a.cnt _ ?_⟩
  · rw [Exp.own, List.getElem?_append_left (List.getElem?_eq_some_iff.mp hi).1]; exact hi
  · rw [Exp.own, List.getElem?_append_right (by rw [own_len]; exact Nat.le_refl _), own_len, Nat.sub_self]; rfl
theorem tr_two {own : Int → List Int} {o : Str} {a c : Exp} {b : Int} (h : Tr own (.two o a c) b) : Tr own a b ∧ Tr own c (b + a.cnt) ∧ own (b + a.cnt + c.cnt) = a.rt b ++ c.rt (b + a.cnt) := by
  refine ⟨fun i l hi => h i l ?_, fun i l hi => ?_, ?_⟩
  · have := (List.getElem?_eq_some_iff.mp hi).1
    rw [Exp.own, List.append_assoc, List.getElem?_append_left this]; exact hi
  · have hl := (List.getElem?_eq_some_iff.mp hi).1
    have := h (a.cnt + i) l (by
      rw [Exp.own, List.append_assoc, List.getElem?_append_right (by rw [own_len]; omega), own_len, Nat.add_sub_cancel_left, List.getElem?_append_left hl]; exact hi)
    rw [← this]; congr 1; omega
  · have := h (a.cnt + c.cnt) (a.rt b ++ c.rt (b + a.cnt)) (by
      rw [Exp.own, List.getElem?_append_right (by rw [List.length_append, own_len, own_len]; exact Nat.le_refl _), List.length_append, own_len, own_len, Nat.sub_self]; rfl)
    rw [← this]; congr 1; omega
theorem rt_mem {e : Exp} {b y : Int} (h : y ∈ e.rt b) : 0 < e.cnt ∧ y = b + e.cnt - 1 := by
  unfold Exp.rt at h
  by_cases z : e.cnt = 0
  · rw [if_pos z] at h; exact (List.not_mem_nil h).elim
  · rw [if_neg z, List.mem_singleton] at h
    exact ⟨by omega, h⟩
theorem own_sub {own : Int → List Int} : ∀ (e : Exp) (b : Int), Tr own e b → ∀ x, b ≤ x → x < b + e.cnt → ∀ y ∈ own x, b ≤ y ∧ y < x
  | .num _, b, _, x, h1, h2, y, _ => by simp [Exp.cnt] at h2; omega
  | .fld _, b, _, x, h1, h2, y, _ => by simp [Exp.cnt] at h2; omega
  | .plc _ _, b, t, x, h1, h2, y, hy => by
    have e : x = b + (0 : Nat) := by simp [Exp.cnt] at h2; omega
    rw [e, t 0 [] rfl] at hy
    exact (List.not_mem_nil hy).elim
  | .mrk _ _, b, t, x, h1, h2, y, hy => by
    have e : x = b + (0 : Nat) := by simp [Exp.cnt] at h2; omega
    rw [e, t 0 [] rfl] at hy
    exact (List.not_mem_nil hy).elim
  | .cell a, b, t, x, h1, h2, y, hy => by
    obtain ⟨ta, tr⟩ := tr_cell t
    simp only [Exp.cnt] at h2
    by_cases z : x < b + a.cnt
    · exact own_sub a b ta x h1 z y hy
    · have e : x = b + a.cnt := by omega
      rw [e, tr] at hy
      have := rt_mem hy
      omega
  | .two o a c, b, t, x, h1, h2, y, hy => by
    obtain ⟨ta, tc, tr⟩ := tr_two t
    simp only [Exp.cnt] at h2
    by_cases z : x < b + a.cnt
    · exact own_sub a b ta x h1 z y hy
    · by_cases z2 : x < b + a.cnt + c.cnt
      · have := own_sub c (b + a.cnt) tc x (by omega) z2 y hy
        omega
      · have e : x = b + a.cnt + c.cnt := by omega
        rw [e, tr] at hy
        rcases List.mem_append.mp hy with g | g
        · have := rt_mem g
          omega
        · have := rt_mem g
          omega
/-- an order, the last one first -/
def Val (own : Int → List Int) : List Int → Prop
  | [] => True
  | x :: r => x ∉ r ∧ (∀ y ∈ own x, y ∈ r) ∧ Val own r
def held (own : Int → List Int) : List Int → List Int
  | [] => []
  | x :: r => x :: (held own r).filter fun y => !decide (y ∈ own x)
theorem val_suffix {own : Int → List Int} : ∀ {R S : List Int}, S <:+ R → Val own R → Val own S
  | [], S, h, v => by rw [List.suffix_nil.mp h]; trivial
  | x :: r, S, h, v => by
    rcases List.suffix_cons_iff.mp h with rfl | h
    · exact v
    · exact val_suffix h v.2.2
theorem filter_held {own : Int → List Int} {T : Int → Bool} : ∀ {R : List Int}, (∀ x ∈ R, T x = true → ∀ y ∈ own x, T y = true) → (∀ x ∈ R, T x = false → ∀ y ∈ own x, T y = false) → held own (R.filter T) = (held own R).filter T
  | [], _, _ => rfl
  | x :: r, h1, h2 => by
    have ih := filter_held (R := r) (fun x hx => h1 x (List.mem_cons_of_mem _ hx)) (fun x hx => h2 x (List.mem_cons_of_mem _ hx))
    rw [List.filter_cons, held, List.filter_cons]
    by_cases t : T x = true
    · rw [if_pos t, if_pos t, held, ih, List.filter_filter, List.filter_filter]
      congr 1
      apply List.filter_congr
      intro y _
      cases T y <;> simp
    · rw [if_neg t, if_neg t, ih, List.filter_filter]
      apply List.filter_congr
      intro y _
      cases hy : T y with
      | false => rfl
      | true =>
        have : y ∉ own x := fun g => by
          have := h2 x List.mem_cons_self (by simpa using t) y g
          rw [hy] at this; cases this
        simp [this]
theorem filter_val {own : Int → List Int} {T : Int → Bool} : ∀ {R : List Int}, (∀ x ∈ R, T x = true → ∀ y ∈ own x, T y = true) → Val own R → Val own (R.filter T)
  | [], _, _ => trivial
  | x :: r, h1, v => by
    have ih := filter_val (R := r) (fun x hx => h1 x (List.mem_cons_of_mem _ hx)) v.2.2
    rw [List.filter_cons]
    by_cases t : T x = true
    · rw [if_pos t]
      refine ⟨fun g => v.1 (List.mem_filter.mp g).1, fun y hy => List.mem_filter.mpr ⟨v.2.1 y hy, h1 x List.mem_cons_self t y hy⟩, ih⟩
    · rw [if_neg t]; exact ih
theorem suffix_filter {T : Int → Bool} : ∀ {R S' : List Int}, S' <:+ R.filter T → ∃ S, S <:+ R ∧ S.filter T = S'
  | [], S', h => ⟨[], List.suffix_refl _, (List.suffix_nil.mp h).symm⟩
  | x :: r, S', h => by
    rw [List.filter_cons] at h
    by_cases t : T x = true
    · rw [if_pos t] at h
      rcases List.suffix_cons_iff.mp h with rfl | h
      · exact ⟨x :: r, List.suffix_refl _, by rw [List.filter_cons, if_pos t]⟩
      · obtain ⟨S, h1, h2⟩ := suffix_filter h
        exact ⟨S, h1.trans (List.suffix_cons _ _), h2⟩
    · rw [if_neg t] at h
      obtain ⟨S, h1, h2⟩ := suffix_filter h
      exact ⟨S, h1.trans (List.suffix_cons _ _), h2⟩
theorem held_ne {own : Int → List Int} {R : List Int} (h : R ≠ []) : held own R ≠ [] := by
  cases R with
  | nil => exact h
  | cons x r => exact List.cons_ne_nil _ _
/-- the stretch of a tree -/
def inT (b : Int) (c : Nat) (x : Int) : Bool := decide (b ≤ x ∧ x < b + c)
theorem inT_iff {b : Int} {c : Nat} {x : Int} : inT b c x = true ↔ b ≤ x ∧ x < b + c := decide_eq_true_iff
theorem inT_no {b : Int} {c : Nat} {x : Int} : inT b c x = false ↔ ¬ (b ≤ x ∧ x < b + c) := decide_eq_false_iff_not
theorem val_nodup {own : Int → List Int} : ∀ {R : List Int}, Val own R → R.Nodup
  | [], _ => List.nodup_nil
  | _ :: _, v => List.nodup_cons.mpr ⟨v.1, val_nodup v.2.2⟩
theorem filter_none {T : Int → Bool} {R : List Int} (h : ∀ x ∈ R, T x = false) : R.filter T = [] := List.filter_eq_nil_iff.mpr fun x hx => by rw [h x hx]; decide
/-- the root is the last one -/
theorem root_last {own : Int → List Int} : ∀ (e : Exp) (b : Int) (R : List Int), Tr own e b → Val own R → (∀ x, x ∈ R ↔ b ≤ x ∧ x < b + e.cnt) → 0 < e.cnt → ∃ r, R = (b + e.cnt - 1) :: r := by
  have one : ∀ (b : Int) (R : List Int), (∀ x, x ∈ R ↔ b ≤ x ∧ x < b + 1) → ∃ r, R = b :: r := fun b R h => by
    cases R with
    | nil => exact (List.not_mem_nil ((h b).mpr ⟨Int.le_refl _, by omega⟩)).elim
    | cons x r =>
      have := (h x).mp List.mem_cons_self
      exact ⟨r, by rw [show x = b by omega]⟩
  -- a sub-tree's root stands behind its parent
  have sub : ∀ (a : Exp) (ba root y : Int) (r : List Int), (∀ R, Tr own a ba → Val own R → (∀ x, x ∈ R ↔ ba ≤ x ∧ x < ba + a.cnt) → 0 < a.cnt → ∃ r, R = (ba + a.cnt - 1) :: r) → Tr own a ba → Val own (y :: r) → root ∈ r →
      (∀ x, ba ≤ x ∧ x < ba + a.cnt → x ∈ y :: r) → ba ≤ y ∧ y < ba + a.cnt → ba + a.cnt - 1 ∈ own root → False := fun a ba root y r ih ta v hr all hy ho => by
    have ha : 0 < a.cnt := by omega
    have v2 := filter_val (own := own) (T := inT ba a.cnt) (R := y :: r) (fun x _ hT z hz => by
      have := inT_iff.mp hT
      have := own_sub a ba ta x this.1 this.2 z hz
      exact inT_iff.mpr (by omega)) v
    obtain ⟨r', e⟩ := ih _ ta v2 (fun x => by
      rw [List.mem_filter, inT_iff]
      exact ⟨fun g => g.2, fun g => ⟨all x g, g⟩⟩) ha
    rw [List.filter_cons, if_pos (inT_iff.mpr hy)] at e
    have ey : y = ba + a.cnt - 1 := (List.cons.inj e).1
    -- root's own are behind it
    have key : ∀ (l : List Int), Val own l → root ∈ l → ∀ z ∈ own root, z ∈ l := fun l => by
      induction l with
      | nil => intro _ h; exact (List.not_mem_nil h).elim
      | cons w l ih =>
        intro v h z hz
        rcases List.mem_cons.mp h with rfl | h
        · exact List.mem_cons_of_mem _ (v.2.1 z hz)
        · exact List.mem_cons_of_mem _ (ih v.2.2 h z hz)
    exact v.1 (by rw [ey]; exact key r v.2.2 hr _ ho)
  intro e
  induction e with
  | num _ => intro b R _ _ _ h; exact absurd h (by simp [Exp.cnt])
  | fld _ => intro b R _ _ _ h; exact absurd h (by simp [Exp.cnt])
  | plc _ _ =>
    intro b R _ _ h _
    obtain ⟨r, e⟩ := one b R (fun x => by rw [h x]; simp [Exp.cnt])
    exact ⟨r, by rw [e]; simp [Exp.cnt]⟩
  | mrk _ _ =>
    intro b R _ _ h _
    obtain ⟨r, e⟩ := one b R (fun x => by rw [h x]; simp [Exp.cnt])
    exact ⟨r, by rw [e]; simp [Exp.cnt]⟩
  | cell a ih =>
    intro b R t v h _
    obtain ⟨ta, tr⟩ := tr_cell t
    have e0 : b + ((Exp.cell a).cnt : Int) - 1 = b + a.cnt := by simp [Exp.cnt]; omega
    rw [e0]
    have c0 : ((Exp.cell a).cnt : Int) = a.cnt + 1 := by simp [Exp.cnt]
    rw [c0] at h
    cases R with
    | nil => exact (List.not_mem_nil ((h (b + a.cnt)).mpr (by omega))).elim
    | cons y r =>
      by_cases ey : y = b + a.cnt
      · exact ⟨r, by rw [ey]⟩
      · have hy := (h y).mp List.mem_cons_self
        have hr : b + (a.cnt : Int) ∈ r := by
          have := (h (b + a.cnt)).mpr (by omega)
          rcases List.mem_cons.mp this with g | g
          · exact absurd g.symm ey
          · exact g
        refine (sub a b (b + a.cnt) y r (ih b) ta v hr (fun x g => (h x).mpr (by omega)) (by omega) ?_).elim
        rw [tr]
        unfold Exp.rt
        rw [if_neg (by omega)]
        exact List.mem_singleton.mpr rfl
  | two o a c iha ihc =>
    intro b R t v h _
    obtain ⟨ta, tc, tr⟩ := tr_two t
    have c0 : ((Exp.two o a c).cnt : Int) = a.cnt + c.cnt + 1 := by simp [Exp.cnt]
    have e0 : b + ((Exp.two o a c).cnt : Int) - 1 = b + a.cnt + c.cnt := by omega
    rw [e0]
    rw [c0] at h
    cases R with
    | nil => exact (List.not_mem_nil ((h (b + a.cnt + c.cnt)).mpr (by omega))).elim
    | cons y r =>
      by_cases ey : y = b + a.cnt + c.cnt
      · exact ⟨r, by rw [ey]⟩
      · have hy := (h y).mp List.mem_cons_self
        have hr : b + (a.cnt : Int) + c.cnt ∈ r := by
          have := (h (b + a.cnt + c.cnt)).mpr (by omega)
          rcases List.mem_cons.mp this with g | g
          · exact absurd g.symm ey
          · exact g
        by_cases ya : y < b + a.cnt
        · refine (sub a b (b + a.cnt + c.cnt) y r (iha b) ta v hr (fun x g => (h x).mpr (by omega)) (by omega) ?_).elim
          rw [tr]
          refine List.mem_append_left _ ?_
          unfold Exp.rt
          rw [if_neg (by omega)]
          exact List.mem_singleton.mpr rfl
        · refine (sub c (b + a.cnt) (b + a.cnt + c.cnt) y r (ihc _) tc v hr (fun x g => (h x).mpr (by omega)) (by omega) ?_).elim
          rw [tr]
          refine List.mem_append_right _ ?_
          unfold Exp.rt
          rw [if_neg (by omega)]
          exact List.mem_singleton.mpr rfl
/-- closed stretches -/
def Cl (own : Int → List Int) (T : Int → Bool) (R : List Int) : Prop := (∀ x ∈ R, T x = true → ∀ y ∈ own x, T y = true) ∧ (∀ x ∈ R, T x = false → ∀ y ∈ own x, T y = false)
theorem Cl.suf {own : Int → List Int} {T : Int → Bool} {R S : List Int} (h : Cl own T R) (s : S <:+ R) : Cl own T S := ⟨fun x hx => h.1 x (s.subset hx), fun x hx => h.2 x (s.subset hx)⟩
/-- once begun, at least one is held -/
theorem begun {own : Int → List Int} {T : Int → Bool} {R S S' : List Int} (c : Cl own T R) (h : S <:+ R) (h' : S' <:+ S) (n : 1 ≤ ((held own S').filter T).length) : 1 ≤ ((held own S).filter T).length := by
  rw [← filter_held (c.suf h).1 (c.suf h).2]
  rw [← filter_held (c.suf (h'.trans h)).1 (c.suf (h'.trans h)).2] at n
  have ne : S.filter T ≠ [] := fun z => by
    have e : S'.filter T = [] := by
      rw [List.filter_eq_nil_iff] at z ⊢
      exact fun x hx => z x (h'.subset hx)
    rw [e] at n
    exact absurd n (by simp [held])
  have := List.length_pos_iff.mpr (held_ne (own := own) ne)
  omega
theorem suffix_total {S S' R : List Int} (h : S <:+ R) (h' : S' <:+ R) : S <:+ S' ∨ S' <:+ S := by
  rcases Nat.le_total S.length S'.length with l | l
  · exact .inl (List.suffix_of_suffix_length_le h h' l)
  · exact .inr (List.suffix_of_suffix_length_le h' h l)
/-- two apart -/
theorem two_len {T U : Int → Bool} {l : List Int} (d : ∀ x ∈ l, T x = true → U x = false) : (l.filter T).length + (l.filter U).length ≤ l.length := by
  induction l with
  | nil => simp
  | cons x l ih =>
    have ih := ih (fun y hy => d y (List.mem_cons_of_mem _ hy))
    have dx := d x List.mem_cons_self
    rw [List.filter_cons, List.filter_cons, List.length_cons]
    cases hT : T x with
    | true =>
      rw [dx hT]
      simp only [if_true, Bool.false_eq_true, if_false, List.length_cons]
      omega
    | false =>
      cases U x <;> simp only [if_true, Bool.false_eq_true, if_false, List.length_cons] <;> omega
/-- at some time a tree holds as many as it needs -/
theorem low {own : Int → List Int} : ∀ (e : Exp) (b : Int) (R : List Int), Tr own e b → Val own R → (∀ x, x ∈ R ↔ b ≤ x ∧ x < b + e.cnt) → ∃ S, S <:+ R ∧ e.need ≤ (held own S).length := by
  have any : ∀ (e : Exp) (b : Int) (R : List Int), (∀ x, x ∈ R ↔ b ≤ x ∧ x < b + e.cnt) → 0 < e.cnt → ∃ S, S <:+ R ∧ 1 ≤ (held own S).length := fun e b R h hc => by
    refine ⟨R, List.suffix_refl _, ?_⟩
    have : R ≠ [] := fun z => by
      have := (h b).mpr (by omega)
      rw [z] at this
      exact List.not_mem_nil this
    have := List.length_pos_iff.mpr (held_ne (own := own) this)
    omega
  -- a tree within a row
  have within : ∀ (a : Exp) (ba : Int) (R : List Int), (∀ R, Tr own a ba → Val own R → (∀ x, x ∈ R ↔ ba ≤ x ∧ x < ba + a.cnt) → ∃ S, S <:+ R ∧ a.need ≤ (held own S).length) → Tr own a ba → Val own R → (∀ x, ba ≤ x ∧ x < ba + a.cnt → x ∈ R) →
      Cl own (inT ba a.cnt) R → ∃ S, S <:+ R ∧ a.need ≤ ((held own S).filter (inT ba a.cnt)).length := fun a ba R ih ta v all cl => by
    obtain ⟨S', s', l⟩ := ih (R.filter (inT ba a.cnt)) ta (filter_val cl.1 v) (fun x => by
      rw [List.mem_filter, inT_iff]
      exact ⟨fun g => g.2, fun g => ⟨all x g, g⟩⟩)
    obtain ⟨S, s, rfl⟩ := suffix_filter s'
    exact ⟨S, s, by rw [← filter_held (cl.suf s).1 (cl.suf s).2]; exact l⟩
  intro e
  induction e with
  | num _ => intro b R _ _ _; exact ⟨R, List.suffix_refl _, Nat.zero_le _⟩
  | fld _ => intro b R _ _ _; exact ⟨R, List.suffix_refl _, Nat.zero_le _⟩
  | plc _ _ => intro b R _ _ h; exact any _ b R h (by simp [Exp.cnt])
  | mrk _ _ => intro b R _ _ h; exact any _ b R h (by simp [Exp.cnt])
  | cell a ih =>
    intro b R t v h
    obtain ⟨ta, tr⟩ := tr_cell t
    obtain ⟨r, e⟩ := root_last _ b R t v h (by simp [Exp.cnt])
    have c0 : ((Exp.cell a).cnt : Int) = a.cnt + 1 := by simp [Exp.cnt]
    rw [c0] at h e
    rw [show b + ((a.cnt : Int) + 1) - 1 = b + a.cnt by omega] at e
    subst e
    have hr : ∀ x, x ∈ r ↔ b ≤ x ∧ x < b + a.cnt := fun x => by
      have := h x
      rw [List.mem_cons] at this
      constructor
      · intro g
        have ne : x ≠ b + a.cnt := fun z => v.1 (by rw [← z]; exact g)
        have := this.mp (.inr g)
        omega
      · intro g
        rcases this.mpr (by omega) with q | q
        · omega
        · exact q
    by_cases z : a.need ≤ 1
    · obtain ⟨S, s, l⟩ := any (.cell a) b _ (fun x => by rw [c0]; exact h x) (by simp [Exp.cnt])
      exact ⟨S, s, by simp only [Exp.need]; omega⟩
    · obtain ⟨S, s, l⟩ := ih b r ta v.2.2 hr
      exact ⟨S, s.trans (List.suffix_cons _ _), by simp only [Exp.need]; omega⟩
  | two o a c iha ihc =>
    intro b R t v h
    obtain ⟨ta, tc, tr⟩ := tr_two t
    obtain ⟨r, e⟩ := root_last _ b R t v h (by simp [Exp.cnt])
    have c0 : ((Exp.two o a c).cnt : Int) = a.cnt + c.cnt + 1 := by simp [Exp.cnt]
    rw [c0] at h e
    rw [show b + ((a.cnt : Int) + c.cnt + 1) - 1 = b + a.cnt + c.cnt by omega] at e
    subst e
    have hr : ∀ x, x ∈ r ↔ b ≤ x ∧ x < b + a.cnt + c.cnt := fun x => by
      have := h x
      rw [List.mem_cons] at this
      constructor
      · intro g
        have ne : x ≠ b + a.cnt + c.cnt := fun z => v.1 (by rw [← z]; exact g)
        have := this.mp (.inr g)
        omega
      · intro g
        rcases this.mpr (by omega) with q | q
        · omega
        · exact q
    have cla : Cl own (inT b a.cnt) r := by
      refine ⟨fun x hx hT y hy => ?_, fun x hx hT y hy => ?_⟩
      · have := inT_iff.mp hT
        have := own_sub a b ta x this.1 this.2 y hy
        exact inT_iff.mpr (by omega)
      · have q := (hr x).mp hx
        have := inT_no.mp hT
        have := own_sub c (b + a.cnt) tc x (by omega) (by omega) y hy
        exact inT_no.mpr (by omega)
    have clc : Cl own (inT (b + a.cnt) c.cnt) r := by
      refine ⟨fun x hx hT y hy => ?_, fun x hx hT y hy => ?_⟩
      · have := inT_iff.mp hT
        have := own_sub c (b + a.cnt) tc x this.1 this.2 y hy
        exact inT_iff.mpr (by omega)
      · have q := (hr x).mp hx
        have := inT_no.mp hT
        have := own_sub a b ta x (by omega) (by omega) y hy
        exact inT_no.mpr (by omega)
    obtain ⟨Sa, sa, la⟩ := within a b r (iha b) ta v.2.2 (fun x g => (hr x).mpr (by omega)) cla
    obtain ⟨Sc, sc, lc⟩ := within c (b + a.cnt) r (ihc _) tc v.2.2 (fun x g => (hr x).mpr (by omega)) clc
    have le : ∀ {S : List Int} {T : Int → Bool}, ((held own S).filter T).length ≤ (held own S).length := fun {S T} => List.length_filter_le _ _
    by_cases z : a.need = c.need ∧ 0 < a.need
    · have dis : ∀ (l : List Int), ∀ x ∈ l, inT b a.cnt x = true → inT (b + a.cnt) c.cnt x = false := fun l x _ h => by
        have := inT_iff.mp h
        exact inT_no.mpr (by omega)
      rw [show (Exp.two o a c).need = a.need + 1 by simp only [Exp.need]; rw [if_pos z]]
      rcases suffix_total sa sc with s | s
      · have := begun cla sc s (by omega)
        have := two_len (dis (held own Sc))
        exact ⟨Sc, sc.trans (List.suffix_cons _ _), by omega⟩
      · have := begun clc sa s (by omega)
        have := two_len (dis (held own Sa))
        exact ⟨Sa, sa.trans (List.suffix_cons _ _), by omega⟩
    · rw [show (Exp.two o a c).need = max 1 (max a.need c.need) by simp only [Exp.need]; rw [if_neg z]]
      by_cases z1 : max a.need c.need ≤ 1
      · obtain ⟨S, s, l⟩ := any (.two o a c) b _ (fun x => by rw [c0]; exact h x) (by simp [Exp.cnt])
        exact ⟨S, s, by omega⟩
      · by_cases z2 : c.need ≤ a.need
        · exact ⟨Sa, sa.trans (List.suffix_cons _ _), by have := le (S := Sa) (T := inT b a.cnt); omega⟩
        · exact ⟨Sc, sc.trans (List.suffix_cons _ _), by have := le (S := Sc) (T := inT (b + a.cnt) c.cnt); omega⟩
/-- trees side by side -/
def offs : List Exp → Int → List (Exp × Int)
  | [], _ => []
  | e :: es, b => (e, b) :: offs es (b + e.cnt)
theorem offs_ge : ∀ {es : List Exp} {b : Int} {p : Exp × Int}, p ∈ offs es b → b ≤ p.2 ∧ p.2 + p.1.cnt ≤ b + cnts es
  | [], _, _, h => (List.not_mem_nil h).elim
  | e :: es, b, p, h => by
    rw [cnts]
    rcases List.mem_cons.mp h with rfl | h
    · exact ⟨Int.le_refl _, by show b + (e.cnt : Int) ≤ _; omega⟩
    · have := offs_ge h
      omega
/-- where each number lies -/
theorem offs_in : ∀ {es : List Exp} {b x : Int}, b ≤ x → x < b + cnts es → ∃ p ∈ offs es b, p.2 ≤ x ∧ x < p.2 + p.1.cnt
  | [], b, x, h1, h2 => by rw [cnts] at h2; omega
  | e :: es, b, x, h1, h2 => by
    rw [cnts] at h2
    by_cases z : x < b + e.cnt
    · exact ⟨(e, b), List.mem_cons_self, h1, z⟩
    · obtain ⟨p, hp, q⟩ := offs_in (es := es) (b := b + e.cnt) (x := x) (by omega) (by omega)
      exact ⟨p, List.mem_cons_of_mem _ hp, q⟩
def Apart (p q : Exp × Int) : Prop := p.2 + p.1.cnt ≤ q.2 ∨ q.2 + q.1.cnt ≤ p.2
theorem offs_apart : ∀ {es : List Exp} {b : Int}, (offs es b).Pairwise Apart
  | [], _ => List.Pairwise.nil
  | e :: es, b => List.pairwise_cons.mpr ⟨fun p hp => .inl (offs_ge hp).1, offs_apart⟩
theorem Apart.symm {p q : Exp × Int} (h : Apart p q) : Apart q p := by rcases h with h | h; exact .inr h; exact .inl h
theorem cnt_cut (l : List Int) (p : Exp × Int) (U : Int → Bool) (h : ∀ x, inT p.2 p.1.cnt x = true → U x = true) : (l.filter (inT p.2 p.1.cnt)).length + (l.filter (fun x => U x && !inT p.2 p.1.cnt x)).length ≤ (l.filter U).length := by
  have t := two_len (T := inT p.2 p.1.cnt) (U := fun x => U x && !inT p.2 p.1.cnt x) (l := l.filter U) (fun x _ hx => by rw [hx]; cases U x <;> rfl)
  rw [List.filter_filter, List.filter_filter] at t
  have e1 : l.filter (fun x => inT p.2 p.1.cnt x && U x) = l.filter (inT p.2 p.1.cnt) := List.filter_congr fun x _ => by
    cases hx : inT p.2 p.1.cnt x with
    | false => rfl
    | true => rw [h x hx]; rfl
  have e2 : l.filter (fun x => (U x && !inT p.2 p.1.cnt x) && U x) = l.filter (fun x => U x && !inT p.2 p.1.cnt x) := List.filter_congr fun x _ => by
    cases U x <;> cases inT p.2 p.1.cnt x <;> rfl
  rw [e1, e2] at t
  exact t
theorem sub_cut {p : Exp × Int} {L : List (Exp × Int)} {U : Int → Bool} (hp : ∀ q ∈ L, Apart p q) (hU : ∀ q ∈ L, ∀ x, inT q.2 q.1.cnt x = true → U x = true) : ∀ q ∈ L, ∀ x, inT q.2 q.1.cnt x = true → (U x && !inT p.2 p.1.cnt x) = true := fun q hq x hx => by
  have a := inT_iff.mp hx
  have b : inT p.2 p.1.cnt x = false := inT_no.mpr (by rcases hp q hq with z | z <;> omega)
  rw [b, hU q hq x hx]; rfl
theorem cnt_all (l : List Int) : ∀ (L : List (Exp × Int)), L.Pairwise Apart → (∀ q ∈ L, 1 ≤ (l.filter (inT q.2 q.1.cnt)).length) → ∀ U : Int → Bool, (∀ p ∈ L, ∀ x, inT p.2 p.1.cnt x = true → U x = true) → L.length ≤ (l.filter U).length
  | [], _, _, U, _ => Nat.zero_le _
  | p :: L, hp, h1, U, hU => by
    obtain ⟨hp1, hp2⟩ := List.pairwise_cons.mp hp
    have i := cnt_all l L hp2 (fun q hq => h1 q (List.mem_cons_of_mem _ hq)) (fun x => U x && !inT p.2 p.1.cnt x) (sub_cut hp1 fun q hq => hU q (List.mem_cons_of_mem _ hq))
    have t := cnt_cut l p U (hU p List.mem_cons_self)
    have := h1 p List.mem_cons_self
    rw [List.length_cons]; omega
theorem cnt_one (l : List Int) (m : Nat) : ∀ (L : List (Exp × Int)), L.Pairwise Apart → (∀ q ∈ L, 1 ≤ (l.filter (inT q.2 q.1.cnt)).length) → (∃ p ∈ L, m ≤ (l.filter (inT p.2 p.1.cnt)).length) → ∀ U : Int → Bool, (∀ p ∈ L, ∀ x, inT p.2 p.1.cnt x = true → U x = true) → m + L.length ≤ (l.filter U).length + 1
  | [], _, _, ⟨_, h, _⟩, U, _ => (List.not_mem_nil h).elim
  | p :: L, hp, h1, ⟨q, hq, lq⟩, U, hU => by
    obtain ⟨hp1, hp2⟩ := List.pairwise_cons.mp hp
    have h1' := fun q hq => h1 q (List.mem_cons_of_mem _ hq)
    have hU' := sub_cut hp1 fun q hq => hU q (List.mem_cons_of_mem _ hq)
    have t := cnt_cut l p U (hU p List.mem_cons_self)
    have := h1 p List.mem_cons_self
    rcases List.mem_cons.mp hq with rfl | hq
    · have i := cnt_all l L hp2 h1' _ hU'
      rw [List.length_cons]; omega
    · have i := cnt_one l m L hp2 h1' ⟨q, hq, lq⟩ _ hU'
      rw [List.length_cons]; omega
/-- the lower bound: trees that each need m at least -/
theorem low_all {own : Int → List Int} {R : List Int} (v : Val own R) (m : Nat) (hm : 1 ≤ m) : ∀ (L : List (Exp × Int)), L ≠ [] → L.Pairwise Apart → (∀ p ∈ L, m ≤ p.1.need ∧ Tr own p.1 p.2 ∧ (∀ x, p.2 ≤ x ∧ x < p.2 + p.1.cnt → x ∈ R) ∧ Cl own (inT p.2 p.1.cnt) R) →
    ∃ S, S <:+ R ∧ m + L.length ≤ (held own S).length + 1 := by
  have key : ∀ (L : List (Exp × Int)), L ≠ [] → (∀ p ∈ L, m ≤ p.1.need ∧ Tr own p.1 p.2 ∧ (∀ x, p.2 ≤ x ∧ x < p.2 + p.1.cnt → x ∈ R) ∧ Cl own (inT p.2 p.1.cnt) R) →
      ∃ S, S <:+ R ∧ (∃ p ∈ L, m ≤ ((held own S).filter (inT p.2 p.1.cnt)).length) ∧ ∀ p ∈ L, 1 ≤ ((held own S).filter (inT p.2 p.1.cnt)).length := by
    intro L
    induction L with
    | nil => intro h; exact (h rfl).elim
    | cons p L ih =>
      intro _ h
      obtain ⟨hn, ht, ha, hc⟩ := h p List.mem_cons_self
      obtain ⟨Sp, sp, lp⟩ : ∃ S, S <:+ R ∧ p.1.need ≤ ((held own S).filter (inT p.2 p.1.cnt)).length := by
        obtain ⟨S', s', l⟩ := low p.1 p.2 (R.filter (inT p.2 p.1.cnt)) ht (filter_val hc.1 v) (fun x => by
          rw [List.mem_filter, inT_iff]
          exact ⟨fun g => g.2, fun g => ⟨ha x g, g⟩⟩)
        obtain ⟨S, s, rfl⟩ := suffix_filter s'
        exact ⟨S, s, by rw [← filter_held (hc.suf s).1 (hc.suf s).2]; exact l⟩
      cases L with
      | nil =>
        refine ⟨Sp, sp, ⟨p, List.mem_cons_self, by omega⟩, fun q hq => ?_⟩
        rw [List.mem_singleton.mp hq]; omega
      | cons p2 L2 =>
        obtain ⟨S, s, ⟨q, hq, lq⟩, l⟩ := ih (List.cons_ne_nil _ _) (fun q hq => h q (List.mem_cons_of_mem _ hq))
        rcases suffix_total sp s with z | z
        · refine ⟨S, s, ⟨q, List.mem_cons_of_mem _ hq, lq⟩, fun q hq => ?_⟩
          rcases List.mem_cons.mp hq with rfl | hq
          · exact begun hc s z (by omega)
          · exact l q hq
        · refine ⟨Sp, sp, ⟨p, List.mem_cons_self, by omega⟩, fun q hq => ?_⟩
          rcases List.mem_cons.mp hq with rfl | hq
          · omega
          · exact begun (h q (List.mem_cons_of_mem _ hq)).2.2.2 sp z (l q hq)
  intro L ne hp h
  obtain ⟨S, s, g, l⟩ := key L ne h
  have := cnt_one (held own S) m L hp l g (fun _ => true) (fun _ _ _ _ => rfl)
  rw [List.filter_eq_self.mpr (fun _ _ => rfl)] at this
  exact ⟨S, s, this⟩

end J
namespace J
open PySem PySem.Spec PyProof.Rows L2
--plain
/-! ### the own parts, part by part -/
def intD : PyData → Option Int
  | .int n => some n
  | _ => none
def intsD (xs : List PyData) : List Int := xs.filterMap intD
def ownD : PyData → List Int
  | .tuple xs => intsD xs
  | _ => []
def ownsL : List Exp → Int → List (List Int)
  | [], _ => []
  | e :: es, b => e.own b ++ ownsL es (b + e.cnt)
theorem part_own : ∀ (e : Exp) (ps : List PyData), (e.part ps).2.map ownD = ps.map ownD ++ e.own ps.length ∧ intsD [(e.part ps).1] = e.rt ps.length
  | .num _, ps => by simp [Exp.part, Exp.own, Exp.rt, Exp.cnt, intsD, intD]
  | .fld _, ps => by simp [Exp.part, Exp.own, Exp.rt, Exp.cnt, intsD, intD]
  | .plc k n, ps => by simp [Exp.part, Exp.own, Exp.rt, Exp.cnt, intsD, intD, ownD, selD]
  | .mrk k n, ps => by simp [Exp.part, Exp.own, Exp.rt, Exp.cnt, intsD, intD, ownD, selD]
  | .cell a, ps => by
    obtain ⟨h1, h2⟩ := part_own a ps
    have l := a.part_len ps
    constructor
    · rw [Exp.part, Exp.own, List.map_append, h1, List.append_assoc]
      congr 2
      show [intsD [.str "cell", (a.part ps).1]] = _
      rw [← h2]; rfl
    · show [((a.part ps).2.length : Int)] = _
      rw [l, Exp.rt, if_neg (by simp [Exp.cnt])]
      congr 1; simp [Exp.cnt]; omega
  | .two o a c, ps => by
    obtain ⟨h1, h2⟩ := part_own a ps
    obtain ⟨h3, h4⟩ := part_own c (a.part ps).2
    have l := a.part_len ps
    have l2 := c.part_len (a.part ps).2
    have e : ((ps.length + a.cnt : Nat) : Int) = (ps.length : Int) + a.cnt := by omega
    rw [l, e] at h3 h4
    constructor
    · rw [Exp.part, Exp.own, List.map_append, h3, h1]
      simp only [List.append_assoc]
      congr 3
      show [intsD [.str o, (a.part ps).1, (c.part (a.part ps).2).1]] = _
      rw [← h2, ← h4]
      show [intsD ([(a.part ps).1] ++ [(c.part (a.part ps).2).1])] = _
      unfold intsD; rw [List.filterMap_append]
    · show [((c.part (a.part ps).2).2.length : Int)] = _
      rw [l2, l, Exp.rt, if_neg (by simp [Exp.cnt])]
      congr 1; simp [Exp.cnt]; omega
theorem part_rt {e : Exp} (h : 0 < e.cnt) (ps : List PyData) : (e.part ps).1 = .int ((ps.length : Int) + e.cnt - 1) := by
  have h2 := (part_own e ps).2
  unfold Exp.rt at h2
  rw [if_neg (by omega)] at h2
  cases e with
  | num => simp [Exp.cnt] at h
  | fld => simp [Exp.cnt] at h
  | plc k n => simp [Exp.part, Exp.cnt]
  | mrk k n => simp [Exp.part, Exp.cnt]
  | cell a =>
    have l := a.part_len ps
    show PyData.int _ = _
    congr 1; rw [l]; simp [Exp.cnt]; omega
  | two o a c =>
    have l := a.part_len ps
    have l2 := c.part_len (a.part ps).2
    show PyData.int _ = _
    congr 1; rw [l2, l]; simp [Exp.cnt]; omega
theorem ownsL_app : ∀ (es fs : List Exp) (b : Int), ownsL (es ++ fs) b = ownsL es b ++ ownsL fs (b + cnts es)
  | [], fs, b => by simp [ownsL, cnts]
  | e :: es, fs, b => by
    rw [List.cons_append, ownsL, ownsL_app es, ownsL, cnts, List.append_assoc]
    congr 3; omega
theorem ownsL_len : ∀ (es : List Exp) (b : Int), (ownsL es b).length = cnts es
  | [], _ => rfl
  | e :: es, b => by rw [ownsL, List.length_append, own_len, ownsL_len es, cnts]
theorem parts_own : ∀ (es : List Exp) (ps : List PyData), (parts es ps).2.map ownD = ps.map ownD ++ ownsL es ps.length
  | [], ps => by simp [parts, ownsL]
  | e :: es, ps => by
    rw [parts, parts_own es, (part_own e ps).1, ownsL, List.append_assoc, e.part_len]
    congr 3
def restsL (ss : List SetE) : List Exp := ss.flatMap SetE.rests
theorem proots_own : ∀ (ss : List SetE) (ps : List PyData), (proots ss ps).2.map ownD = ps.map ownD ++ ownsL (restsL ss) ps.length
  | [], ps => by simp [proots, restsL, ownsL]
  | s :: ss, ps => by
    have e : restsL (s :: ss) = s.rests ++ restsL ss := List.flatMap_cons
    rw [proots, proots_own ss, parts_own, List.append_assoc, e, ownsL_app, parts_len]
    congr 3
/-- the own parts of the part x -/
def ownF (ss : List SetE) (x : Int) : List Int := if 0 ≤ x then ((proots ss []).2.map ownD).getD x.toNat [] else []
theorem ownF_at {ss : List SetE} {i : Nat} {d : PyData} (h : (proots ss []).2[i]? = some d) : ownF ss i = ownD d := by
  unfold ownF
  rw [if_pos (by omega), List.getD_eq_getElem?_getD, Int.toNat_natCast, List.getElem?_map, h]; rfl
theorem ownsL_tr {es : List Exp} {b : Int} {own : Int → List Int} (h : ∀ (i : Nat) (l : List Int), (ownsL es b)[i]? = some l → own (b + i) = l) : ∀ p ∈ offs es b, Tr own p.1 p.2 := by
  induction es generalizing b with
  | nil => intro p hp; exact (List.not_mem_nil hp).elim
  | cons e es ih =>
    intro p hp
    rcases List.mem_cons.mp hp with rfl | hp
    · intro i l hi
      exact h i l (by rw [ownsL, List.getElem?_append_left (List.getElem?_eq_some_iff.mp hi).1]; exact hi)
    · refine ih (fun i l hi => ?_) p hp
      have := h (e.cnt + i) l (by rw [ownsL, List.getElem?_append_right (by rw [own_len]; omega), own_len, Nat.add_sub_cancel_left]; exact hi)
      rw [← this]; congr 1; omega
theorem ownF_tr (ss : List SetE) : ∀ p ∈ offs (restsL ss) 0, Tr (ownF ss) p.1 p.2 := by
  refine ownsL_tr fun i l hi => ?_
  have e := proots_own ss []
  rw [List.map_nil, List.nil_append] at e
  rw [List.length_nil] at e
  unfold ownF
  rw [if_pos (by omega), e, List.getD_eq_getElem?_getD, Int.zero_add, Int.toNat_natCast]
  show ((ownsL (restsL ss) 0)[i]?).getD [] = l
  rw [hi]; rfl
theorem proots_cnt (ss : List SetE) : (proots ss []).2.length = cnts (restsL ss) := by
  have e := congrArg List.length (proots_own ss [])
  rw [List.length_map, List.map_nil, List.nil_append, ownsL_len] at e
  exact e
/-- each part is used once at most -/
theorem own_once {own : Int → List Int} : ∀ (e : Exp) (b : Int), Tr own e b → (∀ x, b ≤ x → x < b + e.cnt → (own x).Nodup) ∧ ∀ x z y, b ≤ x → x < b + e.cnt → b ≤ z → z < b + e.cnt → y ∈ own x → y ∈ own z → x = z
  | .num _, b, _ => ⟨fun x h1 h2 => by simp [Exp.cnt] at h2; omega, fun x z y h1 h2 => by simp [Exp.cnt] at h2; omega⟩
  | .fld _, b, _ => ⟨fun x h1 h2 => by simp [Exp.cnt] at h2; omega, fun x z y h1 h2 => by simp [Exp.cnt] at h2; omega⟩
  | .plc _ _, b, t => by
    have e0 : own b = [] := by have := t 0 [] rfl; simpa using this
    refine ⟨fun x h1 h2 => ?_, fun x z y h1 h2 h3 h4 _ _ => ?_⟩
    · simp [Exp.cnt] at h2
      rw [show x = b by omega, e0]; exact List.nodup_nil
    · simp [Exp.cnt] at h2 h4; omega
  | .mrk _ _, b, t => by
    have e0 : own b = [] := by have := t 0 [] rfl; simpa using this
    refine ⟨fun x h1 h2 => ?_, fun x z y h1 h2 h3 h4 _ _ => ?_⟩
    · simp [Exp.cnt] at h2
      rw [show x = b by omega, e0]; exact List.nodup_nil
    · simp [Exp.cnt] at h2 h4; omega
  | .cell a, b, t => by
    obtain ⟨ta, tr⟩ := tr_cell t
    obtain ⟨n, u⟩ := own_once a b ta
    have c0 : ((Exp.cell a).cnt : Int) = a.cnt + 1 := by simp [Exp.cnt]
    rw [c0]
    have no : ∀ x y, b ≤ x → x < b + a.cnt → y ∈ own x → y ∈ own (b + a.cnt) → False := fun x y h1 h2 hy hy' => by
      rw [tr] at hy'
      have := rt_mem hy'
      have := own_sub a b ta x h1 h2 y hy
      omega
    refine ⟨fun x h1 h2 => ?_, fun x z y h1 h2 h3 h4 hx hz => ?_⟩
    · by_cases q : x < b + a.cnt
      · exact n x h1 q
      · rw [show x = b + a.cnt by omega, tr]; unfold Exp.rt
        by_cases c : a.cnt = 0 <;> simp [c]
    · by_cases q : x < b + a.cnt
      · by_cases q2 : z < b + a.cnt
        · exact u x z y h1 q h3 q2 hx hz
        · exact (no x y h1 q hx (by rw [show b + a.cnt = z by omega]; exact hz)).elim
      · by_cases q2 : z < b + a.cnt
        · exact (no z y h3 q2 hz (by rw [show b + a.cnt = x by omega]; exact hx)).elim
        · omega
  | .two o a c, b, t => by
    obtain ⟨ta, tc, tr⟩ := tr_two t
    obtain ⟨n, u⟩ := own_once a b ta
    obtain ⟨n2, u2⟩ := own_once c (b + a.cnt) tc
    have c0 : ((Exp.two o a c).cnt : Int) = a.cnt + c.cnt + 1 := by simp [Exp.cnt]
    rw [c0]
    have no : ∀ x y, b ≤ x → x < b + a.cnt + c.cnt → y ∈ own x → y ∈ own (b + a.cnt + c.cnt) → False := fun x y h1 h2 hy hy' => by
      rw [tr] at hy'
      by_cases q : x < b + a.cnt
      · have := own_sub a b ta x h1 q y hy
        rcases List.mem_append.mp hy' with g | g <;> have := rt_mem g <;> omega
      · have := own_sub c (b + a.cnt) tc x (by omega) h2 y hy
        rcases List.mem_append.mp hy' with g | g <;> have := rt_mem g <;> omega
    refine ⟨fun x h1 h2 => ?_, fun x z y h1 h2 h3 h4 hx hz => ?_⟩
    · by_cases q : x < b + a.cnt
      · exact n x h1 q
      · by_cases q2 : x < b + a.cnt + c.cnt
        · exact n2 x (by omega) q2
        · rw [show x = b + a.cnt + c.cnt by omega, tr]
          refine List.nodup_append.mpr ⟨?_, ?_, fun y h1 z h2 => ?_⟩
          · unfold Exp.rt
            by_cases c : a.cnt = 0 <;> simp [c]
          · unfold Exp.rt
            by_cases k : c.cnt = 0 <;> simp [k]
          · have := rt_mem h1
            have := rt_mem h2
            omega
    · have mid : ∀ x z, b ≤ x → x < b + a.cnt + c.cnt → b ≤ z → z < b + a.cnt + c.cnt → y ∈ own x → y ∈ own z → x = z := fun x z h1 h2 h3 h4 hx hz => by
        by_cases q : x < b + a.cnt
        · have := own_sub a b ta x h1 q y hx
          by_cases q2 : z < b + a.cnt
          · exact u x z y h1 q h3 q2 hx hz
          · have := own_sub c (b + a.cnt) tc z (by omega) (by omega) y hz
            omega
        · have := own_sub c (b + a.cnt) tc x (by omega) (by omega) y hx
          by_cases q2 : z < b + a.cnt
          · have := own_sub a b ta z h3 q2 y hz
            omega
          · exact u2 x z y (by omega) (by omega) (by omega) (by omega) hx hz
      by_cases q : x < b + a.cnt + c.cnt
      · by_cases q2 : z < b + a.cnt + c.cnt
        · exact mid x z h1 q h3 q2 hx hz
        · exact (no x y h1 q hx (by rw [show b + a.cnt + c.cnt = z by omega]; exact hz)).elim
      · by_cases q2 : z < b + a.cnt + c.cnt
        · exact (no z y h3 q2 hz (by rw [show b + a.cnt + c.cnt = x by omega]; exact hx)).elim
        · omega
/-- all that is known of the own parts -/
structure OwnOk (own : Int → List Int) (n : Int) : Prop where
  lt : ∀ x, 0 ≤ x → x < n → ∀ y ∈ own x, 0 ≤ y ∧ y < x
  nd : ∀ x, 0 ≤ x → x < n → (own x).Nodup
  once : ∀ x z y, 0 ≤ x → x < n → 0 ≤ z → z < n → y ∈ own x → y ∈ own z → x = z
theorem ownF_ok (ss : List SetE) : OwnOk (ownF ss) (cnts (restsL ss)) := by
  have tr := ownF_tr ss
  refine ⟨fun x h1 h2 y hy => ?_, fun x h1 h2 => ?_, fun x z y h1 h2 h3 h4 hx hz => ?_⟩
  · obtain ⟨p, hp, q1, q2⟩ := offs_in (es := restsL ss) (b := 0) h1 (by omega)
    have := own_sub p.1 p.2 (tr p hp) x q1 q2 y hy
    have := offs_ge hp
    omega
  · obtain ⟨p, hp, q1, q2⟩ := offs_in (es := restsL ss) (b := 0) h1 (by omega)
    exact (own_once p.1 p.2 (tr p hp)).1 x q1 q2
  · obtain ⟨p, hp, q1, q2⟩ := offs_in (es := restsL ss) (b := 0) h1 (by omega)
    obtain ⟨r, hr, q3, q4⟩ := offs_in (es := restsL ss) (b := 0) h3 (by omega)
    have a := own_sub p.1 p.2 (tr p hp) x q1 q2 y hx
    have b := own_sub r.1 r.2 (tr r hr) z q3 q4 y hz
    have e : p = r := by
      refine Classical.byContradiction fun ne => ?_
      have ap : ∀ (L : List (Exp × Int)), L.Pairwise Apart → p ∈ L → r ∈ L → p ≠ r → Apart p r := fun L => by
        induction L with
        | nil => intro _ h; exact (List.not_mem_nil h).elim
        | cons q L ih =>
          intro hp h1 h2 ne
          obtain ⟨a, b⟩ := List.pairwise_cons.mp hp
          rcases List.mem_cons.mp h1 with e1 | h1
          · rcases List.mem_cons.mp h2 with e2 | h2
            · exact (ne (e1.trans e2.symm)).elim
            · rw [e1]; exact a _ h2
          · rcases List.mem_cons.mp h2 with e2 | h2
            · rw [e2]; exact (a _ h1).symm
            · exact ih b h1 h2 ne
      have := ap _ offs_apart hp hr ne
      rcases this with z | z <;> omega
    subst e
    exact (own_once p.1 p.2 (tr p hp)).2 x z y q1 q2 q3 q4 hx hz

end J
namespace J
open PySem PySem.Spec PyProof.Rows L2
--plain
/-! ### orders that are, and that are none -/
def ordB (own : Int → List Int) (n : Int) : List (Option Int) → List Int → Bool
  | [], _ => true
  | none :: _, _ => false
  | some x :: r, seen => decide (0 ≤ x ∧ x ≤ n - 1) && (!decide (x ∈ seen) && ((own x).all (fun y => decide (y ∈ seen)) && ordB own n r (x :: seen)))
theorem ordB_some {own : Int → List Int} {n x : Int} {r : List (Option Int)} {seen : List Int} : ordB own n (some x :: r) seen = (decide (0 ≤ x ∧ x ≤ n - 1) && (!decide (x ∈ seen) && ((own x).all (fun y => decide (y ∈ seen)) && ordB own n r (x :: seen)))) := by rw [ordB]
def isOrdB (own : Int → List Int) (n : Int) (ws : List (Option Int)) : Bool := decide ((ws.length : Int) = n) && ordB own n ws []
theorem ordB_val {own : Int → List Int} {n : Int} : ∀ (ws : List (Option Int)) (seen : List Int), Val own seen → ordB own n ws seen = true → ∃ l : List Int, ws = l.map some ∧ Val own (l.reverse ++ seen) ∧ ∀ x ∈ l, 0 ≤ x ∧ x < n
  | [], seen, v, _ => ⟨[], rfl, v, fun _ h => (List.not_mem_nil h).elim⟩
  | none :: _, _, _, h => by cases h
  | some x :: r, seen, v, h => by
    unfold ordB at h
    simp only [Bool.and_eq_true, decide_eq_true_eq, Bool.not_eq_true', decide_eq_false_iff_not, List.all_eq_true] at h
    obtain ⟨h1, h2, h3, h4⟩ := h
    obtain ⟨l, e, vl, b⟩ := ordB_val r (x :: seen) ⟨h2, h3, v⟩ h4
    refine ⟨x :: l, by rw [e]; rfl, by rw [List.reverse_cons, List.append_assoc]; exact vl, fun y hy => ?_⟩
    rcases List.mem_cons.mp hy with rfl | hy
    · omega
    · exact b y hy
theorem val_app {own : Int → List Int} : ∀ {l m : List Int}, Val own (l ++ m) → Val own m
  | [], _, v => v
  | _ :: _, _, v => val_app v.2.2
theorem val_ordB {own : Int → List Int} {n : Int} : ∀ (l seen : List Int), Val own (l.reverse ++ seen) → (∀ x ∈ l, 0 ≤ x ∧ x < n) → ordB own n (l.map some) seen = true
  | [], _, _, _ => rfl
  | x :: l, seen, v, b => by
    rw [List.reverse_cons, List.append_assoc] at v
    have vx : Val own (x :: seen) := val_app v
    have ih := val_ordB l (x :: seen) v (fun y hy => b y (List.mem_cons_of_mem _ hy))
    have := b x List.mem_cons_self
    rw [List.map_cons]
    unfold ordB
    simp only [Bool.and_eq_true, decide_eq_true_eq, Bool.not_eq_true', decide_eq_false_iff_not, List.all_eq_true]
    exact ⟨by omega, vx.1, vx.2.1, ih⟩
structure Full (own : Int → List Int) (n : Int) (o : List Int) : Prop where
  val : Val own o.reverse
  mem : ∀ x, x ∈ o ↔ 0 ≤ x ∧ x < n
  len : (o.length : Int) = n
theorem Full.ord {own : Int → List Int} {n : Int} {o : List Int} (h : Full own n o) : isOrdB own n (o.map some) = true := by
  unfold isOrdB
  rw [List.length_map, decide_eq_true h.len, Bool.true_and]
  exact val_ordB o [] (by rw [List.append_nil]; exact h.val) (fun x hx => (h.mem x).mp hx)
/-- how many are held -/
theorem filter_one {l : List Int} {a : Int} (n : l.Nodup) (h : a ∈ l) : (l.filter (fun y => !decide (y = a))).length + 1 = l.length := by
  induction l with
  | nil => exact (List.not_mem_nil h).elim
  | cons b l ih =>
    obtain ⟨n1, n2⟩ := List.nodup_cons.mp n
    rw [List.filter_cons, List.length_cons]
    by_cases e : b = a
    · subst e
      rw [decide_eq_true rfl, if_neg (by decide)]
      rw [List.filter_eq_self.mpr]
      intro y hy
      have : y ≠ b := fun z => n1 (by rw [← z]; exact hy)
      simp [this]
    · have ha : a ∈ l := by
        rcases List.mem_cons.mp h with g | g
        · exact absurd g.symm e
        · exact g
      have := ih n2 ha
      rw [decide_eq_false e, if_pos (by decide), List.length_cons]
      omega
theorem filter_cnt : ∀ (o l : List Int), o.Nodup → l.Nodup → (∀ y ∈ o, y ∈ l) → (l.filter (fun y => !decide (y ∈ o))).length + o.length = l.length
  | [], l, _, _, _ => by
    rw [List.filter_eq_self.mpr (fun y _ => by simp)]; rfl
  | a :: o, l, n, m, s => by
    obtain ⟨n1, n2⟩ := List.nodup_cons.mp n
    have ih := filter_cnt o l n2 m (fun y hy => s y (List.mem_cons_of_mem _ hy))
    have e : l.filter (fun y => !decide (y ∈ a :: o)) = (l.filter (fun y => !decide (y ∈ o))).filter (fun y => !decide (y = a)) := by
      rw [List.filter_filter]
      apply List.filter_congr
      intro y _
      by_cases h1 : y = a <;> by_cases h2 : y ∈ o <;> simp [h1, h2]
    have ma : a ∈ l.filter (fun y => !decide (y ∈ o)) := List.mem_filter.mpr ⟨s a List.mem_cons_self, by simp [n1]⟩
    have := filter_one (m.filter _) ma
    rw [e, List.length_cons]
    omega
theorem held_sub {own : Int → List Int} : ∀ {R : List Int} {y : Int}, y ∈ held own R → y ∈ R
  | [], _, h => (List.not_mem_nil h).elim
  | x :: r, y, h => by
    rw [held] at h
    rcases List.mem_cons.mp h with e | h
    · rw [e]; exact List.mem_cons_self
    · exact List.mem_cons_of_mem _ (held_sub (List.mem_filter.mp h).1)
theorem held_nodup {own : Int → List Int} : ∀ {R : List Int}, Val own R → (held own R).Nodup
  | [], _ => List.nodup_nil
  | x :: r, v => by
    rw [held]
    exact List.nodup_cons.mpr ⟨fun h => v.1 (held_sub (List.mem_filter.mp h).1), (held_nodup v.2.2).filter _⟩
theorem held_mem {own : Int → List Int} : ∀ {R : List Int} {y : Int}, y ∈ R → (∀ z ∈ R, y ∉ own z) → y ∈ held own R
  | [], _, h, _ => (List.not_mem_nil h).elim
  | x :: r, y, h, k => by
    rw [held]
    rcases List.mem_cons.mp h with e | h
    · rw [e]; exact List.mem_cons_self
    · exact List.mem_cons_of_mem _ (List.mem_filter.mpr ⟨held_mem h (fun z hz => k z (List.mem_cons_of_mem _ hz)), by simp [k x List.mem_cons_self]⟩)
theorem held_cnt {own : Int → List Int} {n : Int} (k : OwnOk own n) {x : Int} {r : List Int} (v : Val own (x :: r)) (b : ∀ y ∈ x :: r, 0 ≤ y ∧ y < n) : ((held own (x :: r)).length : Int) = ((held own r).length : Int) + 1 - (own x).length := by
  have bx := b x List.mem_cons_self
  have sub : ∀ y ∈ own x, y ∈ held own r := fun y hy => held_mem (v.2.1 y hy) fun z hz hyz => by
    have bz := b z (List.mem_cons_of_mem _ hz)
    have := k.once x z y bx.1 bx.2 bz.1 bz.2 hy hyz
    exact v.1 (by rw [this]; exact hz)
  have := filter_cnt (own x) (held own r) (k.nd x bx.1 bx.2) (held_nodup v.2.2) sub
  rw [held, List.length_cons]
  omega
/-- the counts, one by one -/
def cnts' (own : Int → List Int) (o : List Int) (i : Nat) : Int := ((held own (o.take (i + 1)).reverse).length : Int)
def heldL (own : Int → List Int) (o : List Int) : List Int := (List.range o.length).map (cnts' own o)
theorem heldL_len (own : Int → List Int) (o : List Int) : (heldL own o).length = o.length := by unfold heldL; rw [List.length_map, List.length_range]
theorem rev_snoc {o : List Int} {i : Nat} {x : Int} (h : o[i]? = some x) : (o.take (i + 1)).reverse = x :: (o.take i).reverse := by rw [take_snoc h, List.reverse_append]; rfl
theorem heldL_take (own : Int → List Int) (o : List Int) {i : Nat} (h : i < o.length) : (heldL own o).take (i + 1) = (heldL own o).take i ++ [cnts' own o i] := by
  have : (heldL own o)[i]? = some (cnts' own o i) := by
    unfold heldL
    rw [List.getElem?_map, List.getElem?_range h]; rfl
  exact take_snoc this
/-- the greatest of the counts is at least what is needed -/
theorem heldL_max {own : Int → List Int} {o : List Int} {m : Int} {k : Nat} (hm : ∀ y ∈ 0 :: heldL own o, y ≤ m) (h : ∃ S, S <:+ o.reverse ∧ k ≤ (held own S).length) : (k : Int) ≤ m := by
  obtain ⟨S, s, l⟩ := h
  obtain ⟨A, hA⟩ := s
  have e : o = S.reverse ++ A.reverse := by
    have := congrArg List.reverse hA
    rw [List.reverse_reverse, List.reverse_append] at this
    exact this.symm
  cases S with
  | nil =>
    have := hm 0 List.mem_cons_self
    have : (held own []).length = 0 := rfl
    omega
  | cons x r =>
    have hl : r.length < o.length := by rw [e, List.length_append, List.length_reverse, List.length_cons]; omega
    have c : cnts' own o r.length = ((held own (x :: r)).length : Int) := by
      unfold cnts'
      rw [e, List.take_append_of_le_length (by rw [List.length_reverse, List.length_cons]; exact Nat.le_refl _), List.take_of_length_le (by rw [List.length_reverse, List.length_cons]; exact Nat.le_refl _), List.reverse_reverse]
    have := hm (cnts' own o r.length) (List.mem_cons_of_mem _ (List.mem_map.mpr ⟨r.length, List.mem_range.mpr hl, rfl⟩))
    omega
/-! things that are no orders -/
theorem bad_len {own : Int → List Int} {n : Int} {ws : List (Option Int)} (h : (ws.length : Int) ≠ n) : isOrdB own n ws = false := by
  unfold isOrdB; rw [decide_eq_false h]; rfl
theorem bad_by {own : Int → List Int} {n : Int} {ws : List (Option Int)} (h : ∀ l : List Int, ws = l.map some → Val own l.reverse → (∀ x ∈ l, 0 ≤ x ∧ x < n) → False) : isOrdB own n ws = false := by
  unfold isOrdB
  cases e : ordB own n ws [] with
  | false => rw [Bool.and_false]
  | true =>
    obtain ⟨l, e1, v, b⟩ := ordB_val ws [] trivial e
    rw [List.append_nil] at v
    exact (h l e1 v b).elim
theorem bad_none {own : Int → List Int} {n : Int} {ws : List (Option Int)} (h : none ∈ ws) : isOrdB own n ws = false := bad_by fun l e _ _ => by
  rw [e] at h
  obtain ⟨x, _, hx⟩ := List.mem_map.mp h
  cases hx
theorem map_some_inj {l m : List Int} (h : l.map some = m.map some) : l = m := by
  have := congrArg (List.filterMap id) h
  simpa using this
theorem bad_out {own : Int → List Int} {n : Int} {l : List Int} {x : Int} (h : x ∈ l) (k : x < 0 ∨ n ≤ x) : isOrdB own n (l.map some) = false := bad_by fun l' e _ b => by
  rw [map_some_inj e] at h
  have := b x h
  omega
theorem rev_nodup {l : List Int} (h : l.reverse.Nodup) : l.Nodup := (List.pairwise_reverse.mp h).imp fun g => g.symm
theorem bad_twice {own : Int → List Int} {n : Int} {l : List Int} (h : ¬ l.Nodup) : isOrdB own n (l.map some) = false := bad_by fun l' e v _ => by
  rw [map_some_inj e] at h
  exact h (rev_nodup (val_nodup v))
theorem val_at {own : Int → List Int} : ∀ {A B : List Int} {x y : Int}, Val own (A ++ x :: B) → y ∈ own x → y ∈ B
  | [], _, _, _, v, h => v.2.1 _ h
  | _ :: _, _, _, _, v, h => val_at v.2.2 h
/-- own part y stands at there, behind x at here -/
theorem bad_swap {own : Int → List Int} {n : Int} {l : List Int} {x y : Int} {i j : Nat} (hx : l[i]? = some x) (hy : l[j]? = some y) (hij : i < j) (h : y ∈ own x) : isOrdB own n (l.map some) = false := bad_by fun l' e v _ => by
  have e := map_some_inj e
  subst e
  obtain ⟨hi, exi⟩ := List.getElem?_eq_some_iff.mp hx
  have split : l = l.take i ++ x :: l.drop (i + 1) := by
    rw [← exi, List.getElem_cons_drop, List.take_append_drop]
  have vr : Val own ((l.drop (i + 1)).reverse ++ x :: (l.take i).reverse) := by
    have : l.reverse = (l.drop (i + 1)).reverse ++ x :: (l.take i).reverse := by
      conv => lhs; rw [split]
      simp
    rw [← this]; exact v
  have hb := List.mem_reverse.mp (val_at vr h)
  have nd : l.Nodup := rev_nodup (val_nodup v)
  obtain ⟨m, hm, em⟩ := List.getElem_of_mem hb
  rw [List.length_take] at hm
  rw [List.getElem_take] at em
  obtain ⟨hj, ej⟩ := List.getElem?_eq_some_iff.mp hy
  have := (List.getElem_inj (h₀ := by omega) (h₁ := hj) nd).mp (em.trans ej.symm)
  omega

end J
namespace J
open PySem PySem.Spec PyProof.Rows L2
--plain
/-! ### the best order: what it is, and how many it holds -/
def Exp.ord : Exp → Int → List Int
  | .num _, _ => []
  | .fld _, _ => []
  | .plc _ _, b => [b]
  | .mrk _ _, b => [b]
  | .cell a, b => a.ord b ++ [b + a.cnt]
  | .two _ a c, b => (if 0 < a.cnt ∧ 0 < c.cnt ∧ a.need < c.need then c.ord (b + a.cnt) ++ a.ord b else a.ord b ++ c.ord (b + a.cnt)) ++ [b + a.cnt + c.cnt]
theorem ord_mem : ∀ (e : Exp) (b x : Int), x ∈ e.ord b ↔ b ≤ x ∧ x < b + e.cnt
  | .num _, b, x => by simp [Exp.ord, Exp.cnt]
  | .fld _, b, x => by simp [Exp.ord, Exp.cnt]
  | .plc _ _, b, x => by simp [Exp.ord, Exp.cnt]; omega
  | .mrk _ _, b, x => by simp [Exp.ord, Exp.cnt]; omega
  | .cell a, b, x => by
    rw [Exp.ord, List.mem_append, ord_mem a, List.mem_singleton]
    simp only [Exp.cnt]; omega
  | .two _ a c, b, x => by
    rw [Exp.ord, List.mem_append, List.mem_singleton]
    by_cases h : 0 < a.cnt ∧ 0 < c.cnt ∧ a.need < c.need
    · rw [if_pos h, List.mem_append, ord_mem a, ord_mem c]
      simp only [Exp.cnt]; omega
    · rw [if_neg h, List.mem_append, ord_mem a, ord_mem c]
      simp only [Exp.cnt]; omega
theorem val_cat {own : Int → List Int} : ∀ {B A : List Int}, Val own A → Val own B → (∀ x ∈ B, x ∉ A) → Val own (B ++ A)
  | [], _, va, _, _ => va
  | x :: B, A, va, vb, d => by
    refine ⟨fun h => ?_, fun y hy => List.mem_append_left _ (vb.2.1 y hy), val_cat va vb.2.2 fun y hy => d y (List.mem_cons_of_mem _ hy)⟩
    rcases List.mem_append.mp h with g | g
    · exact vb.1 g
    · exact d x List.mem_cons_self g
theorem ord_val {own : Int → List Int} : ∀ (e : Exp) (b : Int), Tr own e b → Val own (e.ord b).reverse
  | .num _, _, _ => trivial
  | .fld _, _, _ => trivial
  | .plc _ _, b, t => by
    have : own b = [] := by have := t 0 [] rfl; simpa using this
    exact ⟨List.not_mem_nil, fun y hy => by rw [this] at hy; exact hy, trivial⟩
  | .mrk _ _, b, t => by
    have : own b = [] := by have := t 0 [] rfl; simpa using this
    exact ⟨List.not_mem_nil, fun y hy => by rw [this] at hy; exact hy, trivial⟩
  | .cell a, b, t => by
    obtain ⟨ta, tr⟩ := tr_cell t
    rw [Exp.ord, List.reverse_append]
    refine ⟨fun h => ?_, fun y hy => ?_, ord_val a b ta⟩
    · have := (ord_mem a b _).mp (List.mem_reverse.mp h); omega
    · rw [tr] at hy
      have := rt_mem hy
      exact List.mem_reverse.mpr ((ord_mem a b y).mpr (by omega))
  | .two o a c, b, t => by
    obtain ⟨ta, tc, tr⟩ := tr_two t
    rw [Exp.ord, List.reverse_append]
    have key : Val own (if 0 < a.cnt ∧ 0 < c.cnt ∧ a.need < c.need then c.ord (b + a.cnt) ++ a.ord b else a.ord b ++ c.ord (b + a.cnt)).reverse := by
      have d1 : ∀ x ∈ (c.ord (b + a.cnt)).reverse, x ∉ (a.ord b).reverse := fun x hx hx' => by
        have := (ord_mem c _ x).mp (List.mem_reverse.mp hx)
        have := (ord_mem a _ x).mp (List.mem_reverse.mp hx')
        omega
      by_cases h : 0 < a.cnt ∧ 0 < c.cnt ∧ a.need < c.need
      · rw [if_pos h, List.reverse_append]
        exact val_cat (ord_val c _ tc) (ord_val a _ ta) (fun x hx hx' => d1 x hx' hx)
      · rw [if_neg h, List.reverse_append]
        exact val_cat (ord_val a _ ta) (ord_val c _ tc) d1
    have mem : ∀ x, x ∈ (if 0 < a.cnt ∧ 0 < c.cnt ∧ a.need < c.need then c.ord (b + a.cnt) ++ a.ord b else a.ord b ++ c.ord (b + a.cnt)) ↔ b ≤ x ∧ x < b + a.cnt + c.cnt := fun x => by
      by_cases h : 0 < a.cnt ∧ 0 < c.cnt ∧ a.need < c.need
      · rw [if_pos h, List.mem_append, ord_mem a, ord_mem c]; omega
      · rw [if_neg h, List.mem_append, ord_mem a, ord_mem c]; omega
    refine ⟨fun h => ?_, fun y hy => ?_, key⟩
    · have := (mem _).mp (List.mem_reverse.mp h); omega
    · rw [tr] at hy
      refine List.mem_reverse.mpr ((mem y).mpr ?_)
      rcases List.mem_append.mp hy with g | g
      · have := rt_mem g; omega
      · have := rt_mem g; omega
/-- how many more are held -/
def sumO (own : Int → List Int) : List Int → Int
  | [] => 0
  | x :: r => 1 - (own x).length + sumO own r
theorem sumO_app (own : Int → List Int) : ∀ l m : List Int, sumO own (l ++ m) = sumO own l + sumO own m
  | [], m => by simp [sumO]
  | x :: l, m => by rw [List.cons_append, sumO, sumO_app own l, sumO]; omega
theorem rt_len (e : Exp) (b : Int) : ((e.rt b).length : Int) = if e.cnt = 0 then 0 else 1 := by
  unfold Exp.rt
  by_cases h : e.cnt = 0
  · rw [if_pos h, if_pos h]; rfl
  · rw [if_neg h, if_neg h]; rfl
theorem ord_up {own : Int → List Int} : ∀ (e : Exp) (b : Int), Tr own e b → (∀ k, sumO own ((e.ord b).take k) ≤ e.need) ∧ sumO own (e.ord b) = if e.cnt = 0 then 0 else 1
  | .num _, _, _ => ⟨fun k => by simp [Exp.ord, sumO, Exp.need], by simp [Exp.ord, sumO, Exp.cnt]⟩
  | .fld _, _, _ => ⟨fun k => by simp [Exp.ord, sumO, Exp.need], by simp [Exp.ord, sumO, Exp.cnt]⟩
  | .plc _ _, b, t => by
    have e0 : own b = [] := by have := t 0 [] rfl; simpa using this
    refine ⟨fun k => ?_, by simp [Exp.ord, sumO, Exp.cnt, e0]⟩
    cases k <;> simp [Exp.ord, sumO, Exp.need, e0]
  | .mrk _ _, b, t => by
    have e0 : own b = [] := by have := t 0 [] rfl; simpa using this
    refine ⟨fun k => ?_, by simp [Exp.ord, sumO, Exp.cnt, e0]⟩
    cases k <;> simp [Exp.ord, sumO, Exp.need, e0]
  | .cell a, b, t => by
    obtain ⟨ta, tr⟩ := tr_cell t
    obtain ⟨u1, u2⟩ := ord_up a b ta
    have tot : sumO own ((Exp.cell a).ord b) = 1 := by
      rw [Exp.ord, sumO_app, u2, sumO, sumO, tr, rt_len]
      by_cases h : a.cnt = 0 <;> simp [h]
    refine ⟨fun k => ?_, by rw [tot]; simp [Exp.cnt]⟩
    by_cases h : k ≤ (a.ord b).length
    · rw [Exp.ord, List.take_append_of_le_length h]
      have := u1 k
      simp only [Exp.need]; omega
    · rw [List.take_of_length_le (by rw [Exp.ord, List.length_append, List.length_singleton]; omega), tot]
      simp only [Exp.need]; omega
  | .two o a c, b, t => by
    obtain ⟨ta, tc, tr⟩ := tr_two t
    obtain ⟨u1, u2⟩ := ord_up a b ta
    obtain ⟨v1, v2⟩ := ord_up c (b + a.cnt) tc
    have na := need_cnt a
    have nc := need_cnt c
    -- one behind the other
    have two : ∀ (A C : List Int) (m k : Nat) (x y : Int), (∀ j, sumO own (A.take j) ≤ m) → sumO own A = x → (∀ j, sumO own (C.take j) ≤ k) → ∀ j, sumO own ((A ++ C).take j) ≤ max (m : Int) (x + k) := fun A C m k x y h1 h2 h3 j => by
      rw [List.take_append, sumO_app]
      by_cases z : j ≤ A.length
      · rw [show j - A.length = 0 by omega, List.take_zero]
        have := h1 j
        show _ + 0 ≤ _
        omega
      · rw [List.take_of_length_le (by omega), h2]
        have := h3 (j - A.length)
        omega
    have key : (∀ j, sumO own ((if 0 < a.cnt ∧ 0 < c.cnt ∧ a.need < c.need then c.ord (b + a.cnt) ++ a.ord b else a.ord b ++ c.ord (b + a.cnt)).take j) ≤ ((Exp.two o a c).need : Nat)) ∧
        sumO own (if 0 < a.cnt ∧ 0 < c.cnt ∧ a.need < c.need then c.ord (b + a.cnt) ++ a.ord b else a.ord b ++ c.ord (b + a.cnt)) = (if a.cnt = 0 then 0 else 1) + (if c.cnt = 0 then 0 else 1) := by
      by_cases h : 0 < a.cnt ∧ 0 < c.cnt ∧ a.need < c.need
      · rw [if_pos h]
        refine ⟨fun j => ?_, by rw [sumO_app, u2, v2]; omega⟩
        have := two _ _ _ _ _ 0 v1 v2 u1 j
        rw [if_neg (show ¬ c.cnt = 0 by omega)] at this
        simp only [Exp.need]
        rw [if_neg (by omega)]
        omega
      · rw [if_neg h]
        refine ⟨fun j => ?_, by rw [sumO_app, u2, v2]⟩
        have := two _ _ _ _ _ 0 u1 u2 v1 j
        simp only [Exp.need]
        by_cases z : a.need = c.need ∧ 0 < a.need
        · rw [if_pos z]
          by_cases z2 : a.cnt = 0
          · rw [if_pos z2] at this; omega
          · rw [if_neg z2] at this; omega
        · rw [if_neg z]
          by_cases z2 : a.cnt = 0
          · rw [if_pos z2] at this; omega
          · rw [if_neg z2] at this; omega
    have tot : sumO own ((Exp.two o a c).ord b) = 1 := by
      rw [Exp.ord, sumO_app, key.2, sumO, sumO, tr, List.length_append]
      have h1 := rt_len a b
      have h2 := rt_len c (b + a.cnt)
      omega
    refine ⟨fun k => ?_, by rw [tot]; simp [Exp.cnt]⟩
    rw [Exp.ord]
    generalize hM : (if 0 < a.cnt ∧ 0 < c.cnt ∧ a.need < c.need then c.ord (b + a.cnt) ++ a.ord b else a.ord b ++ c.ord (b + a.cnt)) = M at key
    by_cases h : k ≤ M.length
    · rw [List.take_append_of_le_length h]
      exact key.1 k
    · have : sumO own ((M ++ [b + ↑a.cnt + ↑c.cnt]).take k) = 1 := by
        rw [List.take_of_length_le (by rw [List.length_append, List.length_singleton]; omega), ← tot, Exp.ord, hM]
      rw [this]
      simp only [Exp.need]
      by_cases z : a.need = c.need ∧ 0 < a.need
      · rw [if_pos z]; omega
      · rw [if_neg z]; omega

end J
namespace J
open PySem PySem.Spec PyProof.Rows L2
local macro_rules | `(tactic| walk_at "cls") => `(tactic| first
  | with_reducible exact Facts.cl_Parts
  | with_reducible exact Facts.cl_Order)
local macro_rules | `(tactic| walk_at "na") => `(tactic| first
  | with_reducible exact Facts.na_Parts_rows
  | with_reducible exact Facts.na_Order_parts
  | with_reducible exact Facts.na_Order_order
  | with_reducible exact Facts.na_Order_needed)
local macro_rules | `(tactic| walk_at "ty") => `(tactic| first
  | with_reducible exact ty_int
  | with_reducible exact ty_bl
  | with_reducible exact ty_str
  | with_reducible exact ty_non
  | ((with_reducible refine' ty_lst ?vv); (case vv => walk_at "tr"))
  | ((with_reducible refine' ty_sqT ?vv); (case vv => walk_at "tr"))
  | ((with_reducible refine' ty_dic ?vv); (case vv => walk_at "tr")))
local macro_rules | `(tactic| walk_at "ix") => `(tactic| first | exact at0 | exact at1 | exact at2 | assumption)
local macro_rules | `(tactic| walk_at "size") => `(tactic| first
  | assumption
  | (show _ < sizeLine; rw [sizeLine_eq]; (try simp only [List.length_cons, List.length_nil, List.length_append, List.length_map]); omega)
  | (show _ ≤ sizeLine; rw [sizeLine_eq]; (try simp only [List.length_cons, List.length_nil, List.length_append, List.length_map]); omega))
local macro_rules | `(tactic| walk_at "side") => `(tactic| first
  | assumption
  | ((with_reducible refine cdw ?_ ?_) <;> omega)
  | omega
  | (exact ⟨by omega, by omega⟩)
  | (exact Or.inl ⟨by omega, by omega⟩)
  | (exact Or.inr ⟨by omega, by omega⟩)
  | decide
  | (simp only [List.length_cons, List.length_nil, List.length_append, List.length_map]; omega)
  | (show _ ≤ _; decide))
local macro_rules | `(tactic| walk_at "as") => `(tactic| with_reducible assumption)
local macro_rules | `(tactic| walk_at "tr") => `(tactic| first
  | with_reducible assumption
  | with_reducible exact upd_same
  | ((with_reducible refine' SqL.of ?hh); (case hh => walk_at "as"))
  | ((with_reducible refine' SqT.of ?hh); (case hh => walk_at "as"))
  | ((with_reducible refine' Same.stm ?ee ?gg); (case ee => walk_at "as"); (case gg => walk_at "tr"))
  | ((with_reducible refine' Same.sqT ?ee ?gg); (case ee => walk_at "as"); (case gg => walk_at "tr"))
  | ((with_reducible refine' Same.sqL ?ee ?gg); (case ee => walk_at "as"); (case gg => walk_at "tr"))
  | ((with_reducible refine' Same.at ?ee ?gg); (case ee => walk_at "as"); (case gg => walk_at "tr"))
  | ((with_reducible refine' But.stm ?ee ?ff ?gg); (case ee => walk_at "as"); (case ff => walk_at "ne"); (case gg => walk_at "tr"))
  | ((with_reducible refine' But.tup ?ee ?ff ?gg); (case ee => walk_at "as"); (case ff => walk_at "tr1"); (case gg => walk_at "tr"))
  | ((with_reducible refine' But.sqT ?ee ?ff ?gg); (case ee => walk_at "as"); (case ff => walk_at "tr1"); (case gg => walk_at "tr"))
  | ((with_reducible refine' But.tupL ?ee ?ff ?gg); (case ee => walk_at "as"); (case ff => walk_at "tr1"); (case gg => walk_at "tr"))
  | ((with_reducible refine' But.sqTL ?ee ?ff ?gg); (case ee => walk_at "as"); (case ff => walk_at "tr1"); (case gg => walk_at "tr"))
  | ((with_reducible refine' But.sqL ?ee ?ff ?gg); (case ee => walk_at "as"); (case ff => walk_at "ne"); (case gg => walk_at "tr"))
  | ((with_reducible refine' But.at ?ee ?ff ?gg); (case ee => walk_at "as"); (case ff => walk_at "ne"); (case gg => walk_at "tr")))
local macro_rules | `(tactic| walk_at "ts") => `(tactic| first
  | with_reducible assumption
  | with_reducible exact TS.refl _
  | ((with_reducible refine' TS.trans ?gg (TS.of ?ee)); (case ee => walk_at "as"); (case gg => walk_at "ts"))
  | ((with_reducible refine' TS.trans ?gg (TS.butS ?ee ?ff)); (case ee => walk_at "as"); (case ff => walk_at "tr1"); (case gg => walk_at "ts"))
  | ((with_reducible refine' TS.trans ?gg (TS.butL ?ee ?ff)); (case ee => walk_at "as"); (case ff => walk_at "tr1"); (case gg => walk_at "ts"))
  | ((with_reducible refine' TS.trans ?gg (TS.butI ?ee ?ff)); (case ee => walk_at "as"); (case ff => walk_at "tr1"); (case gg => walk_at "ts")))
local macro_rules | `(tactic| walk_at "sm") => `(tactic| first
  | with_reducible assumption
  | with_reducible exact Same.refl _
  | ((with_reducible refine' Same.trans ?gg ?ee); (case ee => walk_at "as"); (case gg => walk_at "sm"))
  | ((with_reducible refine' But.new ?gg ?nn ?ee); (case ee => walk_at "as"); (case nn => walk_at "fr"); (case gg => walk_at "sm")))
local macro_rules | `(tactic| walk_at "fr") => `(tactic| first
  | with_reducible assumption
  | ((with_reducible refine' Same.back ?ee ?nn); (case nn => walk_at "as"); (case ee => walk_at "sm"))
  | ((with_reducible refine' But.back ?ee ?ff ?nn); (case nn => walk_at "as"); (case ff => walk_at "ne0"); (case ee => walk_at "bu")))
local macro_rules | `(tactic| walk_at "bu") => `(tactic| first
  | with_reducible assumption
  | with_reducible exact But.refl _ _
  | ((with_reducible refine' But.trans ?gg ?ee); (case ee => walk_at "as"); (case gg => walk_at "bu"))
  | ((with_reducible refine' But.trans ?gg (But.of ?ee)); (case ee => walk_at "as"); (case gg => walk_at "bu"))
  | ((with_reducible refine' But.new2 ?gg ?nn ?ee); (case ee => walk_at "as"); (case nn => walk_at "frB"); (case gg => walk_at "bu")))
local macro_rules | `(tactic| walk_at "frB") => `(tactic| first
  | with_reducible assumption
  | ((with_reducible refine' Same.back ?ee ?nn); (case nn => walk_at "as"); (case ee => walk_at "sm"))
  | ((with_reducible refine' But.back' ?ee ?ff ?nn); (case nn => walk_at "as"); (case ee => walk_at "bu"); (case ff => walk_at "tr1")))
local macro_rules | `(tactic| walk_at "tr1") => `(tactic| first
  | with_reducible assumption
  | ((with_reducible refine' Same.stm ?ee ?gg); (case ee => walk_at "as"); (case gg => walk_at "tr1"))
  | ((with_reducible refine' Same.at ?ee ?gg); (case ee => walk_at "as"); (case gg => walk_at "tr1"))
  | ((with_reducible refine' But.at ?ee ?ff ?gg); (case ee => walk_at "as"); (case ff => walk_at "ne0"); (case gg => walk_at "tr1"))
  | ((with_reducible refine' But.stm ?ee ?ff ?gg); (case ee => walk_at "as"); (case ff => walk_at "ne0"); (case gg => walk_at "tr1")))
local macro_rules | `(tactic| walk_at "ne0") => `(tactic| first
  | with_reducible assumption
  | (with_reducible apply Ne.symm; with_reducible assumption))
local macro_rules | `(tactic| walk_at "ne") => `(tactic| first
  | with_reducible assumption
  | (with_reducible apply Ne.symm; with_reducible assumption)
  | ((with_reducible refine' stm_ne ?hh ?nn); (case nn => walk_at "as"); (case hh => walk_at "tr1"))
  | ((with_reducible refine' ne_of_none ?hh ?nn); (case nn => walk_at "as"); (case hh => walk_at "tr1"))
  | ((with_reducible apply Ne.symm); (with_reducible refine' ne_of_none ?hh ?nn); (case nn => walk_at "as"); (case hh => walk_at "tr1")))
local macro_rules | `(tactic| walk_at "v") => `(tactic| first
  | with_reducible refine w_seq ?_
  | ((with_reducible refine' w_var ?vv ?_); (case vv => exact rfl))
  | with_reducible refine w_c ?_
  | with_reducible refine w_op ?_
  | with_reducible refine w_asg ?_
  | with_reducible refine w_gName ?_
  | with_reducible refine w_ret ?_
  | with_reducible refine w_ifS ?_
  | with_reducible refine w_drop ?_
  | with_reducible refine w_next ?_
  | with_reducible refine w_cons ?_
  | with_reducible refine w_nil ?_
  | with_reducible refine w_call ?_
  | with_reducible refine w_cb ?_
  | with_reducible refine w_rI0 ?_
  | with_reducible refine w_addI ?_
  | with_reducible refine w_eqI ?_
  | with_reducible refine w_neI ?_
  | with_reducible refine w_eqS ?_
  | with_reducible refine w_neS ?_
  | with_reducible refine w_eqB ?_
  | with_reducible refine w_neB ?_
  | with_reducible refine w_chain ?_
  | with_reducible refine w_test ?_
  | with_reducible refine w_tB ?_
  | with_reducible refine w_bl ?_
  | ((with_reducible refine' w_mulI ?vv ?_); (case vv => walk_at "side"))
  | ((with_reducible refine' w_rI ?vv ?_); (case vv => walk_at "side"))
  | with_reducible refine w_int1 ?_
  | with_reducible refine w_int1b ?_
  | with_reducible refine w_tup ?_
  | with_reducible refine w_lst ?_
  | with_reducible refine w_un ?_
  | with_reducible refine w_rU ?_
  | with_reducible refine w_not ?_
  | with_reducible refine w_notV ?_
  | with_reducible refine w_ifE ?_
  | with_reducible refine w_nT ?_
  | with_reducible refine w_nF ?_
  | with_reducible refine iteT ?_
  | with_reducible refine iteF ?_
  | ((with_reducible refine' w_ixT ?vv ?ww ?_); (case vv => walk_at "tr"); (case ww => walk_at "ix"))
  | ((with_reducible refine' w_ixL ?vv ?ww ?_); (case vv => walk_at "tr"); (case ww => walk_at "ix"))
  | with_reducible refine w_gSub ?_
  | ((with_reducible refine' w_setL ?vv ?ww ?_); (case vv => walk_at "tr"); (case ww => first | rfl | decide | assumption))
  | ((with_reducible refine' w_lenL ?vv ?_); (case vv => walk_at "tr"))
  | ((with_reducible refine' w_lenT ?vv ?_); (case vv => walk_at "tr"))
  | with_reducible refine w_max2 ?_
  | with_reducible refine w_max3 ?_
  | with_reducible refine w_din ?_
  | with_reducible refine w_dnotin ?_
  | with_reducible refine w_dput ?_
  | with_reducible refine w_min2 ?_
  | with_reducible refine w_bm ?_
  | with_reducible refine w_bm0 ?_
  | ((with_reducible refine' w_tyL ?vv ?_); (case vv => walk_at "tr"))
  | ((with_reducible refine' w_append ?vv ?ww ?_); (case vv => walk_at "tr"); (case ww => walk_at "size"))
  | ((with_reducible refine' w_size ?vv ?_); (case vv => walk_at "size"))
  | with_reducible refine w_forL ?_
  | with_reducible refine w_forT ?_
  | with_reducible refine w_forR1 ?_
  | with_reducible refine w_forR2 ?_
  | with_reducible refine w_lcL ?_
  | with_reducible refine w_lcT ?_
  | with_reducible refine w_lcR1 ?_
  | with_reducible refine w_yes ?_
  | with_reducible refine w_sl ?_
  | with_reducible refine w_noPart ?_
  | with_reducible refine w_part ?_
  | with_reducible refine w_int ?_
  | ((with_reducible refine' w_slL ?vv ?_); (case vv => walk_at "tr"))
  | ((with_reducible refine' w_seqL ?vv ?ww ?_); (case vv => walk_at "tr"); (case ww => rfl))
  | ((with_reducible refine' w_seqT ?vv ?ww ?_); (case vv => walk_at "tr"); (case ww => rfl))
  | with_reducible refine w_gNil ?_
  | with_reducible refine w_gCons ?_
  | with_reducible refine w_forZ ?_
  | with_reducible refine w_forM ?_
  | with_reducible refine w_forE ?_
  | with_reducible refine w_forV ?_
  | with_reducible refine w_lcZ ?_
  | with_reducible refine w_lcE ?_
  | ((with_reducible refine' w_isi (b := true) ?vv ?ww ?_); (case vv => walk_at "ty"); (case ww => decide +kernel))
  | ((with_reducible refine' w_isi (b := false) ?vv ?ww ?_); (case vv => walk_at "ty"); (case ww => decide +kernel))
  | with_reducible refine w_revL ?_
  | with_reducible refine w_pairN ?_
  | with_reducible refine w_pairC ?_
  | with_reducible refine w_dget ?_
  | with_reducible refine w_met ?_
  | ((with_reducible refine' w_metAt ?vv ?ww ?_); (case vv => walk_at "tr"); (case ww => rfl))
  | with_reducible refine w_mkI ?_
  | with_reducible refine w_fld ?_
  | ((with_reducible refine' w_fldAt ?vv ?cc ?nn ?ww ?_); (case vv => walk_at "tr"); (case cc => walk_at "cls"); (case nn => walk_at "na"); (case ww => rfl))
  | with_reducible refine w_sfld ?_
  | ((with_reducible refine' w_sfldAt ?vv ?cc ?nn ?ll ?ee ?_); (case vv => walk_at "tr"); (case cc => walk_at "cls"); (case nn => walk_at "na"); (case ll => simp); (case ee => rfl))
  | ((with_reducible refine' w_tupL ?vv ?_); (case vv => walk_at "tr"))
  | ((with_reducible refine' w_tupT ?vv ?_); (case vv => walk_at "tr"))
  | ((with_reducible refine' w_listL ?vv ?_); (case vv => walk_at "tr"))
  | ((with_reducible refine' w_listT ?vv ?_); (case vv => walk_at "tr"))
  | with_reducible refine w_tyS ?_
  | with_reducible refine w_retN ?_
  | with_reducible refine w_break ?_
  | with_reducible refine w_cont ?_)
local macro_rules | `(tactic| walk_at "w") => `(tactic| first
  | walk_at "v"
  | with_reducible refine w_or ?_
  | with_reducible refine w_and ?_
  | with_reducible refine w_andV ?_
  | with_reducible refine w_orV ?_)
local macro_rules | `(tactic| walk_at "wd") => `(tactic| first
  | walk_at "w"
  | ((with_reducible refine' w_decT ?vv ?_); (case vv => decide +kernel))
  | ((with_reducible refine' w_decF ?vv ?_); (case vv => decide +kernel)))
local macro_rules | `(tactic| walk_at "tz") => `(tactic| (intro S z; (repeat walk_at "w"); exact z))
local macro_rules | `(tactic| walk_at "wf") => `(tactic| first
  | walk_at "wd"
  | ((with_reducible refine' w_decF ?vv ?_); (case vv => with_reducible assumption)))
def Oth (t : String) : Prop := t = "bool" ∨ t = "NoneType" ∨ t = "list" ∨ t = "tuple" ∨ t = "dict"
/-- a whole number, or a thing of another kind -/
def Th (K : PySem.W.Frag) (H : Hp) (v : V) : Option Int → Prop
  | some n => v = .int n
  | none => (∃ z, v = .str z) ∨ ∃ t, Oth t ∧ TyX K H v (.type t)
theorem tyx_sm {K : PySem.W.Frag} {H H' : Hp} {v : V} {t : Value} (e : Same H H') (h : TyX K H v t) : TyX K H' v t := by
  cases h with
  | base b =>
    refine .base ?_
    cases b with
    | non => exact .non
    | bl x => exact .bl x
    | int i => exact .int i
    | str x => exact .str x
    | flt x => exact .flt x
    | lst g => exact .lst (e _ _ g)
    | frz g => exact .frz (e _ _ g)
    | tup g => exact .tup (e _ _ g)
    | dK g => exact .dK (e _ _ g)
    | dT g => exact .dT (e _ _ g)
    | ins g a b c d f => exact .ins (e _ _ g) a b c d f
  | byt b => exact .byt b
  | set g => exact .set (e _ _ g)
  | kList g c => exact .kList g c
  | kTuple g c => exact .kTuple g c
  | kDict g c => exact .kDict g c
  | fTuple g => exact .fTuple (e _ _ g)
  | fDict g => exact .fDict (e _ _ g)
theorem Th.sm {K : PySem.W.Frag} {H H' : Hp} {v : V} {wh : Option Int} (h : Th K H v wh) (e : Same H H') : Th K H' v wh := by
  cases wh with
  | some m => exact h
  | none =>
    rcases h with h | ⟨t, h1, h2⟩
    · exact .inl h
    · exact .inr ⟨t, h1, tyx_sm e h2⟩
def spWhole (K : PySem.W.Frag) : Sp := fun vs H Q _ => ∃ v wh, vs = [v] ∧ Th K H v wh ∧ Q (.bl wh.isSome) H
theorem len_is_whole {K : PySem.W.Frag} {vs H Q E} (h : spWhole K vs H Q E) : vs.length = 1 := by obtain ⟨_, _, rfl, _⟩ := h; rfl
def inB (wh : Option Int) (lo hi : Int) : Bool := match wh with
  | some n => decide (lo ≤ n ∧ n ≤ hi)
  | none => false
def spWithin (K : PySem.W.Frag) : Sp := fun vs H Q _ => ∃ v wh lo hi, vs = [v, .int lo, .int hi] ∧ Th K H v wh ∧ Q (.bl (inB wh lo hi)) H
theorem len_is_within {K : PySem.W.Frag} {vs H Q E} (h : spWithin K vs H Q E) : vs.length = 3 := by obtain ⟨_, _, _, _, rfl, _⟩ := h; rfl
section
variable {P : Program} {w : World} {K : PySem.W.Frag} {mg : Str → Option Value}
theorem ok_is_whole [c : Facts K mg] : Fn P w K mg "is_whole" 1 ["thing"] ((spWhole K)) := by
  obtain ⟨fd, F⟩ := c.d_is_whole
  refine Fn.mk' F c.g_is_whole sc_is_whole (k := 0) (fun vs H Q E h => ?_) (fun _ _ _ _ _ _ us hl => match us, hl with | [_], _ => rfl) (fun base cdv A outer s H vs Q E hr h => ?_)
  · exact len_is_whole h
  · have nd := sc_is_whole.nd
    have hu := hu_of hr
    refine ⟨_, (pss_one (ps_ret (pe_and (pe_callB (call_isiA (K := K) rfl) (by rfl) c.f_isinstance boot_isinstance (pa_cons (pv 0) (pa_cons (pe_bltn (v := .ty "int") (by rfl) c.f_int boot_int rfl) pa_nil))) (pe_one (pe_not (pe_callB (call_isiA (K := K) rfl) (by rfl) c.f_isinstance boot_isinstance (pa_cons (pv 0) (pa_cons (pe_bltn (v := .ty "bool") (by rfl) c.f_bool boot_bool rfl) pa_nil)))))))), ?_⟩
    try dsimp only [cxOf, Cx.nox, Cx.wish]
    obtain ⟨v, wh, rfl, hv, q⟩ := h
    cases wh with
    | some n =>
      cases hv
      repeat walk_at "w"
      exact q
    | none =>
      rcases hv with ⟨z, rfl⟩ | ⟨t, ho, ht⟩
      · repeat walk_at "w"
        exact q
      · rcases ho with rfl | rfl | rfl | rfl | rfl
        · repeat walk_at "w"
          refine w_isi (b := true) ht (by decide +kernel) ?_
          repeat walk_at "w"
          refine w_isi (b := true) ht (by decide +kernel) ?_
          repeat walk_at "w"
          exact q
        all_goals
          repeat walk_at "w"
          refine w_isi (b := false) ht (by decide +kernel) ?_
          repeat walk_at "w"
          exact q
theorem ok_is_within [c : Facts K mg] (G_is_whole : Fn P w K mg "is_whole" 1 ["thing"] ((spWhole K))) : Fn P w K mg "is_within" 2 ["thing", "low", "high"] ((spWithin K)) := by
  obtain ⟨fd, F⟩ := c.d_is_within
  refine Fn.mk' F c.g_is_within sc_is_within (k := 1) (fun vs H Q E h => ?_) (fun _ _ _ _ _ _ us hl => match us, hl with | [_, _, _], _ => rfl) (fun base cdv A outer s H vs Q E hr h => ?_)
  · exact len_is_within h
  · have nd := sc_is_within.nd
    have hu := hu_of hr
    have hr_is_whole : Room 1 _ := hr.mono (by omega)
    refine ⟨_, (pss_one (ps_ret (pe_and (pe_fn G_is_whole hr_is_whole (by rfl) (pa_cons (pv 0) pa_nil)) (pe_one (pe_chain op_le op_le (pv 1) (pv 0) (pv 2)))))), ?_⟩
    try dsimp only [cxOf, Cx.nox, Cx.wish]
    obtain ⟨v, wh, lo, hi, rfl, hv, q⟩ := h
    repeat walk_at "w"
    refine ⟨v, wh, rfl, hv, ?_⟩
    cases wh with
    | some n =>
      cases hv
      repeat walk_at "w"
      refine ite2 (fun _ => ?_) (fun h => (h rfl).elim)
      repeat walk_at "w"
      refine ite2 (fun h1 => ?_) (fun h1 => ?_)
      · rw [decide_eq_true_eq] at h1
        repeat walk_at "w"
        rw [show inB (some n) lo hi = decide (n ≤ hi) by unfold inB; simp [h1]] at q
        exact q
      · rw [decide_eq_true_eq] at h1
        rw [show inB (some n) lo hi = false by unfold inB; simp [h1]] at q
        exact q
    | none =>
      repeat walk_at "w"
      exact q
end

end J
namespace J
open PySem PySem.Spec PyProof.Rows L2
local macro_rules | `(tactic| walk_at "cls") => `(tactic| first
  | with_reducible exact Facts.cl_Parts
  | with_reducible exact Facts.cl_Order)
local macro_rules | `(tactic| walk_at "na") => `(tactic| first
  | with_reducible exact Facts.na_Parts_rows
  | with_reducible exact Facts.na_Order_parts
  | with_reducible exact Facts.na_Order_order
  | with_reducible exact Facts.na_Order_needed)
local macro_rules | `(tactic| walk_at "ty") => `(tactic| first
  | with_reducible exact ty_int
  | with_reducible exact ty_bl
  | with_reducible exact ty_str
  | with_reducible exact ty_non
  | ((with_reducible refine' ty_lst ?vv); (case vv => walk_at "tr"))
  | ((with_reducible refine' ty_sqT ?vv); (case vv => walk_at "tr"))
  | ((with_reducible refine' ty_dic ?vv); (case vv => walk_at "tr")))
local macro_rules | `(tactic| walk_at "ix") => `(tactic| first | exact at0 | exact at1 | exact at2 | assumption)
local macro_rules | `(tactic| walk_at "size") => `(tactic| first
  | assumption
  | (show _ < sizeLine; rw [sizeLine_eq]; (try simp only [List.length_cons, List.length_nil, List.length_append, List.length_map]); omega)
  | (show _ ≤ sizeLine; rw [sizeLine_eq]; (try simp only [List.length_cons, List.length_nil, List.length_append, List.length_map]); omega))
local macro_rules | `(tactic| walk_at "side") => `(tactic| first
  | assumption
  | ((with_reducible refine cdw ?_ ?_) <;> omega)
  | omega
  | (exact ⟨by omega, by omega⟩)
  | (exact Or.inl ⟨by omega, by omega⟩)
  | (exact Or.inr ⟨by omega, by omega⟩)
  | decide
  | (simp only [List.length_cons, List.length_nil, List.length_append, List.length_map]; omega)
  | (show _ ≤ _; decide))
local macro_rules | `(tactic| walk_at "as") => `(tactic| with_reducible assumption)
local macro_rules | `(tactic| walk_at "tr") => `(tactic| first
  | with_reducible assumption
  | with_reducible exact upd_same
  | ((with_reducible refine' SqL.of ?hh); (case hh => walk_at "as"))
  | ((with_reducible refine' SqT.of ?hh); (case hh => walk_at "as"))
  | ((with_reducible refine' Same.stm ?ee ?gg); (case ee => walk_at "as"); (case gg => walk_at "tr"))
  | ((with_reducible refine' Same.sqT ?ee ?gg); (case ee => walk_at "as"); (case gg => walk_at "tr"))
  | ((with_reducible refine' Same.sqL ?ee ?gg); (case ee => walk_at "as"); (case gg => walk_at "tr"))
  | ((with_reducible refine' Same.at ?ee ?gg); (case ee => walk_at "as"); (case gg => walk_at "tr"))
  | ((with_reducible refine' But.stm ?ee ?ff ?gg); (case ee => walk_at "as"); (case ff => walk_at "ne"); (case gg => walk_at "tr"))
  | ((with_reducible refine' But.tup ?ee ?ff ?gg); (case ee => walk_at "as"); (case ff => walk_at "tr1"); (case gg => walk_at "tr"))
  | ((with_reducible refine' But.sqT ?ee ?ff ?gg); (case ee => walk_at "as"); (case ff => walk_at "tr1"); (case gg => walk_at "tr"))
  | ((with_reducible refine' But.tupL ?ee ?ff ?gg); (case ee => walk_at "as"); (case ff => walk_at "tr1"); (case gg => walk_at "tr"))
  | ((with_reducible refine' But.sqTL ?ee ?ff ?gg); (case ee => walk_at "as"); (case ff => walk_at "tr1"); (case gg => walk_at "tr"))
  | ((with_reducible refine' But.sqL ?ee ?ff ?gg); (case ee => walk_at "as"); (case ff => walk_at "ne"); (case gg => walk_at "tr"))
  | ((with_reducible refine' But.at ?ee ?ff ?gg); (case ee => walk_at "as"); (case ff => walk_at "ne"); (case gg => walk_at "tr")))
local macro_rules | `(tactic| walk_at "ts") => `(tactic| first
  | with_reducible assumption
  | with_reducible exact TS.refl _
  | ((with_reducible refine' TS.trans ?gg (TS.of ?ee)); (case ee => walk_at "as"); (case gg => walk_at "ts"))
  | ((with_reducible refine' TS.trans ?gg (TS.butS ?ee ?ff)); (case ee => walk_at "as"); (case ff => walk_at "tr1"); (case gg => walk_at "ts"))
  | ((with_reducible refine' TS.trans ?gg (TS.butL ?ee ?ff)); (case ee => walk_at "as"); (case ff => walk_at "tr1"); (case gg => walk_at "ts"))
  | ((with_reducible refine' TS.trans ?gg (TS.butI ?ee ?ff)); (case ee => walk_at "as"); (case ff => walk_at "tr1"); (case gg => walk_at "ts")))
local macro_rules | `(tactic| walk_at "sm") => `(tactic| first
  | with_reducible assumption
  | with_reducible exact Same.refl _
  | ((with_reducible refine' Same.trans ?gg ?ee); (case ee => walk_at "as"); (case gg => walk_at "sm"))
  | ((with_reducible refine' But.new ?gg ?nn ?ee); (case ee => walk_at "as"); (case nn => walk_at "fr"); (case gg => walk_at "sm")))
local macro_rules | `(tactic| walk_at "fr") => `(tactic| first
  | with_reducible assumption
  | ((with_reducible refine' Same.back ?ee ?nn); (case nn => walk_at "as"); (case ee => walk_at "sm"))
  | ((with_reducible refine' But.back ?ee ?ff ?nn); (case nn => walk_at "as"); (case ff => walk_at "ne0"); (case ee => walk_at "bu")))
local macro_rules | `(tactic| walk_at "bu") => `(tactic| first
  | with_reducible assumption
  | with_reducible exact But.refl _ _
  | ((with_reducible refine' But.trans ?gg ?ee); (case ee => walk_at "as"); (case gg => walk_at "bu"))
  | ((with_reducible refine' But.trans ?gg (But.of ?ee)); (case ee => walk_at "as"); (case gg => walk_at "bu"))
  | ((with_reducible refine' But.new2 ?gg ?nn ?ee); (case ee => walk_at "as"); (case nn => walk_at "frB"); (case gg => walk_at "bu")))
local macro_rules | `(tactic| walk_at "frB") => `(tactic| first
  | with_reducible assumption
  | ((with_reducible refine' Same.back ?ee ?nn); (case nn => walk_at "as"); (case ee => walk_at "sm"))
  | ((with_reducible refine' But.back' ?ee ?ff ?nn); (case nn => walk_at "as"); (case ee => walk_at "bu"); (case ff => walk_at "tr1")))
local macro_rules | `(tactic| walk_at "tr1") => `(tactic| first
  | with_reducible assumption
  | ((with_reducible refine' Same.stm ?ee ?gg); (case ee => walk_at "as"); (case gg => walk_at "tr1"))
  | ((with_reducible refine' Same.at ?ee ?gg); (case ee => walk_at "as"); (case gg => walk_at "tr1"))
  | ((with_reducible refine' But.at ?ee ?ff ?gg); (case ee => walk_at "as"); (case ff => walk_at "ne0"); (case gg => walk_at "tr1"))
  | ((with_reducible refine' But.stm ?ee ?ff ?gg); (case ee => walk_at "as"); (case ff => walk_at "ne0"); (case gg => walk_at "tr1")))
local macro_rules | `(tactic| walk_at "ne0") => `(tactic| first
  | with_reducible assumption
  | (with_reducible apply Ne.symm; with_reducible assumption))
local macro_rules | `(tactic| walk_at "ne") => `(tactic| first
  | with_reducible assumption
  | (with_reducible apply Ne.symm; with_reducible assumption)
  | ((with_reducible refine' stm_ne ?hh ?nn); (case nn => walk_at "as"); (case hh => walk_at "tr1"))
  | ((with_reducible refine' ne_of_none ?hh ?nn); (case nn => walk_at "as"); (case hh => walk_at "tr1"))
  | ((with_reducible apply Ne.symm); (with_reducible refine' ne_of_none ?hh ?nn); (case nn => walk_at "as"); (case hh => walk_at "tr1")))
local macro_rules | `(tactic| walk_at "v") => `(tactic| first
  | with_reducible refine w_seq ?_
  | ((with_reducible refine' w_var ?vv ?_); (case vv => exact rfl))
  | with_reducible refine w_c ?_
  | with_reducible refine w_op ?_
  | with_reducible refine w_asg ?_
  | with_reducible refine w_gName ?_
  | with_reducible refine w_ret ?_
  | with_reducible refine w_ifS ?_
  | with_reducible refine w_drop ?_
  | with_reducible refine w_next ?_
  | with_reducible refine w_cons ?_
  | with_reducible refine w_nil ?_
  | with_reducible refine w_call ?_
  | with_reducible refine w_cb ?_
  | with_reducible refine w_rI0 ?_
  | with_reducible refine w_addI ?_
  | with_reducible refine w_eqI ?_
  | with_reducible refine w_neI ?_
  | with_reducible refine w_eqS ?_
  | with_reducible refine w_neS ?_
  | with_reducible refine w_eqB ?_
  | with_reducible refine w_neB ?_
  | with_reducible refine w_chain ?_
  | with_reducible refine w_test ?_
  | with_reducible refine w_tB ?_
  | with_reducible refine w_bl ?_
  | ((with_reducible refine' w_mulI ?vv ?_); (case vv => walk_at "side"))
  | ((with_reducible refine' w_rI ?vv ?_); (case vv => walk_at "side"))
  | with_reducible refine w_int1 ?_
  | with_reducible refine w_int1b ?_
  | with_reducible refine w_tup ?_
  | with_reducible refine w_lst ?_
  | with_reducible refine w_un ?_
  | with_reducible refine w_rU ?_
  | with_reducible refine w_not ?_
  | with_reducible refine w_notV ?_
  | with_reducible refine w_ifE ?_
  | with_reducible refine w_nT ?_
  | with_reducible refine w_nF ?_
  | with_reducible refine iteT ?_
  | with_reducible refine iteF ?_
  | ((with_reducible refine' w_ixT ?vv ?ww ?_); (case vv => walk_at "tr"); (case ww => walk_at "ix"))
  | ((with_reducible refine' w_ixL ?vv ?ww ?_); (case vv => walk_at "tr"); (case ww => walk_at "ix"))
  | with_reducible refine w_gSub ?_
  | ((with_reducible refine' w_setL ?vv ?ww ?_); (case vv => walk_at "tr"); (case ww => first | rfl | decide | assumption))
  | ((with_reducible refine' w_lenL ?vv ?_); (case vv => walk_at "tr"))
  | ((with_reducible refine' w_lenT ?vv ?_); (case vv => walk_at "tr"))
  | with_reducible refine w_max2 ?_
  | with_reducible refine w_max3 ?_
  | with_reducible refine w_din ?_
  | with_reducible refine w_dnotin ?_
  | with_reducible refine w_dput ?_
  | with_reducible refine w_min2 ?_
  | with_reducible refine w_bm ?_
  | with_reducible refine w_bm0 ?_
  | ((with_reducible refine' w_tyL ?vv ?_); (case vv => walk_at "tr"))
  | ((with_reducible refine' w_append ?vv ?ww ?_); (case vv => walk_at "tr"); (case ww => walk_at "size"))
  | ((with_reducible refine' w_size ?vv ?_); (case vv => walk_at "size"))
  | with_reducible refine w_forL ?_
  | with_reducible refine w_forT ?_
  | with_reducible refine w_forR1 ?_
  | with_reducible refine w_forR2 ?_
  | with_reducible refine w_lcL ?_
  | with_reducible refine w_lcT ?_
  | with_reducible refine w_lcR1 ?_
  | with_reducible refine w_yes ?_
  | with_reducible refine w_sl ?_
  | with_reducible refine w_noPart ?_
  | with_reducible refine w_part ?_
  | with_reducible refine w_int ?_
  | ((with_reducible refine' w_slL ?vv ?_); (case vv => walk_at "tr"))
  | ((with_reducible refine' w_seqL ?vv ?ww ?_); (case vv => walk_at "tr"); (case ww => rfl))
  | ((with_reducible refine' w_seqT ?vv ?ww ?_); (case vv => walk_at "tr"); (case ww => rfl))
  | with_reducible refine w_gNil ?_
  | with_reducible refine w_gCons ?_
  | with_reducible refine w_forZ ?_
  | with_reducible refine w_forM ?_
  | with_reducible refine w_forE ?_
  | with_reducible refine w_forV ?_
  | with_reducible refine w_lcZ ?_
  | with_reducible refine w_lcE ?_
  | ((with_reducible refine' w_isi (b := true) ?vv ?ww ?_); (case vv => walk_at "ty"); (case ww => decide +kernel))
  | ((with_reducible refine' w_isi (b := false) ?vv ?ww ?_); (case vv => walk_at "ty"); (case ww => decide +kernel))
  | with_reducible refine w_revL ?_
  | with_reducible refine w_pairN ?_
  | with_reducible refine w_pairC ?_
  | with_reducible refine w_dget ?_
  | with_reducible refine w_met ?_
  | ((with_reducible refine' w_metAt ?vv ?ww ?_); (case vv => walk_at "tr"); (case ww => rfl))
  | with_reducible refine w_mkI ?_
  | with_reducible refine w_fld ?_
  | ((with_reducible refine' w_fldAt ?vv ?cc ?nn ?ww ?_); (case vv => walk_at "tr"); (case cc => walk_at "cls"); (case nn => walk_at "na"); (case ww => rfl))
  | with_reducible refine w_sfld ?_
  | ((with_reducible refine' w_sfldAt ?vv ?cc ?nn ?ll ?ee ?_); (case vv => walk_at "tr"); (case cc => walk_at "cls"); (case nn => walk_at "na"); (case ll => simp); (case ee => rfl))
  | ((with_reducible refine' w_tupL ?vv ?_); (case vv => walk_at "tr"))
  | ((with_reducible refine' w_tupT ?vv ?_); (case vv => walk_at "tr"))
  | ((with_reducible refine' w_listL ?vv ?_); (case vv => walk_at "tr"))
  | ((with_reducible refine' w_listT ?vv ?_); (case vv => walk_at "tr"))
  | with_reducible refine w_tyS ?_
  | with_reducible refine w_retN ?_
  | with_reducible refine w_break ?_
  | with_reducible refine w_cont ?_)
local macro_rules | `(tactic| walk_at "w") => `(tactic| first
  | walk_at "v"
  | with_reducible refine w_or ?_
  | with_reducible refine w_and ?_
  | with_reducible refine w_andV ?_
  | with_reducible refine w_orV ?_)
local macro_rules | `(tactic| walk_at "wd") => `(tactic| first
  | walk_at "w"
  | ((with_reducible refine' w_decT ?vv ?_); (case vv => decide +kernel))
  | ((with_reducible refine' w_decF ?vv ?_); (case vv => decide +kernel)))
local macro_rules | `(tactic| walk_at "tz") => `(tactic| (intro S z; (repeat walk_at "w"); exact z))
local macro_rules | `(tactic| walk_at "wf") => `(tactic| first
  | walk_at "wd"
  | ((with_reducible refine' w_decF ?vv ?_); (case vv => with_reducible assumption)))
/-! ### drawn expressions and sets -/
def spE (K : PySem.W.Frag) (n : Nat) : Sp := fun vs H Q _ => ∃ (s : Addr) (k : Int), vs = [.ref s, .int k] ∧ Stm H s ∧ k ≤ n ∧ 1 ≤ n ∧ ∀ v e H', Dp K H' v (Exp.d e) → OkE n e → Stm H' s → But s H H' → Q v H'
theorem len_law_e {K : PySem.W.Frag} {n : Nat} {vs H Q E} (h : spE K n vs H Q E) : vs.length = 2 := by obtain ⟨_, _, rfl, _⟩ := h; rfl
theorem no_law_e {K : PySem.W.Frag} {vs H Q E} (h : spE K 0 vs H Q E) : False := by obtain ⟨_, _, _, _, _, h, _⟩ := h; omega
theorem dp_pair {K : PySem.W.Frag} {H : Hp} {p : Addr} {k : Str} {n : Int} (h : SqT K H p [.str k, .int n]) : Dp K H (.ref p) (selD k n) := .tup h (.cons (.str k) (.cons (.int n) .nil))
theorem op_at {i : Int} {H : Hp} {Q : VK} {K : PySem.W.Frag} {p : Addr} (h : SqL K H p [.str "+", .str "-", .str "&", .str "|", .str "^", .str "<<", .str ">>", .str "<", .str "="]) (h0 : 0 ≤ i) (h1 : i < 9) (k : ∀ o, OpS o → Q (.str o) H) : rIx K (.ref p) (.int i) H Q := by
  have c : i = 0 ∨ i = 1 ∨ i = 2 ∨ i = 3 ∨ i = 4 ∨ i = 5 ∨ i = 6 ∨ i = 7 ∨ i = 8 := by omega
  rcases c with rfl | rfl | rfl | rfl | rfl | rfl | rfl | rfl | rfl <;> exact w_ixL h (atI_of (by decide) rfl) (k _ (by unfold OpS; simp))
theorem sel_at {i x y : Int} {H : Hp} {Q : VK} {K : PySem.W.Frag} {p a b : Addr} (h : SqL K H p [.ref a, .ref b]) (ha : SqT K H a [.str "is", .int x]) (hb : SqT K H b [.str "by", .int y]) (h0 : 0 ≤ i) (h1 : i < 2)
    (k : ∀ q k n, SelS k → SqT K H q [.str k, .int n] → Q (.ref q) H) : rIx K (.ref p) (.int i) H Q := by
  have c : i = 0 ∨ i = 1 := by omega
  rcases c with rfl | rfl
  · exact w_ixL h at0 (k _ _ _ (.inl rfl) ha)
  · exact w_ixL h at1 (k _ _ _ (.inr rfl) hb)
theorem num_at {i : Int} {H : Hp} {Q : VK} {K : PySem.W.Frag} {p : Addr} (h : SqL K H p [.int 4, .int (2 ^ (24 : Int).toNat)]) (h0 : 0 ≤ i) (h1 : i < 2) (k : ∀ m : Int, 0 < m → m < 2 ^ 200 → Q (.int m) H) : rIx K (.ref p) (.int i) H Q := by
  have c : i = 0 ∨ i = 1 := by omega
  rcases c with rfl | rfl
  · exact w_ixL h at0 (k _ (by decide) (by decide))
  · exact w_ixL h at1 (k _ (by decide) (by decide))
theorem leaf_at {i m f n : Int} {k : Str} {H : Hp} {Q : VK} {K : PySem.W.Frag} {p a b c d e s : Addr} (h : SqL K H p [.ref a, .ref b, .ref c, .ref d, .ref e]) (ha : SqT K H a [.str "number", .int m]) (hb : SqT K H b [.str "field", .int f])
    (hc : SqT K H c [.str "place", .ref s]) (hd : SqT K H d [.str "mark", .ref s]) (he : SqT K H e [.str "place", .ref s]) (hs : SqT K H s [.str k, .int n]) (ks : SelS k) (h0 : 0 ≤ i) (h1 : i < 5)
    (q : ∀ v e, Dp K H v (Exp.d e) → OkE 1 e → Q v H) : rIx K (.ref p) (.int i) H Q := by
  have z : i = 0 ∨ i = 1 ∨ i = 2 ∨ i = 3 ∨ i = 4 := by omega
  rcases z with rfl | rfl | rfl | rfl | rfl
  · exact w_ixL h at0 (q _ (.num m) (.tup ha (.cons (.str _) (.cons (.int _) .nil))) ⟨Nat.le_refl 1, trivial⟩)
  · exact w_ixL h at1 (q _ (.fld f) (.tup hb (.cons (.str _) (.cons (.int _) .nil))) ⟨Nat.le_refl 1, trivial⟩)
  · exact w_ixL h at2 (q _ (.plc k n) (.tup hc (.cons (.str _) (.cons (dp_pair hs) .nil))) ⟨Nat.le_refl 1, ks⟩)
  · exact w_ixL h (atI_of (by decide) rfl) (q _ (.mrk k n) (.tup hd (.cons (.str _) (.cons (dp_pair hs) .nil))) ⟨Nat.le_refl 1, ks⟩)
  · exact w_ixL h (atI_of (by decide) rfl) (q _ (.plc k n) (.tup he (.cons (.str _) (.cons (dp_pair hs) .nil))) ⟨Nat.le_refl 1, ks⟩)
theorem Exp.ts {K : PySem.W.Frag} {H H' : Hp} {e : Exp} {v : V} (t : TS H H') (h : Dp K H v e.d) : Dp K H' v e.d := dp_ts t _ _ e.tup h
section
variable {P : Program} {w : World} {K : PySem.W.Frag} {mg : Str → Option Value}
theorem ok_law_e [c : Facts K mg] (G__law_take : Fn P w K mg "_law_take" 1 ["stream", "many"] (spTake)) : ∀ n : Nat, Fn P w K mg "_law_e" (n + 2) ["stream", "deep"] ((spE K n))
  | 0 => by
    obtain ⟨fd, F⟩ := c.d_law_e
    exact Fn.mk' (k := 1) F c.g_law_e sc_law_e (fun vs H Q E h => (no_law_e h).elim) (fun _ _ _ _ _ _ us hl => match us, hl with | [_, _], _ => rfl) (fun base cdv A outer s H vs Q E hr h => (no_law_e h).elim)
  | n + 1 => by
    have G__law_e := ok_law_e G__law_take n
    obtain ⟨fd, F⟩ := c.d_law_e
    refine Fn.mk' F c.g_law_e sc_law_e (k := n + 2) (fun vs H Q E h => ?_) (fun _ _ _ _ _ _ us hl => match us, hl with | [_, _], _ => rfl) (fun base cdv A outer s H vs Q E hr h => ?_)
    · exact len_law_e h
    · have nd := sc_law_e.nd
      have hu := hu_of hr
      have hr__law_e : Room (n + 2) _ := hr.mono (by omega)
      have hr__law_take : Room 1 _ := hr.mono (by omega)
      refine ⟨_, (pss_cons (ps_set (i := 2) nd rfl (Or.inl rfl) (pe_fn G__law_take hr__law_take (by rfl) (pa_cons (pv 0) (pa_cons pe_int pa_nil))))
      (pss_cons (ps_if (PW.pt (pw_or (pt_cmpR op_lt (pv 1) pe_int (nomark _)) (pw_or1 (pt_cmpR op_lt (pv 2) pe_int (nomark _))))) (pss_cons (ps_set (i := 3) nd rfl (Or.inl rfl) (pe_ix (ix_any (K := K) rfl) (pe_lst (pa_cons (pe_tup (pa_cons pe_str (pa_cons (pe_fn G__law_take hr__law_take (by rfl) (pa_cons (pv 0) (pa_cons pe_int pa_nil))) pa_nil))) (pa_cons (pe_tup (pa_cons pe_str (pa_cons (pe_fn G__law_take hr__law_take (by rfl) (pa_cons (pv 0) (pa_cons pe_int pa_nil))) pa_nil))) pa_nil))) (pe_fn G__law_take hr__law_take (by rfl) (pa_cons (pv 0) (pa_cons pe_int pa_nil))) (fun _ _ => rfl)))
      (pss_cons (ps_set (i := 4) nd rfl (Or.inl rfl) (pe_tup (pa_cons pe_str (pa_cons (pe_fn G__law_take hr__law_take (by rfl) (pa_cons (pv 0) (pa_cons (pe_ix (ix_any (K := K) rfl) (pe_lst (pa_cons pe_int (pa_cons (pe_op op_pow pe_int pe_int) pa_nil))) (pe_fn G__law_take hr__law_take (by rfl) (pa_cons (pv 0) (pa_cons pe_int pa_nil))) (fun _ _ => rfl)) pa_nil))) pa_nil))))
      (pss_cons (ps_set (i := 5) nd rfl (Or.inl rfl) (pe_tup (pa_cons pe_str (pa_cons (pe_fn G__law_take hr__law_take (by rfl) (pa_cons (pv 0) (pa_cons pe_int pa_nil))) pa_nil))))
      (pss_one (ps_ret (pe_ix (ix_any (K := K) rfl) (pe_lst (pa_cons (pv 4) (pa_cons (pv 5) (pa_cons (pe_tup (pa_cons pe_str (pa_cons (pv 3) pa_nil))) (pa_cons (pe_tup (pa_cons pe_str (pa_cons (pv 3) pa_nil))) (pa_cons (pe_tup (pa_cons pe_str (pa_cons (pv 3) pa_nil))) pa_nil)))))) (pe_fn G__law_take hr__law_take (by rfl) (pa_cons (pv 0) (pa_cons pe_int pa_nil))) (fun _ _ => rfl))))))) pss_nil)
      (pss_cons (ps_if (pt_cmpR (op_eqA (K := K) rfl hr.units) (pv 2) pe_int (nomark _)) (pss_one (ps_ret (pe_tup (pa_cons pe_str (pa_cons (pe_fn G__law_e hr__law_e (by rfl) (pa_cons (pv 0) (pa_cons (pe_op op_sub (pv 1) pe_int) pa_nil))) pa_nil))))) pss_nil)
      (pss_cons (ps_set (i := 6) nd rfl (Or.inl rfl) (pe_ix (ix_any (K := K) rfl) (pe_lst (pa_cons pe_str (pa_cons pe_str (pa_cons pe_str (pa_cons pe_str (pa_cons pe_str (pa_cons pe_str (pa_cons pe_str (pa_cons pe_str (pa_cons pe_str pa_nil)))))))))) (pe_fn G__law_take hr__law_take (by rfl) (pa_cons (pv 0) (pa_cons pe_int pa_nil))) (fun _ _ => rfl)))
      (pss_one (ps_ret (pe_tup (pa_cons (pv 6) (pa_cons (pe_fn G__law_e hr__law_e (by rfl) (pa_cons (pv 0) (pa_cons (pe_op op_sub (pv 1) pe_int) pa_nil))) (pa_cons (pe_fn G__law_e hr__law_e (by rfl) (pa_cons (pv 0) (pa_cons (pe_op op_sub (pv 1) pe_int) pa_nil))) pa_nil)))))))))), ?_⟩
      try dsimp only [cxOf, Cx.nox, Cx.wish]
      obtain ⟨s, k, rfl, hs, hk, hn, q⟩ := h
      repeat walk_at "w"
      refine ⟨s, 7, rfl, hs, by decide, by decide, fun way H1 w0 w1 hs1 e1 => ?_⟩
      repeat walk_at "v"
      refine w_orP (k < 2) (way < 3) (by walk_at "tz") (by walk_at "tz") (fun b hb => ?_)
      refine ite2 (fun hk => ?_) (fun hk => ?_)
      · repeat walk_at "w"
        refine ⟨s, 4, rfl, hs1, by decide, by decide, fun x H2 x0 x1 hs2 e2 => ?_⟩
        repeat walk_at "w"
        refine w_new fun p3 H3 n3 s3 f3 => ?_
        have hs3 : Stm H3 s := s3.stm hs2
        repeat walk_at "w"
        refine ⟨s, 3, rfl, hs3, by decide, by decide, fun y H4 y0 y1 hs4 e4 => ?_⟩
        repeat walk_at "w"
        refine w_new fun p5 H5 n5 s5 f5 => ?_
        repeat walk_at "w"
        refine w_new fun p6 H6 n6 s6 f6 => ?_
        have hs6 : Stm H6 s := s6.stm (s5.stm hs4)
        repeat walk_at "w"
        refine ⟨s, 2, rfl, hs6, by decide, by decide, fun z H7 z0 z1 hs7 e7 => ?_⟩
        have t35 : TS H3 H5 := (TS.butS e4 hs3).trans (TS.of s5)
        have t57 : TS H5 H7 := (TS.of s6).trans (TS.butS e7 hs6)
        refine sel_at (SqL.of (e7.at (fun q => by rw [q] at f6; obtain ⟨_, _, _, g⟩ := hs6; rw [f6] at g; cases g) f6)) ((t35.trans t57).sqT (SqT.of f3)) (t57.sqT (SqT.of f5)) z0 z1 fun sl kk nn ks hsl => ?_
        repeat walk_at "w"
        refine w_new fun p8 H8 n8 s8 f8 => ?_
        have hs8 : Stm H8 s := s8.stm hs7
        repeat walk_at "w"
        refine ⟨s, 2, rfl, hs8, by decide, by decide, fun z2 H9 z20 z21 hs9 e9 => ?_⟩
        repeat walk_at "w"
        refine num_at (by walk_at "tr") z20 z21 fun m m0 m1 => ?_
        repeat walk_at "w"
        refine ⟨s, m, rfl, hs9, m0, m1, fun nb H10 _ _ hs10 e10 => ?_⟩
        repeat walk_at "w"
        refine w_new fun p11 H11 n11 s11 f11 => ?_
        have hs11 : Stm H11 s := s11.stm hs10
        repeat walk_at "w"
        refine ⟨s, 3, rfl, hs11, by decide, by decide, fun fd H12 _ _ hs12 e12 => ?_⟩
        repeat walk_at "w"
        refine w_new fun p13 H13 n13 s13 f13 => ?_
        repeat walk_at "w"
        refine w_new fun p14 H14 n14 s14 f14 => ?_
        repeat walk_at "w"
        refine w_new fun p15 H15 n15 s15 f15 => ?_
        repeat walk_at "w"
        refine w_new fun p16 H16 n16 s16 f16 => ?_
        repeat walk_at "w"
        refine w_new fun p17 H17 n17 s17 f17 => ?_
        have hs17 : Stm H17 s := s17.stm (s16.stm (s15.stm (s14.stm (s13.stm hs12))))
        repeat walk_at "w"
        refine ⟨s, 5, rfl, hs17, by decide, by decide, fun lf H18 l0 l1 hs18 e18 => ?_⟩
        refine leaf_at (k := kk) (n := nn) (by walk_at "tr") (by walk_at "tr") (by walk_at "tr") (by walk_at "tr") (by walk_at "tr") (by walk_at "tr") (by walk_at "tr") ks l0 l1 fun v e de oe => ?_
        exact q v e H18 de (oe.mono hn) hs18 (by walk_at "bu")
      · have hw : ¬ (k < 2) := fun z => hk (hb.mpr (.inl z))
        repeat walk_at "w"
        refine ite2 (fun hk3 => ?_) (fun hk3 => ?_)
        · repeat walk_at "w"
          refine ⟨s, _, rfl, hs1, by omega, by omega, fun v e H2 de oe hs2 e2 => ?_⟩
          repeat walk_at "w"
          refine w_new fun p3 H3 n3 s3 f3 => ?_
          exact q _ (.cell e) H3 (.tup (SqT.of f3) (.cons (.str _) (.cons (Exp.ts (TS.of s3) de) .nil))) ⟨Nat.succ_le_succ oe.1, oe.2⟩ (s3.stm hs2) (by walk_at "bu")
        · repeat walk_at "w"
          refine w_new fun p2 H2 n2 s2 f2 => ?_
          have hs2 : Stm H2 s := s2.stm hs1
          repeat walk_at "w"
          refine ⟨s, 9, rfl, hs2, by decide, by decide, fun ow H3 o0 o1 hs3 e3 => ?_⟩
          refine op_at (by walk_at "tr") o0 o1 fun o ho => ?_
          repeat walk_at "w"
          refine ⟨s, _, rfl, hs3, by omega, by omega, fun v e H4 de oe hs4 e4 => ?_⟩
          repeat walk_at "w"
          refine ⟨s, _, rfl, hs4, by omega, by omega, fun v2 f H5 df of hs5 e5 => ?_⟩
          repeat walk_at "w"
          refine w_new fun p6 H6 n6 s6 f6 => ?_
          exact q _ (.two o e f) H6 (.tup (SqT.of f6) (.cons (.str _) (.cons (Exp.ts ((TS.butS e5 hs4).trans (TS.of s6)) de) (.cons (Exp.ts (TS.of s6) df) .nil))))
            ⟨Nat.succ_le_succ (Nat.max_le.mpr ⟨oe.1, of.1⟩), ho, oe.2, of.2⟩ (s6.stm hs5) (by walk_at "bu")
end

end J
namespace J
open PySem PySem.Spec PyProof.Rows L2
local macro_rules | `(tactic| walk_at "cls") => `(tactic| first
  | with_reducible exact Facts.cl_Parts
  | with_reducible exact Facts.cl_Order)
local macro_rules | `(tactic| walk_at "na") => `(tactic| first
  | with_reducible exact Facts.na_Parts_rows
  | with_reducible exact Facts.na_Order_parts
  | with_reducible exact Facts.na_Order_order
  | with_reducible exact Facts.na_Order_needed)
local macro_rules | `(tactic| walk_at "ty") => `(tactic| first
  | with_reducible exact ty_int
  | with_reducible exact ty_bl
  | with_reducible exact ty_str
  | with_reducible exact ty_non
  | ((with_reducible refine' ty_lst ?vv); (case vv => walk_at "tr"))
  | ((with_reducible refine' ty_sqT ?vv); (case vv => walk_at "tr"))
  | ((with_reducible refine' ty_dic ?vv); (case vv => walk_at "tr")))
local macro_rules | `(tactic| walk_at "ix") => `(tactic| first | exact at0 | exact at1 | exact at2 | assumption)
local macro_rules | `(tactic| walk_at "size") => `(tactic| first
  | assumption
  | (show _ < sizeLine; rw [sizeLine_eq]; (try simp only [List.length_cons, List.length_nil, List.length_append, List.length_map]); omega)
  | (show _ ≤ sizeLine; rw [sizeLine_eq]; (try simp only [List.length_cons, List.length_nil, List.length_append, List.length_map]); omega))
local macro_rules | `(tactic| walk_at "side") => `(tactic| first
  | assumption
  | ((with_reducible refine cdw ?_ ?_) <;> omega)
  | omega
  | (exact ⟨by omega, by omega⟩)
  | (exact Or.inl ⟨by omega, by omega⟩)
  | (exact Or.inr ⟨by omega, by omega⟩)
  | decide
  | (simp only [List.length_cons, List.length_nil, List.length_append, List.length_map]; omega)
  | (show _ ≤ _; decide))
local macro_rules | `(tactic| walk_at "as") => `(tactic| with_reducible assumption)
local macro_rules | `(tactic| walk_at "tr") => `(tactic| first
  | with_reducible assumption
  | with_reducible exact upd_same
  | ((with_reducible refine' SqL.of ?hh); (case hh => walk_at "as"))
  | ((with_reducible refine' SqT.of ?hh); (case hh => walk_at "as"))
  | ((with_reducible refine' Same.stm ?ee ?gg); (case ee => walk_at "as"); (case gg => walk_at "tr"))
  | ((with_reducible refine' Same.sqT ?ee ?gg); (case ee => walk_at "as"); (case gg => walk_at "tr"))
  | ((with_reducible refine' Same.sqL ?ee ?gg); (case ee => walk_at "as"); (case gg => walk_at "tr"))
  | ((with_reducible refine' Same.at ?ee ?gg); (case ee => walk_at "as"); (case gg => walk_at "tr"))
  | ((with_reducible refine' But.stm ?ee ?ff ?gg); (case ee => walk_at "as"); (case ff => walk_at "ne"); (case gg => walk_at "tr"))
  | ((with_reducible refine' But.tup ?ee ?ff ?gg); (case ee => walk_at "as"); (case ff => walk_at "tr1"); (case gg => walk_at "tr"))
  | ((with_reducible refine' But.sqT ?ee ?ff ?gg); (case ee => walk_at "as"); (case ff => walk_at "tr1"); (case gg => walk_at "tr"))
  | ((with_reducible refine' But.tupL ?ee ?ff ?gg); (case ee => walk_at "as"); (case ff => walk_at "tr1"); (case gg => walk_at "tr"))
  | ((with_reducible refine' But.sqTL ?ee ?ff ?gg); (case ee => walk_at "as"); (case ff => walk_at "tr1"); (case gg => walk_at "tr"))
  | ((with_reducible refine' But.sqL ?ee ?ff ?gg); (case ee => walk_at "as"); (case ff => walk_at "ne"); (case gg => walk_at "tr"))
  | ((with_reducible refine' But.at ?ee ?ff ?gg); (case ee => walk_at "as"); (case ff => walk_at "ne"); (case gg => walk_at "tr")))
local macro_rules | `(tactic| walk_at "ts") => `(tactic| first
  | with_reducible assumption
  | with_reducible exact TS.refl _
  | ((with_reducible refine' TS.trans ?gg (TS.of ?ee)); (case ee => walk_at "as"); (case gg => walk_at "ts"))
  | ((with_reducible refine' TS.trans ?gg (TS.butS ?ee ?ff)); (case ee => walk_at "as"); (case ff => walk_at "tr1"); (case gg => walk_at "ts"))
  | ((with_reducible refine' TS.trans ?gg (TS.butL ?ee ?ff)); (case ee => walk_at "as"); (case ff => walk_at "tr1"); (case gg => walk_at "ts"))
  | ((with_reducible refine' TS.trans ?gg (TS.butI ?ee ?ff)); (case ee => walk_at "as"); (case ff => walk_at "tr1"); (case gg => walk_at "ts")))
local macro_rules | `(tactic| walk_at "sm") => `(tactic| first
  | with_reducible assumption
  | with_reducible exact Same.refl _
  | ((with_reducible refine' Same.trans ?gg ?ee); (case ee => walk_at "as"); (case gg => walk_at "sm"))
  | ((with_reducible refine' But.new ?gg ?nn ?ee); (case ee => walk_at "as"); (case nn => walk_at "fr"); (case gg => walk_at "sm")))
local macro_rules | `(tactic| walk_at "fr") => `(tactic| first
  | with_reducible assumption
  | ((with_reducible refine' Same.back ?ee ?nn); (case nn => walk_at "as"); (case ee => walk_at "sm"))
  | ((with_reducible refine' But.back ?ee ?ff ?nn); (case nn => walk_at "as"); (case ff => walk_at "ne0"); (case ee => walk_at "bu")))
local macro_rules | `(tactic| walk_at "bu") => `(tactic| first
  | with_reducible assumption
  | with_reducible exact But.refl _ _
  | ((with_reducible refine' But.trans ?gg ?ee); (case ee => walk_at "as"); (case gg => walk_at "bu"))
  | ((with_reducible refine' But.trans ?gg (But.of ?ee)); (case ee => walk_at "as"); (case gg => walk_at "bu"))
  | ((with_reducible refine' But.new2 ?gg ?nn ?ee); (case ee => walk_at "as"); (case nn => walk_at "frB"); (case gg => walk_at "bu")))
local macro_rules | `(tactic| walk_at "frB") => `(tactic| first
  | with_reducible assumption
  | ((with_reducible refine' Same.back ?ee ?nn); (case nn => walk_at "as"); (case ee => walk_at "sm"))
  | ((with_reducible refine' But.back' ?ee ?ff ?nn); (case nn => walk_at "as"); (case ee => walk_at "bu"); (case ff => walk_at "tr1")))
local macro_rules | `(tactic| walk_at "tr1") => `(tactic| first
  | with_reducible assumption
  | ((with_reducible refine' Same.stm ?ee ?gg); (case ee => walk_at "as"); (case gg => walk_at "tr1"))
  | ((with_reducible refine' Same.at ?ee ?gg); (case ee => walk_at "as"); (case gg => walk_at "tr1"))
  | ((with_reducible refine' But.at ?ee ?ff ?gg); (case ee => walk_at "as"); (case ff => walk_at "ne0"); (case gg => walk_at "tr1"))
  | ((with_reducible refine' But.stm ?ee ?ff ?gg); (case ee => walk_at "as"); (case ff => walk_at "ne0"); (case gg => walk_at "tr1")))
local macro_rules | `(tactic| walk_at "ne0") => `(tactic| first
  | with_reducible assumption
  | (with_reducible apply Ne.symm; with_reducible assumption))
local macro_rules | `(tactic| walk_at "ne") => `(tactic| first
  | with_reducible assumption
  | (with_reducible apply Ne.symm; with_reducible assumption)
  | ((with_reducible refine' stm_ne ?hh ?nn); (case nn => walk_at "as"); (case hh => walk_at "tr1"))
  | ((with_reducible refine' ne_of_none ?hh ?nn); (case nn => walk_at "as"); (case hh => walk_at "tr1"))
  | ((with_reducible apply Ne.symm); (with_reducible refine' ne_of_none ?hh ?nn); (case nn => walk_at "as"); (case hh => walk_at "tr1")))
local macro_rules | `(tactic| walk_at "v") => `(tactic| first
  | with_reducible refine w_seq ?_
  | ((with_reducible refine' w_var ?vv ?_); (case vv => exact rfl))
  | with_reducible refine w_c ?_
  | with_reducible refine w_op ?_
  | with_reducible refine w_asg ?_
  | with_reducible refine w_gName ?_
  | with_reducible refine w_ret ?_
  | with_reducible refine w_ifS ?_
  | with_reducible refine w_drop ?_
  | with_reducible refine w_next ?_
  | with_reducible refine w_cons ?_
  | with_reducible refine w_nil ?_
  | with_reducible refine w_call ?_
  | with_reducible refine w_cb ?_
  | with_reducible refine w_rI0 ?_
  | with_reducible refine w_addI ?_
  | with_reducible refine w_eqI ?_
  | with_reducible refine w_neI ?_
  | with_reducible refine w_eqS ?_
  | with_reducible refine w_neS ?_
  | with_reducible refine w_eqB ?_
  | with_reducible refine w_neB ?_
  | with_reducible refine w_chain ?_
  | with_reducible refine w_test ?_
  | with_reducible refine w_tB ?_
  | with_reducible refine w_bl ?_
  | ((with_reducible refine' w_mulI ?vv ?_); (case vv => walk_at "side"))
  | ((with_reducible refine' w_rI ?vv ?_); (case vv => walk_at "side"))
  | with_reducible refine w_int1 ?_
  | with_reducible refine w_int1b ?_
  | with_reducible refine w_tup ?_
  | with_reducible refine w_lst ?_
  | with_reducible refine w_un ?_
  | with_reducible refine w_rU ?_
  | with_reducible refine w_not ?_
  | with_reducible refine w_notV ?_
  | with_reducible refine w_ifE ?_
  | with_reducible refine w_nT ?_
  | with_reducible refine w_nF ?_
  | with_reducible refine iteT ?_
  | with_reducible refine iteF ?_
  | ((with_reducible refine' w_ixT ?vv ?ww ?_); (case vv => walk_at "tr"); (case ww => walk_at "ix"))
  | ((with_reducible refine' w_ixL ?vv ?ww ?_); (case vv => walk_at "tr"); (case ww => walk_at "ix"))
  | with_reducible refine w_gSub ?_
  | ((with_reducible refine' w_setL ?vv ?ww ?_); (case vv => walk_at "tr"); (case ww => first | rfl | decide | assumption))
  | ((with_reducible refine' w_lenL ?vv ?_); (case vv => walk_at "tr"))
  | ((with_reducible refine' w_lenT ?vv ?_); (case vv => walk_at "tr"))
  | with_reducible refine w_max2 ?_
  | with_reducible refine w_max3 ?_
  | with_reducible refine w_din ?_
  | with_reducible refine w_dnotin ?_
  | with_reducible refine w_dput ?_
  | with_reducible refine w_min2 ?_
  | with_reducible refine w_bm ?_
  | with_reducible refine w_bm0 ?_
  | ((with_reducible refine' w_tyL ?vv ?_); (case vv => walk_at "tr"))
  | ((with_reducible refine' w_append ?vv ?ww ?_); (case vv => walk_at "tr"); (case ww => walk_at "size"))
  | ((with_reducible refine' w_size ?vv ?_); (case vv => walk_at "size"))
  | with_reducible refine w_forL ?_
  | with_reducible refine w_forT ?_
  | with_reducible refine w_forR1 ?_
  | with_reducible refine w_forR2 ?_
  | with_reducible refine w_lcL ?_
  | with_reducible refine w_lcT ?_
  | with_reducible refine w_lcR1 ?_
  | with_reducible refine w_yes ?_
  | with_reducible refine w_sl ?_
  | with_reducible refine w_noPart ?_
  | with_reducible refine w_part ?_
  | with_reducible refine w_int ?_
  | ((with_reducible refine' w_slL ?vv ?_); (case vv => walk_at "tr"))
  | ((with_reducible refine' w_seqL ?vv ?ww ?_); (case vv => walk_at "tr"); (case ww => rfl))
  | ((with_reducible refine' w_seqT ?vv ?ww ?_); (case vv => walk_at "tr"); (case ww => rfl))
  | with_reducible refine w_gNil ?_
  | with_reducible refine w_gCons ?_
  | with_reducible refine w_forZ ?_
  | with_reducible refine w_forM ?_
  | with_reducible refine w_forE ?_
  | with_reducible refine w_forV ?_
  | with_reducible refine w_lcZ ?_
  | with_reducible refine w_lcE ?_
  | ((with_reducible refine' w_isi (b := true) ?vv ?ww ?_); (case vv => walk_at "ty"); (case ww => decide +kernel))
  | ((with_reducible refine' w_isi (b := false) ?vv ?ww ?_); (case vv => walk_at "ty"); (case ww => decide +kernel))
  | with_reducible refine w_revL ?_
  | with_reducible refine w_pairN ?_
  | with_reducible refine w_pairC ?_
  | with_reducible refine w_dget ?_
  | with_reducible refine w_met ?_
  | ((with_reducible refine' w_metAt ?vv ?ww ?_); (case vv => walk_at "tr"); (case ww => rfl))
  | with_reducible refine w_mkI ?_
  | with_reducible refine w_fld ?_
  | ((with_reducible refine' w_fldAt ?vv ?cc ?nn ?ww ?_); (case vv => walk_at "tr"); (case cc => walk_at "cls"); (case nn => walk_at "na"); (case ww => rfl))
  | with_reducible refine w_sfld ?_
  | ((with_reducible refine' w_sfldAt ?vv ?cc ?nn ?ll ?ee ?_); (case vv => walk_at "tr"); (case cc => walk_at "cls"); (case nn => walk_at "na"); (case ll => simp); (case ee => rfl))
  | ((with_reducible refine' w_tupL ?vv ?_); (case vv => walk_at "tr"))
  | ((with_reducible refine' w_tupT ?vv ?_); (case vv => walk_at "tr"))
  | ((with_reducible refine' w_listL ?vv ?_); (case vv => walk_at "tr"))
  | ((with_reducible refine' w_listT ?vv ?_); (case vv => walk_at "tr"))
  | with_reducible refine w_tyS ?_
  | with_reducible refine w_retN ?_
  | with_reducible refine w_break ?_
  | with_reducible refine w_cont ?_)
local macro_rules | `(tactic| walk_at "w") => `(tactic| first
  | walk_at "v"
  | with_reducible refine w_or ?_
  | with_reducible refine w_and ?_
  | with_reducible refine w_andV ?_
  | with_reducible refine w_orV ?_)
local macro_rules | `(tactic| walk_at "wd") => `(tactic| first
  | walk_at "w"
  | ((with_reducible refine' w_decT ?vv ?_); (case vv => decide +kernel))
  | ((with_reducible refine' w_decF ?vv ?_); (case vv => decide +kernel)))
local macro_rules | `(tactic| walk_at "tz") => `(tactic| (intro S z; (repeat walk_at "w"); exact z))
local macro_rules | `(tactic| walk_at "wf") => `(tactic| first
  | walk_at "wd"
  | ((with_reducible refine' w_decF ?vv ?_); (case vv => with_reducible assumption)))
def spSets (K : PySem.W.Frag) : Sp := fun vs H Q _ => ∃ (s : Addr), vs = [.ref s] ∧ Stm H s ∧ ∀ v ss H', Dp K H' v (setsD ss) → ss.length ≤ 4 → (∀ x ∈ ss, OkS 4 x) → Stm H' s → But s H H' → Q v H'
theorem len_law_sets {K : PySem.W.Frag} {vs H Q E} (h : spSets K vs H Q E) : vs.length = 1 := by obtain ⟨_, rfl, _⟩ := h; rfl
theorem times_at {i : Int} {H : Hp} {Q : VK} {K : PySem.W.Frag} {p : Addr} (h : SqL K H p [.int 1, .int 2, .int 3, .int 4, .int 0]) (h0 : 0 ≤ i) (h1 : i < 5) (k : ∀ m : Int, 0 ≤ m → m ≤ 4 → Q (.int m) H) : rIx K (.ref p) (.int i) H Q := by
  have z : i = 0 ∨ i = 1 ∨ i = 2 ∨ i = 3 ∨ i = 4 := by omega
  rcases z with rfl | rfl | rfl | rfl | rfl
  · exact w_ixL h at0 (k _ (by decide) (by decide))
  · exact w_ixL h at1 (k _ (by decide) (by decide))
  · exact w_ixL h at2 (k _ (by decide) (by decide))
  · exact w_ixL h (atI_of (by decide) rfl) (k _ (by decide) (by decide))
  · exact w_ixL h (atI_of (by decide) rfl) (k _ (by decide) (by decide))
theorem kind_at {b : Bool} {H : Hp} {Q : VK} {K : PySem.W.Frag} {p : Addr} {x y : Str} (h : SqL K H p [.str x, .str y]) (k : Q (.str (if b = true then y else x)) H) : rIx K (.ref p) (.int (if b = true then 1 else 0)) H Q := by
  cases b
  · exact w_ixL h at0 k
  · exact w_ixL h at1 k
def SetE.kind : SetE → Str
  | .cell _ _ => "cell"
  | .sel m _ _ _ => if m then "mark" else "place"
theorem SetE.at0 {K : PySem.W.Frag} {H : Hp} {v : V} : ∀ {s : SetE}, Dp K H v s.d → ∃ p r, v = .ref p ∧ SqT K H p (.str s.kind :: r)
  | .cell a b, h => by
    obtain ⟨p, xs, rfl, hs, ha⟩ := dp_tup h
    obtain ⟨x, r, rfl, hx, _⟩ := dpa_cons ha
    rw [dp_str hx] at hs
    exact ⟨p, r, rfl, hs⟩
  | .sel _ _ _ _, h => by
    obtain ⟨p, xs, rfl, hs, ha⟩ := dp_tup h
    obtain ⟨x, r, rfl, hx, _⟩ := dpa_cons ha
    rw [dp_str hx] at hs
    exact ⟨p, r, rfl, hs⟩
/-- a list of drawn sets -/
def SL (K : PySem.W.Frag) (H : Hp) (p : Addr) (ss : List SetE) : Prop := ∃ xs, H p = some (.lst xs) ∧ DpAll K H xs (ss.map SetE.d) ∧ ∀ x ∈ ss, OkS 4 x
theorem SL.new {K : PySem.W.Frag} {H : Hp} {p : Addr} (h : H p = some (.lst [])) : SL K H p [] := ⟨[], h, .nil, fun _ q => (List.not_mem_nil q).elim⟩
theorem SL.len {K : PySem.W.Frag} {H : Hp} {p : Addr} {ss : List SetE} (h : SL K H p ss) : ∃ xs, H p = some (.lst xs) ∧ xs.length = ss.length := by
  obtain ⟨xs, h, d, _⟩ := h
  exact ⟨xs, h, by rw [dpa_len d, List.length_map]⟩
theorem SL.ts {K : PySem.W.Frag} {H H' : Hp} {p : Addr} {ss : List SetE} (h : SL K H p ss) (e : TS H H') (k : ∀ xs, H p = some (.lst xs) → H' p = some (.lst xs)) : SL K H' p ss := by
  obtain ⟨xs, h, d, o⟩ := h
  exact ⟨xs, k _ h, dpAll_ts e _ _ (setsD_tup ss) d, o⟩
section
variable {P : Program} {w : World} {K : PySem.W.Frag} {mg : Str → Option Value}
theorem ok_law_sets [c : Facts K mg] (G__law_e : Fn P w K mg "_law_e" 6 ["stream", "deep"] ((spE K 4))) (G__law_take : Fn P w K mg "_law_take" 1 ["stream", "many"] (spTake)) : Fn P w K mg "_law_sets" 7 ["stream"] ((spSets K)) := by
  obtain ⟨fd, F⟩ := c.d_law_sets
  refine Fn.mk' F c.g_law_sets sc_law_sets (k := 6) (fun vs H Q E h => ?_) (fun _ _ _ _ _ _ us hl => match us, hl with | [_], _ => rfl) (fun base cdv A outer s H vs Q E hr h => ?_)
  · exact len_law_sets h
  · have nd := sc_law_sets.nd
    have hu := hu_of hr
    have hr__law_e : Room 6 _ := hr.mono (by omega)
    have hr__law_take : Room 1 _ := hr.mono (by omega)
    refine ⟨_, (pss_cons (ps_set (i := 1) nd rfl (Or.inl rfl) (pe_lst pa_nil))
      (pss_cons (ps_set (i := 2) nd rfl (Or.inl rfl) (pe_op (op_addA (K := K) rfl) pe_int (pe_fn G__law_take hr__law_take (by rfl) (pa_cons (pv 0) (pa_cons pe_int pa_nil)))))
      (pss_cons (ps_for PassesOwn.never rfl (pi_range1 (by rfl) c.f_range (pa_cons (pe_ix (ix_any (K := K) rfl) (pe_lst (pa_cons pe_int (pa_cons pe_int (pa_cons pe_int (pa_cons pe_int (pa_cons pe_int pa_nil)))))) (pe_fn G__law_take hr__law_take (by rfl) (pa_cons (pv 0) (pa_cons pe_int pa_nil))) (fun _ _ => rfl)) pa_nil)) (pg_name (i := 3) nd rfl (Or.inl rfl)) (pss_cons (ps_set (i := 4) nd rfl (Or.inl rfl) (pe_fn G__law_take hr__law_take (by rfl) (pa_cons (pv 0) (pa_cons pe_int pa_nil))))
      (pss_cons (ps_set (i := 5) nd rfl (Or.inl rfl) (pe_ix (ix_any (K := K) rfl) (pe_lst (pa_cons (pe_tup (pa_cons pe_str (pa_cons (pe_fn G__law_take hr__law_take (by rfl) (pa_cons (pv 0) (pa_cons pe_int pa_nil))) pa_nil))) (pa_cons (pe_tup (pa_cons pe_str (pa_cons (pe_fn G__law_take hr__law_take (by rfl) (pa_cons (pv 0) (pa_cons pe_int pa_nil))) pa_nil))) pa_nil))) (pe_fn G__law_take hr__law_take (by rfl) (pa_cons (pv 0) (pa_cons pe_int pa_nil))) (fun _ _ => rfl)))
      (pss_one (ps_if (PW.pt (pw_and (pt_cmpR (op_eqA (K := K) rfl hr.units) (pv 4) pe_int (nomark _)) (pw_and1 (pt_cmpR (op_eqA (K := K) rfl hr.units) (pe_lc (own := [("one", 6)]) rfl nd (pi_list (pv 1)) (blkOk_by (N := N_law_sets) (sc := defScope s_law_sets) (by decide +kernel)) (fun _ _ _ _ _ => (pg_name (i := 6) nd rfl (Or.inl rfl))) (fun _ _ _ _ _ => pts_one (pt_cmpR (op_eqA (K := K) rfl hr.units) (pe_ix (ix_any (K := K) rfl) (pv 6) pe_int (fun _ _ => rfl)) pe_str (nomark _))) (fun _ _ _ _ _ => (pv 6))) (pe_lst pa_nil) (nomark _))))) (pss_one (ps_expr (pe_bm PySem.F.plainAttrs_list PySem.F.slot_list_append PySem.F.type_list_append mt_append (pv 1) (pa_cons (pe_tup (pa_cons pe_str (pa_cons (pe_fn G__law_e hr__law_e (by rfl) (pa_cons (pv 0) (pa_cons (pv 2) pa_nil))) (pa_cons (pe_fn G__law_e hr__law_e (by rfl) (pa_cons (pv 0) (pa_cons (pv 2) pa_nil))) pa_nil)))) pa_nil)))) (pss_one (ps_expr (pe_bm PySem.F.plainAttrs_list PySem.F.slot_list_append PySem.F.type_list_append mt_append (pv 1) (pa_cons (pe_tup (pa_cons (pe_ix (ix_any (K := K) rfl) (pe_lst (pa_cons pe_str (pa_cons pe_str pa_nil))) (pe_callTy call_int1A (by rfl) c.f_int boot_int (pa_cons (pe_cmpR (op_eqA (K := K) rfl hr.units) (pv 4) pe_int (nomark _)) pa_nil)) (fun _ _ => rfl)) (pa_cons (pv 5) (pa_cons (pe_fn G__law_e hr__law_e (by rfl) (pa_cons (pv 0) (pa_cons (pv 2) pa_nil))) pa_nil)))) pa_nil)))))))))
      (pss_one (ps_ret (pe_callTy (call_tupA (K := K) rfl) (by rfl) c.f_tuple boot_tuple (pa_cons (pv 1) pa_nil))))))), ?_⟩
    try dsimp only [cxOf, Cx.nox, Cx.wish]
    obtain ⟨s, rfl, hs, q⟩ := h
    repeat walk_at "w"
    refine w_new fun p1 H1 n1 s1 f1 => ?_
    have hs1 : Stm H1 s := s1.stm hs
    repeat walk_at "w"
    refine ⟨s, 4, rfl, hs1, by decide, by decide, fun dp H2 d0 d1 hs2 e2 => ?_⟩
    repeat walk_at "w"
    refine w_new fun p3 H3 n3 s3 f3 => ?_
    have hs3 : Stm H3 s := s3.stm hs2
    repeat walk_at "w"
    refine ⟨s, 5, rfl, hs3, by decide, by decide, fun tm H4 t0 t1 hs4 e4 => ?_⟩
    repeat walk_at "w"
    refine times_at (by walk_at "tr") t0 t1 fun m m0 m1 => ?_
    repeat walk_at "w"
    have f4 : H4 p1 = some (.lst []) := by walk_at "tr"
    have b4 : But s H H4 := by walk_at "bu"
    have np : p1 ≠ s := stm_ne hs n1
    refine fl_rng1 (fun i σ H' => ∃ ss k y z, ss.length = i ∧ SL K H' p1 ss ∧ Stm H' s ∧ But s H H' ∧ σ = [some (.ref s), some (.ref p1), some (.int (1 + dp)), k, y, z, none]) (by omega) (by omega) ⟨[], _, _, _, rfl, SL.new f4, hs4, b4, rfl⟩ (fun i σ H5 hi hp => ?_) (fun σ H5 hp => ?_)
    · obtain ⟨ss, k, y, z, hl, hS, hs5, b5, rfl⟩ := hp
      repeat walk_at "w"
      refine ⟨s, 3, rfl, hs5, by decide, by decide, fun wy H6 w0 w1 hs6 e6 => ?_⟩
      repeat walk_at "w"
      refine ⟨s, 4, rfl, hs6, by decide, by decide, fun x H7 x0 x1 hs7 e7 => ?_⟩
      repeat walk_at "w"
      refine w_new fun p8 H8 n8 s8 f8 => ?_
      have hs8 : Stm H8 s := s8.stm hs7
      repeat walk_at "w"
      refine ⟨s, 3, rfl, hs8, by decide, by decide, fun y H9 y0 y1 hs9 e9 => ?_⟩
      repeat walk_at "w"
      refine w_new fun p10 H10 n10 s10 f10 => ?_
      repeat walk_at "w"
      refine w_new fun p11 H11 n11 s11 f11 => ?_
      have hs11 : Stm H11 s := s11.stm (s10.stm hs9)
      repeat walk_at "w"
      refine ⟨s, 2, rfl, hs11, by decide, by decide, fun z H12 z0 z1 hs12 e12 => ?_⟩
      refine sel_at (by walk_at "tr") (by walk_at "tr") (by walk_at "tr") z0 z1 fun sl kk nn ks hsl => ?_
      have hS12 : SL K H12 p1 ss := by
        refine hS.ts (by walk_at "ts") fun xs hx => ?_
        walk_at "tr"
      have b12 : But s H H12 := by walk_at "bu"
      clear hS e12 e9 e7 e6 s8 s10 s11 hs8 hs9 hs11 hs6 hs7 f8 f10 f11 n8 n10 n11 b5 hs5
      repeat walk_at "v"
      refine w_andK (Same H12) (fun b H' sm => ?_) (fun hR => ?_)
      · obtain ⟨xs, hx, hd, ho⟩ : SL K H' p1 ss := hS12.ts (TS.of sm) fun xs hx => sm _ _ hx
        have hs' : Stm H' s := sm.stm hs12
        have hxl : xs.length = i := by rw [dpa_len hd, List.length_map, hl]
        have b' : But s H H' := b12.trans (But.of sm)
        have hsl' : SqT K H' sl [.str kk, .int nn] := sm.sqT hsl
        clear b12 hs12 hS12 hsl
        refine ite2 (fun hb => ?_) (fun hb => ?_)
        · repeat walk_at "w"
          refine ⟨s, _, rfl, hs', by omega, by decide, fun v e H13 de oe hs13 e13 => ?_⟩
          repeat walk_at "w"
          refine ⟨s, _, rfl, hs13, by omega, by decide, fun v2 f H14 df of hs14 e14 => ?_⟩
          repeat walk_at "w"
          refine w_new fun p15 H15 n15 s15 f15 => ?_
          repeat walk_at "w"
          refine w_chg fun H16 e16 f16 => ?_
          repeat walk_at "w"
          have f15' : H15 p1 = some (.lst xs) := by walk_at "tr"
          have t16 : TS H15 H16 := TS.butL e16 f15'
          have t13 : TS H' H15 := ((TS.butS e13 hs').trans (TS.butS e14 hs13)).trans (TS.of s15)
          have hs15 : Stm H15 s := s15.stm hs14
          refine ⟨ss ++ [.cell e f], _, _, _, by rw [List.length_append, hl]; rfl, ⟨_, f16, ?_, ?_⟩, e16.stm np.symm hs15, ?_, rfl⟩
          · rw [List.map_append]
            refine dpa_app (dpAll_ts (t13.trans t16) _ _ (setsD_tup ss) hd) (dpa_one (.tup (t16.sqT (SqT.of f15)) (.cons (.str _) (.cons (Exp.ts ((TS.butS e14 hs13).trans ((TS.of s15).trans t16)) de) (.cons (Exp.ts ((TS.of s15).trans t16) df) .nil)))))
          · intro x hx
            rcases List.mem_append.mp hx with g | g
            · exact ho x g
            · rw [List.mem_singleton.mp g]; exact ⟨oe, of⟩
          · walk_at "bu"
        · repeat walk_at "w"
          refine w_new fun p13 H13 n13 s13 f13 => ?_
          repeat walk_at "w"
          refine kind_at (SqL.of f13) ?_
          repeat walk_at "w"
          refine ⟨s, _, rfl, s13.stm hs', by omega, by decide, fun v e H14 de oe hs14 e14 => ?_⟩
          repeat walk_at "w"
          refine w_new fun p15 H15 n15 s15 f15 => ?_
          repeat walk_at "w"
          refine w_chg fun H16 e16 f16 => ?_
          repeat walk_at "w"
          have f15' : H15 p1 = some (.lst xs) := by walk_at "tr"
          have t16 : TS H15 H16 := TS.butL e16 f15'
          have t13 : TS H' H15 := ((TS.of s13).trans (TS.butS e14 (s13.stm hs'))).trans (TS.of s15)
          have hs15 : Stm H15 s := s15.stm hs14
          refine ⟨ss ++ [.sel (decide (wy = 1)) kk nn e], _, _, _, by rw [List.length_append, hl]; rfl, ⟨_, f16, ?_, ?_⟩, e16.stm np.symm hs15, ?_, rfl⟩
          · rw [List.map_append]
            refine dpa_app (dpAll_ts (t13.trans t16) _ _ (setsD_tup ss) hd) (dpa_one (.tup (t16.sqT (SqT.of f15)) (.cons (.str _) (.cons (dp_pair ((t13.trans t16).sqT hsl')) (.cons (Exp.ts ((TS.of s15).trans t16) de) .nil)))))
          · intro x hx
            rcases List.mem_append.mp hx with g | g
            · exact ho x g
            · rw [List.mem_singleton.mp g]; exact ⟨ks, oe⟩
          · walk_at "bu"
      · repeat walk_at "w"
        refine ite2 (fun hw => ?_) (fun hw => ?_)
        · repeat walk_at "w"
          obtain ⟨xs, hx, hd, ho⟩ := hS12
          refine lc_L xs (fun D i ys H' => Same H12 H' ∧ ∃ ts, DpAll K H' ys (ts.map SetE.d) ∧ ∀ x ∈ ts, OkS 4 x) (SqL.of hx) (fun D H' hD e f => ⟨e, [], .nil, fun _ q => (List.not_mem_nil q).elim⟩) (fun D hD i ys H' hi hy hp => hp.1.sqL (SqL.of hx)) (fun D hD j x ys H' hi hj hy hp => ?_) (fun D hD ys H' hl hy hp => ?_)
          · obtain ⟨e, ts, hts, ot⟩ := hp
            obtain ⟨d, hd1, hd2⟩ := dpa_at' (dpAll_ts (TS.of e) _ _ (setsD_tup ss) hd) hi
            obtain ⟨a, ha, rfl⟩ : ∃ a ∈ ss, a.d = d := List.mem_map.mp (List.mem_of_getElem? hd1)
            obtain ⟨pa, r, rfl, hpa⟩ := SetE.at0 hd2
            repeat walk_at "w"
            refine ite2 (fun hk => ?_) (fun hk => ?_)
            · repeat walk_at "w"
              refine lc_end hy hj (by have := (List.getElem?_eq_some_iff.mp hi).1; rw [sizeLine_eq]; have := dpa_len hd; rw [List.length_map] at this; omega) fun H'' e2 f2 => ?_
              have t2 : TS H' H'' := TS.butL e2 hy
              refine ⟨But.new e hD e2, ts ++ [a], ?_, ?_⟩
              · rw [List.map_append]
                exact dpa_app (dpAll_ts t2 _ _ (setsD_tup ts) hts) (dpa_one (dp_ts t2 _ _ a.tup hd2))
              · intro x hx
                rcases List.mem_append.mp hx with g | g
                · exact ot x g
                · rw [List.mem_singleton.mp g]; exact ho a ha
            · exact lc_skip hy hj ⟨e, ts, hts, ot⟩
          · obtain ⟨e, ts, hts, ot⟩ := hp
            repeat walk_at "w"
            refine w_new fun p14 H14 n14 s14 f14 => ?_
            refine w_eqP (e := .list []) (.lst (SqL.of (s14.at hy)) (dpAll_ts (TS.of s14) _ _ (setsD_tup ts) hts)) (.lst (SqL.of f14) .nil) (cmpL ot) (cmpL (ss := []) (fun _ q => (List.not_mem_nil q).elim)) fun b hb => ?_
            repeat walk_at "w"
            exact hR _ _ (e.trans s14)
        · exact hR _ _ (Same.refl _)
    · obtain ⟨ss, k, y, z, hl, ⟨xs, hx, hd, ho⟩, hs5, b5, rfl⟩ := hp
      repeat walk_at "w"
      refine w_new fun p6 H6 n6 s6 f6 => ?_
      exact q _ ss H6 (.tup (SqT.of f6) (dpAll_ts (TS.of s6) _ _ (setsD_tup ss) hd)) (by omega) ho (s6.stm hs5) (b5.trans (But.of s6))
end

end J
namespace J
open PySem PySem.Spec PyProof.Rows L2
local macro_rules | `(tactic| walk_at "cls") => `(tactic| first
  | with_reducible exact Facts.cl_Parts
  | with_reducible exact Facts.cl_Order)
local macro_rules | `(tactic| walk_at "na") => `(tactic| first
  | with_reducible exact Facts.na_Parts_rows
  | with_reducible exact Facts.na_Order_parts
  | with_reducible exact Facts.na_Order_order
  | with_reducible exact Facts.na_Order_needed)
local macro_rules | `(tactic| walk_at "ty") => `(tactic| first
  | with_reducible exact ty_int
  | with_reducible exact ty_bl
  | with_reducible exact ty_str
  | with_reducible exact ty_non
  | ((with_reducible refine' ty_lst ?vv); (case vv => walk_at "tr"))
  | ((with_reducible refine' ty_sqT ?vv); (case vv => walk_at "tr"))
  | ((with_reducible refine' ty_dic ?vv); (case vv => walk_at "tr")))
local macro_rules | `(tactic| walk_at "ix") => `(tactic| first | exact at0 | exact at1 | exact at2 | assumption)
local macro_rules | `(tactic| walk_at "size") => `(tactic| first
  | assumption
  | (show _ < sizeLine; rw [sizeLine_eq]; (try simp only [List.length_cons, List.length_nil, List.length_append, List.length_map]); omega)
  | (show _ ≤ sizeLine; rw [sizeLine_eq]; (try simp only [List.length_cons, List.length_nil, List.length_append, List.length_map]); omega))
local macro_rules | `(tactic| walk_at "side") => `(tactic| first
  | assumption
  | ((with_reducible refine cdw ?_ ?_) <;> omega)
  | omega
  | (exact ⟨by omega, by omega⟩)
  | (exact Or.inl ⟨by omega, by omega⟩)
  | (exact Or.inr ⟨by omega, by omega⟩)
  | decide
  | (simp only [List.length_cons, List.length_nil, List.length_append, List.length_map]; omega)
  | (show _ ≤ _; decide))
local macro_rules | `(tactic| walk_at "as") => `(tactic| with_reducible assumption)
local macro_rules | `(tactic| walk_at "tr") => `(tactic| first
  | with_reducible assumption
  | with_reducible exact upd_same
  | ((with_reducible refine' SqL.of ?hh); (case hh => walk_at "as"))
  | ((with_reducible refine' SqT.of ?hh); (case hh => walk_at "as"))
  | ((with_reducible refine' Same.stm ?ee ?gg); (case ee => walk_at "as"); (case gg => walk_at "tr"))
  | ((with_reducible refine' Same.sqT ?ee ?gg); (case ee => walk_at "as"); (case gg => walk_at "tr"))
  | ((with_reducible refine' Same.sqL ?ee ?gg); (case ee => walk_at "as"); (case gg => walk_at "tr"))
  | ((with_reducible refine' Same.at ?ee ?gg); (case ee => walk_at "as"); (case gg => walk_at "tr"))
  | ((with_reducible refine' But.stm ?ee ?ff ?gg); (case ee => walk_at "as"); (case ff => walk_at "ne"); (case gg => walk_at "tr"))
  | ((with_reducible refine' But.tup ?ee ?ff ?gg); (case ee => walk_at "as"); (case ff => walk_at "tr1"); (case gg => walk_at "tr"))
  | ((with_reducible refine' But.sqT ?ee ?ff ?gg); (case ee => walk_at "as"); (case ff => walk_at "tr1"); (case gg => walk_at "tr"))
  | ((with_reducible refine' But.tupL ?ee ?ff ?gg); (case ee => walk_at "as"); (case ff => walk_at "tr1"); (case gg => walk_at "tr"))
  | ((with_reducible refine' But.sqTL ?ee ?ff ?gg); (case ee => walk_at "as"); (case ff => walk_at "tr1"); (case gg => walk_at "tr"))
  | ((with_reducible refine' But.sqL ?ee ?ff ?gg); (case ee => walk_at "as"); (case ff => walk_at "ne"); (case gg => walk_at "tr"))
  | ((with_reducible refine' But.at ?ee ?ff ?gg); (case ee => walk_at "as"); (case ff => walk_at "ne"); (case gg => walk_at "tr")))
local macro_rules | `(tactic| walk_at "ts") => `(tactic| first
  | with_reducible assumption
  | with_reducible exact TS.refl _
  | ((with_reducible refine' TS.trans ?gg (TS.of ?ee)); (case ee => walk_at "as"); (case gg => walk_at "ts"))
  | ((with_reducible refine' TS.trans ?gg (TS.butS ?ee ?ff)); (case ee => walk_at "as"); (case ff => walk_at "tr1"); (case gg => walk_at "ts"))
  | ((with_reducible refine' TS.trans ?gg (TS.butL ?ee ?ff)); (case ee => walk_at "as"); (case ff => walk_at "tr1"); (case gg => walk_at "ts"))
  | ((with_reducible refine' TS.trans ?gg (TS.butI ?ee ?ff)); (case ee => walk_at "as"); (case ff => walk_at "tr1"); (case gg => walk_at "ts")))
local macro_rules | `(tactic| walk_at "sm") => `(tactic| first
  | with_reducible assumption
  | with_reducible exact Same.refl _
  | ((with_reducible refine' Same.trans ?gg ?ee); (case ee => walk_at "as"); (case gg => walk_at "sm"))
  | ((with_reducible refine' But.new ?gg ?nn ?ee); (case ee => walk_at "as"); (case nn => walk_at "fr"); (case gg => walk_at "sm")))
local macro_rules | `(tactic| walk_at "fr") => `(tactic| first
  | with_reducible assumption
  | ((with_reducible refine' Same.back ?ee ?nn); (case nn => walk_at "as"); (case ee => walk_at "sm"))
  | ((with_reducible refine' But.back ?ee ?ff ?nn); (case nn => walk_at "as"); (case ff => walk_at "ne0"); (case ee => walk_at "bu")))
local macro_rules | `(tactic| walk_at "bu") => `(tactic| first
  | with_reducible assumption
  | with_reducible exact But.refl _ _
  | ((with_reducible refine' But.trans ?gg ?ee); (case ee => walk_at "as"); (case gg => walk_at "bu"))
  | ((with_reducible refine' But.trans ?gg (But.of ?ee)); (case ee => walk_at "as"); (case gg => walk_at "bu"))
  | ((with_reducible refine' But.new2 ?gg ?nn ?ee); (case ee => walk_at "as"); (case nn => walk_at "frB"); (case gg => walk_at "bu")))
local macro_rules | `(tactic| walk_at "frB") => `(tactic| first
  | with_reducible assumption
  | ((with_reducible refine' Same.back ?ee ?nn); (case nn => walk_at "as"); (case ee => walk_at "sm"))
  | ((with_reducible refine' But.back' ?ee ?ff ?nn); (case nn => walk_at "as"); (case ee => walk_at "bu"); (case ff => walk_at "tr1")))
local macro_rules | `(tactic| walk_at "tr1") => `(tactic| first
  | with_reducible assumption
  | ((with_reducible refine' Same.stm ?ee ?gg); (case ee => walk_at "as"); (case gg => walk_at "tr1"))
  | ((with_reducible refine' Same.at ?ee ?gg); (case ee => walk_at "as"); (case gg => walk_at "tr1"))
  | ((with_reducible refine' But.at ?ee ?ff ?gg); (case ee => walk_at "as"); (case ff => walk_at "ne0"); (case gg => walk_at "tr1"))
  | ((with_reducible refine' But.stm ?ee ?ff ?gg); (case ee => walk_at "as"); (case ff => walk_at "ne0"); (case gg => walk_at "tr1")))
local macro_rules | `(tactic| walk_at "ne0") => `(tactic| first
  | with_reducible assumption
  | (with_reducible apply Ne.symm; with_reducible assumption))
local macro_rules | `(tactic| walk_at "ne") => `(tactic| first
  | with_reducible assumption
  | (with_reducible apply Ne.symm; with_reducible assumption)
  | ((with_reducible refine' stm_ne ?hh ?nn); (case nn => walk_at "as"); (case hh => walk_at "tr1"))
  | ((with_reducible refine' ne_of_none ?hh ?nn); (case nn => walk_at "as"); (case hh => walk_at "tr1"))
  | ((with_reducible apply Ne.symm); (with_reducible refine' ne_of_none ?hh ?nn); (case nn => walk_at "as"); (case hh => walk_at "tr1")))
local macro_rules | `(tactic| walk_at "v") => `(tactic| first
  | with_reducible refine w_seq ?_
  | ((with_reducible refine' w_var ?vv ?_); (case vv => exact rfl))
  | with_reducible refine w_c ?_
  | with_reducible refine w_op ?_
  | with_reducible refine w_asg ?_
  | with_reducible refine w_gName ?_
  | with_reducible refine w_ret ?_
  | with_reducible refine w_ifS ?_
  | with_reducible refine w_drop ?_
  | with_reducible refine w_next ?_
  | with_reducible refine w_cons ?_
  | with_reducible refine w_nil ?_
  | with_reducible refine w_call ?_
  | with_reducible refine w_cb ?_
  | with_reducible refine w_rI0 ?_
  | with_reducible refine w_addI ?_
  | with_reducible refine w_eqI ?_
  | with_reducible refine w_neI ?_
  | with_reducible refine w_eqS ?_
  | with_reducible refine w_neS ?_
  | with_reducible refine w_eqB ?_
  | with_reducible refine w_neB ?_
  | with_reducible refine w_chain ?_
  | with_reducible refine w_test ?_
  | with_reducible refine w_tB ?_
  | with_reducible refine w_bl ?_
  | ((with_reducible refine' w_mulI ?vv ?_); (case vv => walk_at "side"))
  | ((with_reducible refine' w_rI ?vv ?_); (case vv => walk_at "side"))
  | with_reducible refine w_int1 ?_
  | with_reducible refine w_int1b ?_
  | with_reducible refine w_tup ?_
  | with_reducible refine w_lst ?_
  | with_reducible refine w_un ?_
  | with_reducible refine w_rU ?_
  | with_reducible refine w_not ?_
  | with_reducible refine w_notV ?_
  | with_reducible refine w_ifE ?_
  | with_reducible refine w_nT ?_
  | with_reducible refine w_nF ?_
  | with_reducible refine iteT ?_
  | with_reducible refine iteF ?_
  | ((with_reducible refine' w_ixT ?vv ?ww ?_); (case vv => walk_at "tr"); (case ww => walk_at "ix"))
  | ((with_reducible refine' w_ixL ?vv ?ww ?_); (case vv => walk_at "tr"); (case ww => walk_at "ix"))
  | with_reducible refine w_gSub ?_
  | ((with_reducible refine' w_setL ?vv ?ww ?_); (case vv => walk_at "tr"); (case ww => first | rfl | decide | assumption))
  | ((with_reducible refine' w_lenL ?vv ?_); (case vv => walk_at "tr"))
  | ((with_reducible refine' w_lenT ?vv ?_); (case vv => walk_at "tr"))
  | with_reducible refine w_max2 ?_
  | with_reducible refine w_max3 ?_
  | with_reducible refine w_din ?_
  | with_reducible refine w_dnotin ?_
  | with_reducible refine w_dput ?_
  | with_reducible refine w_min2 ?_
  | with_reducible refine w_bm ?_
  | with_reducible refine w_bm0 ?_
  | ((with_reducible refine' w_tyL ?vv ?_); (case vv => walk_at "tr"))
  | ((with_reducible refine' w_append ?vv ?ww ?_); (case vv => walk_at "tr"); (case ww => walk_at "size"))
  | ((with_reducible refine' w_size ?vv ?_); (case vv => walk_at "size"))
  | with_reducible refine w_forL ?_
  | with_reducible refine w_forT ?_
  | with_reducible refine w_forR1 ?_
  | with_reducible refine w_forR2 ?_
  | with_reducible refine w_lcL ?_
  | with_reducible refine w_lcT ?_
  | with_reducible refine w_lcR1 ?_
  | with_reducible refine w_yes ?_
  | with_reducible refine w_sl ?_
  | with_reducible refine w_noPart ?_
  | with_reducible refine w_part ?_
  | with_reducible refine w_int ?_
  | ((with_reducible refine' w_slL ?vv ?_); (case vv => walk_at "tr"))
  | ((with_reducible refine' w_seqL ?vv ?ww ?_); (case vv => walk_at "tr"); (case ww => rfl))
  | ((with_reducible refine' w_seqT ?vv ?ww ?_); (case vv => walk_at "tr"); (case ww => rfl))
  | with_reducible refine w_gNil ?_
  | with_reducible refine w_gCons ?_
  | with_reducible refine w_forZ ?_
  | with_reducible refine w_forM ?_
  | with_reducible refine w_forE ?_
  | with_reducible refine w_forV ?_
  | with_reducible refine w_lcZ ?_
  | with_reducible refine w_lcE ?_
  | ((with_reducible refine' w_isi (b := true) ?vv ?ww ?_); (case vv => walk_at "ty"); (case ww => decide +kernel))
  | ((with_reducible refine' w_isi (b := false) ?vv ?ww ?_); (case vv => walk_at "ty"); (case ww => decide +kernel))
  | with_reducible refine w_revL ?_
  | with_reducible refine w_pairN ?_
  | with_reducible refine w_pairC ?_
  | with_reducible refine w_dget ?_
  | with_reducible refine w_met ?_
  | ((with_reducible refine' w_metAt ?vv ?ww ?_); (case vv => walk_at "tr"); (case ww => rfl))
  | with_reducible refine w_mkI ?_
  | with_reducible refine w_fld ?_
  | ((with_reducible refine' w_fldAt ?vv ?cc ?nn ?ww ?_); (case vv => walk_at "tr"); (case cc => walk_at "cls"); (case nn => walk_at "na"); (case ww => rfl))
  | with_reducible refine w_sfld ?_
  | ((with_reducible refine' w_sfldAt ?vv ?cc ?nn ?ll ?ee ?_); (case vv => walk_at "tr"); (case cc => walk_at "cls"); (case nn => walk_at "na"); (case ll => simp); (case ee => rfl))
  | ((with_reducible refine' w_tupL ?vv ?_); (case vv => walk_at "tr"))
  | ((with_reducible refine' w_tupT ?vv ?_); (case vv => walk_at "tr"))
  | ((with_reducible refine' w_listL ?vv ?_); (case vv => walk_at "tr"))
  | ((with_reducible refine' w_listT ?vv ?_); (case vv => walk_at "tr"))
  | with_reducible refine w_tyS ?_
  | with_reducible refine w_retN ?_
  | with_reducible refine w_break ?_
  | with_reducible refine w_cont ?_)
local macro_rules | `(tactic| walk_at "w") => `(tactic| first
  | walk_at "v"
  | with_reducible refine w_or ?_
  | with_reducible refine w_and ?_
  | with_reducible refine w_andV ?_
  | with_reducible refine w_orV ?_)
local macro_rules | `(tactic| walk_at "wd") => `(tactic| first
  | walk_at "w"
  | ((with_reducible refine' w_decT ?vv ?_); (case vv => decide +kernel))
  | ((with_reducible refine' w_decF ?vv ?_); (case vv => decide +kernel)))
local macro_rules | `(tactic| walk_at "tz") => `(tactic| (intro S z; (repeat walk_at "w"); exact z))
local macro_rules | `(tactic| walk_at "wf") => `(tactic| first
  | walk_at "wd"
  | ((with_reducible refine' w_decF ?vv ?_); (case vv => with_reducible assumption)))
/-! ### the law's own parts -/
/-- a list of rows -/
def PL (K : PySem.W.Frag) (H : Hp) (l : Addr) (ps : List PyData) : Prop := ∃ xs, H l = some (.lst xs) ∧ DpAll K H xs ps ∧ Rows ps
theorem PL.new {K : PySem.W.Frag} {H : Hp} {l : Addr} (h : H l = some (.lst [])) : PL K H l [] := ⟨[], h, .nil, rows_nil⟩
theorem PL.ts {K : PySem.W.Frag} {H H' : Hp} {l : Addr} {ps : List PyData} (h : PL K H l ps) (e : TS H H') (k : ∀ xs, H l = some (.lst xs) → H' l = some (.lst xs)) : PL K H' l ps := by
  obtain ⟨xs, h, d, o⟩ := h
  exact ⟨xs, k _ h, dpAll_ts e _ _ (rows_all o).1 d, o⟩
theorem PL.same {K : PySem.W.Frag} {H H' : Hp} {l : Addr} {ps : List PyData} (h : PL K H l ps) (e : Same H H') : PL K H' l ps := h.ts (TS.of e) fun _ => e _ _
theorem PL.but {K : PySem.W.Frag} {H H' : Hp} {l m : Addr} {ps qs : List PyData} (h : PL K H l ps) (g : PL K H m qs) (n : l ≠ m) (e : But m H H') : PL K H' l ps := by
  obtain ⟨_, g, _⟩ := g
  exact h.ts (TS.butL e g) fun _ q => e _ _ n q
theorem PL.tsB {K : PySem.W.Frag} {H H' : Hp} {l : Addr} {ps : List PyData} (h : PL K H l ps) (e : But l H H') : TS H H' := by
  obtain ⟨_, h, _⟩ := h
  exact TS.butL e h
/-- one row more -/
theorem PL.snoc {K : PySem.W.Frag} {H H' : Hp} {l : Addr} {ps : List PyData} {d : PyData} {xs : List V} {v : V} (h : PL K H l ps) (hx : H l = some (.lst xs)) (e : But l H H') (f : H' l = some (.lst (xs ++ [v]))) (hv : Dp K H v d) (r : Row d) : PL K H' l (ps ++ [d]) ∧ TS H H' := by
  obtain ⟨ys, h, hd, ho⟩ := h
  cases Option.some.inj (h.symm.trans hx)
  have t : TS H H' := TS.butL e h
  exact ⟨⟨_, f, dpa_app (dpAll_ts t _ _ (rows_all ho).1 hd) (dpa_one (dp_ts t _ _ r.all.1 hv)), rows_snoc ho r⟩, t⟩
theorem PL.len {K : PySem.W.Frag} {H : Hp} {l : Addr} {ps : List PyData} {xs : List V} (h : PL K H l ps) (hx : H l = some (.lst xs)) : xs.length = ps.length := by
  obtain ⟨ys, h, hd, ho⟩ := h
  cases Option.some.inj (h.symm.trans hx)
  exact dpa_len hd
theorem Item.ts {K : PySem.W.Frag} {H H' : Hp} {d : PyData} {v : V} (i : Item d) (t : TS H H') (h : Dp K H v d) : Dp K H' v d := dp_ts t _ _ i.tup h
def spPart (K : PySem.W.Frag) (n : Nat) : Sp := fun vs H Q _ => ∃ (v : V) (l : Addr) (e : Exp) (ps : List PyData), vs = [v, .ref l] ∧ Dp K H v e.d ∧ OkE n e ∧ PL K H l ps ∧ ps.length + e.cnt ≤ 1000 ∧
  ∀ r H', Dp K H' r (e.part ps).1 → PL K H' l (e.part ps).2 → But l H H' → Q r H'
theorem len_law_part {K : PySem.W.Frag} {n : Nat} {vs H Q E} (h : spPart K n vs H Q E) : vs.length = 2 := by obtain ⟨_, _, _, _, rfl, _⟩ := h; rfl
theorem no_law_part {K : PySem.W.Frag} {vs H Q E} (h : spPart K 0 vs H Q E) : False := by obtain ⟨_, _, _, _, _, _, h, _⟩ := h; exact okE_0 h
theorem exp_sel {K : PySem.W.Frag} {H : Hp} {v : V} {k s : Str} {n : Int} (h : Dp K H v (.tuple [.str s, selD k n])) : ∃ p u, v = .ref p ∧ SqT K H p [.str s, u] ∧ Dp K H u (selD k n) := by
  obtain ⟨p, xs, rfl, hs, ha⟩ := dp_tup h
  obtain ⟨x, r, rfl, hx, hr⟩ := dpa_cons ha
  obtain ⟨y, r, rfl, hy, hr⟩ := dpa_cons hr
  cases dpa_nil hr
  rw [dp_str hx] at hs
  exact ⟨p, y, rfl, hs, hy⟩
theorem exp_1 {K : PySem.W.Frag} {H : Hp} {v : V} {s : Str} {d : PyData} (h : Dp K H v (.tuple [.str s, d])) : ∃ p u, v = .ref p ∧ SqT K H p [.str s, u] ∧ Dp K H u d := by
  obtain ⟨p, xs, rfl, hs, ha⟩ := dp_tup h
  obtain ⟨x, r, rfl, hx, hr⟩ := dpa_cons ha
  obtain ⟨y, r, rfl, hy, hr⟩ := dpa_cons hr
  cases dpa_nil hr
  rw [dp_str hx] at hs
  exact ⟨p, y, rfl, hs, hy⟩
theorem exp_2 {K : PySem.W.Frag} {H : Hp} {v : V} {s : Str} {d e : PyData} (h : Dp K H v (.tuple [.str s, d, e])) : ∃ p u w, v = .ref p ∧ SqT K H p [.str s, u, w] ∧ Dp K H u d ∧ Dp K H w e := by
  obtain ⟨p, xs, rfl, hs, ha⟩ := dp_tup h
  obtain ⟨x, r, rfl, hx, hr⟩ := dpa_cons ha
  obtain ⟨y, r, rfl, hy, hr⟩ := dpa_cons hr
  obtain ⟨z, r, rfl, hz, hr⟩ := dpa_cons hr
  cases dpa_nil hr
  rw [dp_str hx] at hs
  exact ⟨p, y, z, rfl, hs, hy, hz⟩
theorem Exp.cases {n : Nat} {e : Exp} (h : OkE (n + 1) e) : (∃ j, e = .num j) ∨ (∃ j, e = .fld j) ∨ (∃ k j, e = .plc k j ∧ SelS k) ∨ (∃ k j, e = .mrk k j ∧ SelS k) ∨
    ∃ (o : Str) (es : List Exp), PyData.strOk o = true ∧ (o ≠ "number" ∧ o ≠ "field" ∧ o ≠ "place" ∧ o ≠ "mark") ∧ es.length ≤ 2 ∧ 1 ≤ es.length ∧ (∀ x ∈ es, OkE n x) ∧ e.d = .tuple (.str o :: es.map Exp.d) ∧
      (∀ ps, e.part ps = (.int (J.parts es ps).2.length, (J.parts es ps).2 ++ [.tuple (.str o :: (J.parts es ps).1)])) ∧ e.cnt = cnts es + 1 := by
  cases e with
  | num j => exact .inl ⟨j, rfl⟩
  | fld j => exact .inr (.inl ⟨j, rfl⟩)
  | plc k j => exact .inr (.inr (.inl ⟨k, j, rfl, h.2⟩))
  | mrk k j => exact .inr (.inr (.inr (.inl ⟨k, j, rfl, h.2⟩)))
  | cell a =>
    refine .inr (.inr (.inr (.inr ⟨"cell", [a], by decide +kernel, by decide +kernel, by simp, by simp, fun x hx => ?_, rfl, fun ps => rfl, by simp [Exp.cnt, cnts]⟩)))
    rw [List.mem_singleton.mp hx]
    exact okE_cell h
  | two o a b =>
    obtain ⟨oo, oa, ob⟩ := okE_two h
    obtain ⟨n1, n2, n3, n4, _⟩ := oo.ne
    refine .inr (.inr (.inr (.inr ⟨o, [a, b], oo.ok, ⟨n1, n2, n3, n4⟩, Nat.le_refl _, by simp, fun x hx => ?_, rfl, fun ps => rfl, by simp [Exp.cnt, cnts]⟩)))
    simp only [List.mem_cons, List.mem_nil_iff, or_false] at hx
    rcases hx with rfl | rfl
    · exact oa
    · exact ob
theorem exp_n {K : PySem.W.Frag} {H : Hp} {v : V} {s : Str} {ds : List PyData} (h : Dp K H v (.tuple (.str s :: ds))) : ∃ p us, v = .ref p ∧ SqT K H p (.str s :: us) ∧ DpAll K H us ds := by
  obtain ⟨p, xs, rfl, hs, ha⟩ := dp_tup h
  obtain ⟨x, r, rfl, hx, hr⟩ := dpa_cons ha
  rw [dp_str hx] at hs
  exact ⟨p, r, rfl, hs, hr⟩
theorem exps_tup : ∀ es : List Exp, tupAll (es.map Exp.d) = true
  | [] => rfl
  | e :: es => by rw [List.map_cons, tupAll, e.tup, exps_tup es]; rfl
theorem row_1 {s : Str} {d : PyData} (h : PyData.strOk s = true) (i : Item d) : Row (.tuple [.str s, d]) := ⟨_, rfl, fun x hx => by
  simp only [List.mem_cons, List.mem_nil_iff, or_false] at hx
  rcases hx with rfl | rfl
  · exact .str h
  · exact i⟩
theorem row_2 {s : Str} {d e : PyData} (h : PyData.strOk s = true) (i : Item d) (j : Item e) : Row (.tuple [.str s, d, e]) := ⟨_, rfl, fun x hx => by
  simp only [List.mem_cons, List.mem_nil_iff, or_false] at hx
  rcases hx with rfl | rfl | rfl
  · exact .str h
  · exact i
  · exact j⟩
theorem len_sub {xs : List V} {ps : List PyData} {v : V} (h : xs.length = ps.length) : ((((xs ++ [v]).length : Nat) : Int) - 1) = (ps.length : Int) := by
  rw [List.length_append, h, List.length_singleton]
  omega
section
variable {P : Program} {w : World} {K : PySem.W.Frag} {mg : Str → Option Value}
theorem ok_law_part [c : Facts K mg] : ∀ n : Nat, Fn P w K mg "_law_part" (n + 1) ["e", "parts"] ((spPart K n))
  | 0 => by
    obtain ⟨fd, F⟩ := c.d_law_part
    exact Fn.mk' (k := 0) F c.g_law_part sc_law_part (fun vs H Q E h => (no_law_part h).elim) (fun _ _ _ _ _ _ us hl => match us, hl with | [_, _], _ => rfl) (fun base cdv A outer s H vs Q E hr h => (no_law_part h).elim)
  | n + 1 => by
    have G__law_part := ok_law_part n
    obtain ⟨fd, F⟩ := c.d_law_part
    refine Fn.mk' F c.g_law_part sc_law_part (k := n + 1) (fun vs H Q E h => ?_) (fun _ _ _ _ _ _ us hl => match us, hl with | [_, _], _ => rfl) (fun base cdv A outer s H vs Q E hr h => ?_)
    · exact len_law_part h
    · have nd := sc_law_part.nd
      have hu := hu_of hr
      have hr__law_part : Room (n + 1) _ := hr.mono (by omega)
      refine ⟨_, (pss_cons (ps_if (PW.pt (pw_or (pt_cmpR (op_eqA (K := K) rfl hr.units) (pe_ix (ix_any (K := K) rfl) (pv 0) pe_int (fun _ _ => rfl)) pe_str (nomark _)) (pw_or1 (pt_cmpR (op_eqA (K := K) rfl hr.units) (pe_ix (ix_any (K := K) rfl) (pv 0) pe_int (fun _ _ => rfl)) pe_str (nomark _))))) (pss_one (ps_ret (pv 0))) pss_nil)
      (pss_cons (ps_if (PW.pt (pw_or (pt_cmpR (op_eqA (K := K) rfl hr.units) (pe_ix (ix_any (K := K) rfl) (pv 0) pe_int (fun _ _ => rfl)) pe_str (nomark _)) (pw_or1 (pt_cmpR (op_eqA (K := K) rfl hr.units) (pe_ix (ix_any (K := K) rfl) (pv 0) pe_int (fun _ _ => rfl)) pe_str (nomark _))))) (pss_one (ps_expr (pe_bm PySem.F.plainAttrs_list PySem.F.slot_list_append PySem.F.type_list_append mt_append (pv 1) (pa_cons (pe_tup (pa_cons (pe_ix (ix_any (K := K) rfl) (pe_lst (pa_cons pe_str (pa_cons pe_str pa_nil))) (pe_callTy call_int1A (by rfl) c.f_int boot_int (pa_cons (pe_cmpR (op_eqA (K := K) rfl hr.units) (pe_ix (ix_any (K := K) rfl) (pv 0) pe_int (fun _ _ => rfl)) pe_str (nomark _)) pa_nil)) (fun _ _ => rfl)) (pa_cons (pe_ix (ix_any (K := K) rfl) (pv 0) pe_int (fun _ _ => rfl)) pa_nil))) pa_nil)))) (pss_one (ps_if (pt_cmpR (op_eqA (K := K) rfl hr.units) (pe_ix (ix_any (K := K) rfl) (pv 0) pe_int (fun _ _ => rfl)) pe_str (nomark _)) (pss_cons (ps_set (i := 2) nd rfl (Or.inl rfl) (pe_fn G__law_part hr__law_part (by rfl) (pa_cons (pe_ix (ix_any (K := K) rfl) (pv 0) pe_int (fun _ _ => rfl)) (pa_cons (pv 1) pa_nil))))
      (pss_one (ps_expr (pe_bm PySem.F.plainAttrs_list PySem.F.slot_list_append PySem.F.type_list_append mt_append (pv 1) (pa_cons (pe_tup (pa_cons pe_str (pa_cons (pv 2) pa_nil))) pa_nil))))) (pss_cons (ps_set (i := 3) nd rfl (Or.inl rfl) (pe_fn G__law_part hr__law_part (by rfl) (pa_cons (pe_ix (ix_any (K := K) rfl) (pv 0) pe_int (fun _ _ => rfl)) (pa_cons (pv 1) pa_nil))))
      (pss_cons (ps_set (i := 4) nd rfl (Or.inl rfl) (pe_fn G__law_part hr__law_part (by rfl) (pa_cons (pe_ix (ix_any (K := K) rfl) (pv 0) pe_int (fun _ _ => rfl)) (pa_cons (pv 1) pa_nil))))
      (pss_one (ps_expr (pe_bm PySem.F.plainAttrs_list PySem.F.slot_list_append PySem.F.type_list_append mt_append (pv 1) (pa_cons (pe_tup (pa_cons (pe_ix (ix_any (K := K) rfl) (pv 0) pe_int (fun _ _ => rfl)) (pa_cons (pv 3) (pa_cons (pv 4) pa_nil)))) pa_nil)))))))))
      (pss_one (ps_ret (pe_op op_sub (pe_callB (call_lenA (K := K) rfl) (by rfl) c.f_len boot_len (pa_cons (pv 1) pa_nil)) pe_int))))), ?_⟩
      try dsimp only [cxOf, Cx.nox, Cx.wish]
      obtain ⟨v, l, e, ps, rfl, hv, oe, hP, hz, q⟩ := h
      cases e with
      | num j =>
        obtain ⟨p, u, rfl, hp, hu'⟩ := exp_1 hv
        repeat walk_at "wf"
        exact q _ H hv hP (But.refl _ _)
      | fld j =>
        obtain ⟨p, u, rfl, hp, hu'⟩ := exp_1 hv
        repeat walk_at "wf"
        exact q _ H hv hP (But.refl _ _)
      | plc k j =>
        obtain ⟨p, u, rfl, hp, hu'⟩ := exp_1 hv
        obtain ⟨xs, hx, _⟩ := id hP
        have hxl : xs.length ≤ 1000 := by rw [hP.len hx]; omega
        repeat walk_at "wf"
        refine w_new fun p1 H1 n1 s1 f1 => ?_
        repeat walk_at "w"
        refine w_new fun p2 H2 n2 s2 f2 => ?_
        repeat walk_at "w"
        refine w_chg fun H3 e3 f3 => ?_
        repeat walk_at "w"
        have s12 : Same H H2 := s1.trans s2
        have z := PL.snoc (hP.same s12) (s12 _ _ hx) e3 f3 (.tup (SqT.of f2) (.cons (.str _) (.cons (dp_ts (TS.of s12) _ _ (tupD_sel _ _) hu') .nil))) (row_sel (by decide +kernel) oe.2)
        rw [len_sub (hP.len hx)]
        exact q _ H3 (.int _) z.1 (by walk_at "bu")
      | mrk k j =>
        obtain ⟨p, u, rfl, hp, hu'⟩ := exp_1 hv
        obtain ⟨xs, hx, _⟩ := id hP
        have hxl : xs.length ≤ 1000 := by rw [hP.len hx]; omega
        repeat walk_at "wf"
        refine w_new fun p1 H1 n1 s1 f1 => ?_
        repeat walk_at "w"
        refine w_new fun p2 H2 n2 s2 f2 => ?_
        repeat walk_at "w"
        refine w_chg fun H3 e3 f3 => ?_
        repeat walk_at "w"
        have s12 : Same H H2 := s1.trans s2
        have z := PL.snoc (hP.same s12) (s12 _ _ hx) e3 f3 (.tup (SqT.of f2) (.cons (.str _) (.cons (dp_ts (TS.of s12) _ _ (tupD_sel _ _) hu') .nil))) (row_sel (by decide +kernel) oe.2)
        rw [len_sub (hP.len hx)]
        exact q _ H3 (.int _) z.1 (by walk_at "bu")
      | cell a =>
        obtain ⟨p, u, rfl, hp, hu'⟩ := exp_1 hv
        rw [Exp.cnt] at hz
        repeat walk_at "wf"
        refine ⟨u, l, a, ps, rfl, hu', okE_cell oe, hP, by omega, fun r H1 hr1 hP1 e1 => ?_⟩
        obtain ⟨xs, hx, _⟩ := id hP1
        have hxl : xs.length ≤ 1000 := by rw [hP1.len hx, a.part_len]; omega
        have i1 := (a.part_ok oe.2 hP.choose_spec.2.2).1
        repeat walk_at "w"
        refine w_new fun p2 H2 n2 s2 f2 => ?_
        repeat walk_at "w"
        refine w_chg fun H3 e3 f3 => ?_
        repeat walk_at "w"
        have z := PL.snoc (hP1.same s2) (s2 _ _ hx) e3 f3 (.tup (SqT.of f2) (.cons (.str _) (.cons (i1.ts (TS.of s2) hr1) .nil))) (row_1 (by decide +kernel) i1)
        rw [len_sub (hP1.len hx)]
        exact q _ H3 (.int _) z.1 (by walk_at "bu")
      | two o a b =>
        obtain ⟨p, u, u2, rfl, hp, hu', hu2⟩ := exp_2 hv
        obtain ⟨oo, oa, ob⟩ := okE_two oe
        obtain ⟨n1, n2, n3, n4, n5⟩ := oo.ne
        rw [Exp.cnt] at hz
        repeat walk_at "wf"
        refine ⟨u, l, a, ps, rfl, hu', oa, hP, by omega, fun r H1 hr1 hP1 e1 => ?_⟩
        have hp1 : SqT K H1 p _ := (hP.tsB e1).sqT hp
        have i1 := (a.part_ok oa.2 hP.choose_spec.2.2)
        repeat walk_at "w"
        refine ⟨u2, l, b, _, rfl, dp_ts (hP.tsB e1) _ _ b.tup hu2, ob, hP1, by rw [a.part_len]; omega, fun r2 H2 hr2 hP2 e2 => ?_⟩
        have hp2 : SqT K H2 p _ := (hP1.tsB e2).sqT hp1
        have i2 := (b.part_ok ob.2 i1.2)
        obtain ⟨xs, hx, _⟩ := id hP2
        have hxl : xs.length ≤ 1000 := by rw [hP2.len hx, b.part_len, a.part_len]; omega
        repeat walk_at "w"
        refine w_new fun p3 H3 n3 s3 f3 => ?_
        repeat walk_at "w"
        refine w_chg fun H4 e4 f4 => ?_
        repeat walk_at "w"
        have z := PL.snoc (hP2.same s3) (s3 _ _ hx) e4 f4 (.tup (SqT.of f3) (.cons (.str _) (.cons (i1.1.ts ((hP1.tsB e2).trans (TS.of s3)) hr1) (.cons (i2.1.ts (TS.of s3) hr2) .nil)))) (row_2 oo.ok i1.1 i2.1)
        rw [len_sub (hP2.len hx)]
        exact q _ H4 (.int _) z.1 (by walk_at "bu")
end

end J
namespace J
open PySem PySem.Spec PyProof.Rows L2
local macro_rules | `(tactic| walk_at "cls") => `(tactic| first
  | with_reducible exact Facts.cl_Parts
  | with_reducible exact Facts.cl_Order)
local macro_rules | `(tactic| walk_at "na") => `(tactic| first
  | with_reducible exact Facts.na_Parts_rows
  | with_reducible exact Facts.na_Order_parts
  | with_reducible exact Facts.na_Order_order
  | with_reducible exact Facts.na_Order_needed)
local macro_rules | `(tactic| walk_at "ty") => `(tactic| first
  | with_reducible exact ty_int
  | with_reducible exact ty_bl
  | with_reducible exact ty_str
  | with_reducible exact ty_non
  | ((with_reducible refine' ty_lst ?vv); (case vv => walk_at "tr"))
  | ((with_reducible refine' ty_sqT ?vv); (case vv => walk_at "tr"))
  | ((with_reducible refine' ty_dic ?vv); (case vv => walk_at "tr")))
local macro_rules | `(tactic| walk_at "ix") => `(tactic| first | exact at0 | exact at1 | exact at2 | assumption)
local macro_rules | `(tactic| walk_at "size") => `(tactic| first
  | assumption
  | (show _ < sizeLine; rw [sizeLine_eq]; (try simp only [List.length_cons, List.length_nil, List.length_append, List.length_map]); omega)
  | (show _ ≤ sizeLine; rw [sizeLine_eq]; (try simp only [List.length_cons, List.length_nil, List.length_append, List.length_map]); omega))
local macro_rules | `(tactic| walk_at "side") => `(tactic| first
  | assumption
  | ((with_reducible refine cdw ?_ ?_) <;> omega)
  | omega
  | (exact ⟨by omega, by omega⟩)
  | (exact Or.inl ⟨by omega, by omega⟩)
  | (exact Or.inr ⟨by omega, by omega⟩)
  | decide
  | (simp only [List.length_cons, List.length_nil, List.length_append, List.length_map]; omega)
  | (show _ ≤ _; decide))
local macro_rules | `(tactic| walk_at "as") => `(tactic| with_reducible assumption)
local macro_rules | `(tactic| walk_at "tr") => `(tactic| first
  | with_reducible assumption
  | with_reducible exact upd_same
  | ((with_reducible refine' SqL.of ?hh); (case hh => walk_at "as"))
  | ((with_reducible refine' SqT.of ?hh); (case hh => walk_at "as"))
  | ((with_reducible refine' Same.stm ?ee ?gg); (case ee => walk_at "as"); (case gg => walk_at "tr"))
  | ((with_reducible refine' Same.sqT ?ee ?gg); (case ee => walk_at "as"); (case gg => walk_at "tr"))
  | ((with_reducible refine' Same.sqL ?ee ?gg); (case ee => walk_at "as"); (case gg => walk_at "tr"))
  | ((with_reducible refine' Same.at ?ee ?gg); (case ee => walk_at "as"); (case gg => walk_at "tr"))
  | ((with_reducible refine' But.stm ?ee ?ff ?gg); (case ee => walk_at "as"); (case ff => walk_at "ne"); (case gg => walk_at "tr"))
  | ((with_reducible refine' But.tup ?ee ?ff ?gg); (case ee => walk_at "as"); (case ff => walk_at "tr1"); (case gg => walk_at "tr"))
  | ((with_reducible refine' But.sqT ?ee ?ff ?gg); (case ee => walk_at "as"); (case ff => walk_at "tr1"); (case gg => walk_at "tr"))
  | ((with_reducible refine' But.tupL ?ee ?ff ?gg); (case ee => walk_at "as"); (case ff => walk_at "tr1"); (case gg => walk_at "tr"))
  | ((with_reducible refine' But.sqTL ?ee ?ff ?gg); (case ee => walk_at "as"); (case ff => walk_at "tr1"); (case gg => walk_at "tr"))
  | ((with_reducible refine' But.sqL ?ee ?ff ?gg); (case ee => walk_at "as"); (case ff => walk_at "ne"); (case gg => walk_at "tr"))
  | ((with_reducible refine' But.at ?ee ?ff ?gg); (case ee => walk_at "as"); (case ff => walk_at "ne"); (case gg => walk_at "tr")))
local macro_rules | `(tactic| walk_at "ts") => `(tactic| first
  | with_reducible assumption
  | with_reducible exact TS.refl _
  | ((with_reducible refine' TS.trans ?gg (TS.of ?ee)); (case ee => walk_at "as"); (case gg => walk_at "ts"))
  | ((with_reducible refine' TS.trans ?gg (TS.butS ?ee ?ff)); (case ee => walk_at "as"); (case ff => walk_at "tr1"); (case gg => walk_at "ts"))
  | ((with_reducible refine' TS.trans ?gg (TS.butL ?ee ?ff)); (case ee => walk_at "as"); (case ff => walk_at "tr1"); (case gg => walk_at "ts"))
  | ((with_reducible refine' TS.trans ?gg (TS.butI ?ee ?ff)); (case ee => walk_at "as"); (case ff => walk_at "tr1"); (case gg => walk_at "ts")))
local macro_rules | `(tactic| walk_at "sm") => `(tactic| first
  | with_reducible assumption
  | with_reducible exact Same.refl _
  | ((with_reducible refine' Same.trans ?gg ?ee); (case ee => walk_at "as"); (case gg => walk_at "sm"))
  | ((with_reducible refine' But.new ?gg ?nn ?ee); (case ee => walk_at "as"); (case nn => walk_at "fr"); (case gg => walk_at "sm")))
local macro_rules | `(tactic| walk_at "fr") => `(tactic| first
  | with_reducible assumption
  | ((with_reducible refine' Same.back ?ee ?nn); (case nn => walk_at "as"); (case ee => walk_at "sm"))
  | ((with_reducible refine' But.back ?ee ?ff ?nn); (case nn => walk_at "as"); (case ff => walk_at "ne0"); (case ee => walk_at "bu")))
local macro_rules | `(tactic| walk_at "bu") => `(tactic| first
  | with_reducible assumption
  | with_reducible exact But.refl _ _
  | ((with_reducible refine' But.trans ?gg ?ee); (case ee => walk_at "as"); (case gg => walk_at "bu"))
  | ((with_reducible refine' But.trans ?gg (But.of ?ee)); (case ee => walk_at "as"); (case gg => walk_at "bu"))
  | ((with_reducible refine' But.new2 ?gg ?nn ?ee); (case ee => walk_at "as"); (case nn => walk_at "frB"); (case gg => walk_at "bu")))
local macro_rules | `(tactic| walk_at "frB") => `(tactic| first
  | with_reducible assumption
  | ((with_reducible refine' Same.back ?ee ?nn); (case nn => walk_at "as"); (case ee => walk_at "sm"))
  | ((with_reducible refine' But.back' ?ee ?ff ?nn); (case nn => walk_at "as"); (case ee => walk_at "bu"); (case ff => walk_at "tr1")))
local macro_rules | `(tactic| walk_at "tr1") => `(tactic| first
  | with_reducible assumption
  | ((with_reducible refine' Same.stm ?ee ?gg); (case ee => walk_at "as"); (case gg => walk_at "tr1"))
  | ((with_reducible refine' Same.at ?ee ?gg); (case ee => walk_at "as"); (case gg => walk_at "tr1"))
  | ((with_reducible refine' But.at ?ee ?ff ?gg); (case ee => walk_at "as"); (case ff => walk_at "ne0"); (case gg => walk_at "tr1"))
  | ((with_reducible refine' But.stm ?ee ?ff ?gg); (case ee => walk_at "as"); (case ff => walk_at "ne0"); (case gg => walk_at "tr1")))
local macro_rules | `(tactic| walk_at "ne0") => `(tactic| first
  | with_reducible assumption
  | (with_reducible apply Ne.symm; with_reducible assumption))
local macro_rules | `(tactic| walk_at "ne") => `(tactic| first
  | with_reducible assumption
  | (with_reducible apply Ne.symm; with_reducible assumption)
  | ((with_reducible refine' stm_ne ?hh ?nn); (case nn => walk_at "as"); (case hh => walk_at "tr1"))
  | ((with_reducible refine' ne_of_none ?hh ?nn); (case nn => walk_at "as"); (case hh => walk_at "tr1"))
  | ((with_reducible apply Ne.symm); (with_reducible refine' ne_of_none ?hh ?nn); (case nn => walk_at "as"); (case hh => walk_at "tr1")))
local macro_rules | `(tactic| walk_at "v") => `(tactic| first
  | with_reducible refine w_seq ?_
  | ((with_reducible refine' w_var ?vv ?_); (case vv => exact rfl))
  | with_reducible refine w_c ?_
  | with_reducible refine w_op ?_
  | with_reducible refine w_asg ?_
  | with_reducible refine w_gName ?_
  | with_reducible refine w_ret ?_
  | with_reducible refine w_ifS ?_
  | with_reducible refine w_drop ?_
  | with_reducible refine w_next ?_
  | with_reducible refine w_cons ?_
  | with_reducible refine w_nil ?_
  | with_reducible refine w_call ?_
  | with_reducible refine w_cb ?_
  | with_reducible refine w_rI0 ?_
  | with_reducible refine w_addI ?_
  | with_reducible refine w_eqI ?_
  | with_reducible refine w_neI ?_
  | with_reducible refine w_eqS ?_
  | with_reducible refine w_neS ?_
  | with_reducible refine w_eqB ?_
  | with_reducible refine w_neB ?_
  | with_reducible refine w_chain ?_
  | with_reducible refine w_test ?_
  | with_reducible refine w_tB ?_
  | with_reducible refine w_bl ?_
  | ((with_reducible refine' w_mulI ?vv ?_); (case vv => walk_at "side"))
  | ((with_reducible refine' w_rI ?vv ?_); (case vv => walk_at "side"))
  | with_reducible refine w_int1 ?_
  | with_reducible refine w_int1b ?_
  | with_reducible refine w_tup ?_
  | with_reducible refine w_lst ?_
  | with_reducible refine w_un ?_
  | with_reducible refine w_rU ?_
  | with_reducible refine w_not ?_
  | with_reducible refine w_notV ?_
  | with_reducible refine w_ifE ?_
  | with_reducible refine w_nT ?_
  | with_reducible refine w_nF ?_
  | with_reducible refine iteT ?_
  | with_reducible refine iteF ?_
  | ((with_reducible refine' w_ixT ?vv ?ww ?_); (case vv => walk_at "tr"); (case ww => walk_at "ix"))
  | ((with_reducible refine' w_ixL ?vv ?ww ?_); (case vv => walk_at "tr"); (case ww => walk_at "ix"))
  | with_reducible refine w_gSub ?_
  | ((with_reducible refine' w_setL ?vv ?ww ?_); (case vv => walk_at "tr"); (case ww => first | rfl | decide | assumption))
  | ((with_reducible refine' w_lenL ?vv ?_); (case vv => walk_at "tr"))
  | ((with_reducible refine' w_lenT ?vv ?_); (case vv => walk_at "tr"))
  | with_reducible refine w_max2 ?_
  | with_reducible refine w_max3 ?_
  | with_reducible refine w_din ?_
  | with_reducible refine w_dnotin ?_
  | with_reducible refine w_dput ?_
  | with_reducible refine w_min2 ?_
  | with_reducible refine w_bm ?_
  | with_reducible refine w_bm0 ?_
  | ((with_reducible refine' w_tyL ?vv ?_); (case vv => walk_at "tr"))
  | ((with_reducible refine' w_append ?vv ?ww ?_); (case vv => walk_at "tr"); (case ww => walk_at "size"))
  | ((with_reducible refine' w_size ?vv ?_); (case vv => walk_at "size"))
  | with_reducible refine w_forL ?_
  | with_reducible refine w_forT ?_
  | with_reducible refine w_forR1 ?_
  | with_reducible refine w_forR2 ?_
  | with_reducible refine w_lcL ?_
  | with_reducible refine w_lcT ?_
  | with_reducible refine w_lcR1 ?_
  | with_reducible refine w_yes ?_
  | with_reducible refine w_sl ?_
  | with_reducible refine w_noPart ?_
  | with_reducible refine w_part ?_
  | with_reducible refine w_int ?_
  | ((with_reducible refine' w_slL ?vv ?_); (case vv => walk_at "tr"))
  | ((with_reducible refine' w_seqL ?vv ?ww ?_); (case vv => walk_at "tr"); (case ww => rfl))
  | ((with_reducible refine' w_seqT ?vv ?ww ?_); (case vv => walk_at "tr"); (case ww => rfl))
  | with_reducible refine w_gNil ?_
  | with_reducible refine w_gCons ?_
  | with_reducible refine w_forZ ?_
  | with_reducible refine w_forM ?_
  | with_reducible refine w_forE ?_
  | with_reducible refine w_forV ?_
  | with_reducible refine w_lcZ ?_
  | with_reducible refine w_lcE ?_
  | ((with_reducible refine' w_isi (b := true) ?vv ?ww ?_); (case vv => walk_at "ty"); (case ww => decide +kernel))
  | ((with_reducible refine' w_isi (b := false) ?vv ?ww ?_); (case vv => walk_at "ty"); (case ww => decide +kernel))
  | with_reducible refine w_revL ?_
  | with_reducible refine w_pairN ?_
  | with_reducible refine w_pairC ?_
  | with_reducible refine w_dget ?_
  | with_reducible refine w_met ?_
  | ((with_reducible refine' w_metAt ?vv ?ww ?_); (case vv => walk_at "tr"); (case ww => rfl))
  | with_reducible refine w_mkI ?_
  | with_reducible refine w_fld ?_
  | ((with_reducible refine' w_fldAt ?vv ?cc ?nn ?ww ?_); (case vv => walk_at "tr"); (case cc => walk_at "cls"); (case nn => walk_at "na"); (case ww => rfl))
  | with_reducible refine w_sfld ?_
  | ((with_reducible refine' w_sfldAt ?vv ?cc ?nn ?ll ?ee ?_); (case vv => walk_at "tr"); (case cc => walk_at "cls"); (case nn => walk_at "na"); (case ll => simp); (case ee => rfl))
  | ((with_reducible refine' w_tupL ?vv ?_); (case vv => walk_at "tr"))
  | ((with_reducible refine' w_tupT ?vv ?_); (case vv => walk_at "tr"))
  | ((with_reducible refine' w_listL ?vv ?_); (case vv => walk_at "tr"))
  | ((with_reducible refine' w_listT ?vv ?_); (case vv => walk_at "tr"))
  | with_reducible refine w_tyS ?_
  | with_reducible refine w_retN ?_
  | with_reducible refine w_break ?_
  | with_reducible refine w_cont ?_)
local macro_rules | `(tactic| walk_at "w") => `(tactic| first
  | walk_at "v"
  | with_reducible refine w_or ?_
  | with_reducible refine w_and ?_
  | with_reducible refine w_andV ?_
  | with_reducible refine w_orV ?_)
local macro_rules | `(tactic| walk_at "wd") => `(tactic| first
  | walk_at "w"
  | ((with_reducible refine' w_decT ?vv ?_); (case vv => decide +kernel))
  | ((with_reducible refine' w_decF ?vv ?_); (case vv => decide +kernel)))
local macro_rules | `(tactic| walk_at "tz") => `(tactic| (intro S z; (repeat walk_at "w"); exact z))
local macro_rules | `(tactic| walk_at "wf") => `(tactic| first
  | walk_at "wd"
  | ((with_reducible refine' w_decF ?vv ?_); (case vv => with_reducible assumption)))
/-! ### the program's parts and roots -/
def spInit (C : Addr) : Sp := fun vs H Q _ => ∃ (p dx : Addr), vs = [.ref p] ∧ H p = some (.ins C dx []) ∧ ∀ l H', H' p = some (.ins C dx [("rows", .ref l)]) → H' l = some (.lst []) → H l = none → But p H H' → Q .non H'
theorem len_Partsu_initu {C : Addr} {vs H Q E} (h : spInit C vs H Q E) : vs.length = 1 := by obtain ⟨_, _, rfl, _⟩ := h; rfl
def spPartIn (K : PySem.W.Frag) (C : Addr) (n : Nat) : Sp := fun vs H Q _ => ∃ (v : V) (p dx l : Addr) (e : Exp) (ps : List PyData), vs = [.ref p, v] ∧ H p = some (.ins C dx [("rows", .ref l)]) ∧ Dp K H v e.d ∧ OkE n e ∧ PL K H l ps ∧ ps.length + e.cnt ≤ 1000 ∧
  ∀ r H', Dp K H' r (e.part ps).1 → PL K H' l (e.part ps).2 → But l H H' → Q r H'
theorem len_Parts_part_in {K : PySem.W.Frag} {C : Addr} {n : Nat} {vs H Q E} (h : spPartIn K C n vs H Q E) : vs.length = 2 := by obtain ⟨_, _, _, _, _, _, rfl, _⟩ := h; rfl
theorem no_Parts_part_in {K : PySem.W.Frag} {C : Addr} {vs H Q E} (h : spPartIn K C 0 vs H Q E) : False := by obtain ⟨_, _, _, _, _, _, _, _, _, h, _⟩ := h; exact okE_0 h
section
variable {P : Program} {w : World} {K : PySem.W.Frag} {mg : Str → Option Value}
theorem ok_Partsu_initu [c : Facts K mg] {f : Addr} {fd : FuncData} (F : FunD K "__init__" "Parts.__init__" (defArgs s_Partsu_initu) (defBody s_Partsu_initu) (defScope s_Partsu_initu) [] [] f fd) : FnA P w K mg f 1 ["self"] ((spInit (He.ga K "Parts"))) := by
  refine FnA.mk' F sc_Partsu_initu (k := 0) (fun vs H Q E h => ?_) (fun _ _ _ _ _ _ us hl => match us, hl with | [_], _ => rfl) (fun base cdv A outer s H vs Q E hr h => ?_)
  · exact len_Partsu_initu h
  · have nd := sc_Partsu_initu.nd
    have hu := hu_of hr
    refine ⟨_, (pss_one (ps_fld (pv 0) (pe_lst pa_nil) rfl)), ?_⟩
    try dsimp only [cxOf, Cx.nox, Cx.wish]
    obtain ⟨p, dx, rfl, hp, q⟩ := h
    repeat walk_at "w"
    refine w_new fun l H1 n1 s1 f1 => ?_
    repeat walk_at "w"
    refine w_chg fun H2 e2 f2 => ?_
    exact q l H2 f2 (e2 _ _ (ne_of f1 (s1 _ _ hp) (by intro z; cases z)) f1) n1 (But.trans (But.of s1) e2)
theorem ok_Parts_part_in [c : Facts K mg] : ∀ n : Nat, FnA P w K mg (He.ma K (He.ga K "Parts") "part_in") (n + 1) ["self", "e"] ((spPartIn K (He.ga K "Parts") n))
  | 0 => by
    obtain ⟨fd, F⟩ := c.dm_Parts_part_in
    exact FnA.mk' (k := 0) F sc_Parts_part_in (fun vs H Q E h => (no_Parts_part_in h).elim) (fun _ _ _ _ _ _ us hl => match us, hl with | [_, _], _ => rfl) (fun base cdv A outer s H vs Q E hr h => (no_Parts_part_in h).elim)
  | n + 1 => by
    have GM_Parts_part_in := ok_Parts_part_in n
    obtain ⟨fd, F⟩ := c.dm_Parts_part_in
    refine FnA.mk' F sc_Parts_part_in (k := n + 1) (fun vs H Q E h => ?_) (fun _ _ _ _ _ _ us hl => match us, hl with | [_, _], _ => rfl) (fun base cdv A outer s H vs Q E hr h => ?_)
    · exact len_Parts_part_in h
    · have nd := sc_Parts_part_in.nd
      have hu := hu_of hr
      have hrM_Parts_part_in : Room (n + 1) _ := hr.mono (by omega)
      refine ⟨_, (pss_cons (ps_if (PW.pt (pw_or (pt_cmpR (op_eqA (K := K) rfl hr.units) (pe_ix (ix_any (K := K) rfl) (pv 1) pe_int (fun _ _ => rfl)) pe_str (nomark _)) (pw_or1 (pt_cmpR (op_eqA (K := K) rfl hr.units) (pe_ix (ix_any (K := K) rfl) (pv 1) pe_int (fun _ _ => rfl)) pe_str (nomark _))))) (pss_one (ps_ret (pv 1))) pss_nil)
      (pss_cons (ps_if (pt_cmpR (op_eqA (K := K) rfl hr.units) (pe_ix (ix_any (K := K) rfl) (pv 1) pe_int (fun _ _ => rfl)) pe_str (nomark _)) (pss_one (ps_expr (pe_bm PySem.F.plainAttrs_list PySem.F.slot_list_append PySem.F.type_list_append mt_append (pe_fldK (K := K) rfl (pv 0)) (pa_cons (pe_tup (pa_cons pe_str (pa_cons (pe_ix (ix_any (K := K) rfl) (pv 1) pe_int (fun _ _ => rfl)) pa_nil))) pa_nil)))) (pss_one (ps_if (pt_cmpR (op_eqA (K := K) rfl hr.units) (pe_ix (ix_any (K := K) rfl) (pv 1) pe_int (fun _ _ => rfl)) pe_str (nomark _)) (pss_one (ps_expr (pe_bm PySem.F.plainAttrs_list PySem.F.slot_list_append PySem.F.type_list_append mt_append (pe_fldK (K := K) rfl (pv 0)) (pa_cons (pe_tup (pa_cons pe_str (pa_cons (pe_ix (ix_any (K := K) rfl) (pv 1) pe_int (fun _ _ => rfl)) pa_nil))) pa_nil)))) (pss_cons (ps_setLc (i := 2) (own := [("one", 3)]) rfl nd rfl rfl (sw_true rfl rfl rfl (by decide +kernel)) (pi_tup (pe_slice (sl_any (K := K) rfl) (pv 1) (po_some pe_int) po_none)) (blkOk_by (N := N_Parts_part_in) (sc := defScope s_Parts_part_in) (by decide +kernel)) (fun _ _ _ _ _ => (pg_name (i := 3) nd rfl (Or.inl rfl))) (fun _ _ _ _ _ => pts_nil) (fun _ _ _ _ _ => (pe_met GM_Parts_part_in rfl c.cl_Parts c.me_Parts_part_in hrM_Parts_part_in (pv 0) (pa_cons (pv 3) pa_nil))))
      (pss_one (ps_expr (pe_bm PySem.F.plainAttrs_list PySem.F.slot_list_append PySem.F.type_list_append mt_append (pe_fldK (K := K) rfl (pv 0)) (pa_cons (pe_callTy (call_tupA (K := K) rfl) (by rfl) c.f_tuple boot_tuple (pa_cons (pe_op (op_addA (K := K) rfl) (pe_lst (pa_cons (pe_ix (ix_any (K := K) rfl) (pv 1) pe_int (fun _ _ => rfl)) pa_nil)) (pv 2)) pa_nil)) pa_nil))))))))
      (pss_one (ps_ret (pe_op op_sub (pe_callB (call_lenA (K := K) rfl) (by rfl) c.f_len boot_len (pa_cons (pe_fldK (K := K) rfl (pv 0)) pa_nil)) pe_int))))), ?_⟩
      try dsimp only [cxOf, Cx.nox, Cx.wish]
      obtain ⟨v, p, dx, l, e, ps, rfl, hp, hv, oe, hP, hz, q⟩ := h
      have npl : p ≠ l := ne_of hp hP.choose_spec.1 (by intro z; cases z)
      rcases Exp.cases oe with ⟨j, rfl⟩ | ⟨j, rfl⟩ | ⟨k, j, rfl, ks⟩ | ⟨k, j, rfl, ks⟩ | ⟨o, es, oo, ⟨o1, o2, o3, o4⟩, l2, l1, oes, ed, ep, ec⟩
      · obtain ⟨t, u, rfl, ht, hu'⟩ := exp_1 hv
        repeat walk_at "wf"
        exact q _ H hv hP (But.refl _ _)
      · obtain ⟨t, u, rfl, ht, hu'⟩ := exp_1 hv
        repeat walk_at "wf"
        exact q _ H hv hP (But.refl _ _)
      · obtain ⟨t, u, rfl, ht, hu'⟩ := exp_1 hv
        obtain ⟨xs, hx, _⟩ := id hP
        have hxl : xs.length ≤ 1000 := by rw [hP.len hx]; omega
        repeat walk_at "wf"
        refine w_new fun p1 H1 n1 s1 f1 => ?_
        repeat walk_at "w"
        refine w_chg fun H2 e2 f2 => ?_
        repeat walk_at "w"
        have z := PL.snoc (hP.same s1) (s1 _ _ hx) e2 f2 (.tup (SqT.of f1) (.cons (.str _) (.cons (dp_ts (TS.of s1) _ _ (tupD_sel _ _) hu') .nil))) (row_sel (by decide +kernel) oe.2)
        rw [len_sub (hP.len hx)]
        exact q _ H2 (.int _) z.1 (by walk_at "bu")
      · obtain ⟨t, u, rfl, ht, hu'⟩ := exp_1 hv
        obtain ⟨xs, hx, _⟩ := id hP
        have hxl : xs.length ≤ 1000 := by rw [hP.len hx]; omega
        repeat walk_at "wf"
        refine w_new fun p1 H1 n1 s1 f1 => ?_
        repeat walk_at "w"
        refine w_chg fun H2 e2 f2 => ?_
        repeat walk_at "w"
        have z := PL.snoc (hP.same s1) (s1 _ _ hx) e2 f2 (.tup (SqT.of f1) (.cons (.str _) (.cons (dp_ts (TS.of s1) _ _ (tupD_sel _ _) hu') .nil))) (row_sel (by decide +kernel) oe.2)
        rw [len_sub (hP.len hx)]
        exact q _ H2 (.int _) z.1 (by walk_at "bu")
      · rw [ed] at hv
        obtain ⟨t, us, rfl, ht, hus⟩ := exp_n hv
        have hul : us.length = es.length := by rw [dpa_len hus, List.length_map]
        repeat walk_at "wf"
        refine w_slT1 (σ := []) ht ?_
        refine w_new fun p1 H1 n1 s1 f1 => ?_
        have hus1 := dpAll_ts (TS.of s1) _ _ (exps_tup es) hus
        have hp1 := s1 _ _ hp
        have hP1 := hP.same s1
        have fold : ∀ i, i ≤ es.length → (J.parts (es.take i) ps).2.length ≤ ps.length + cnts es := fun i hi => by
          rw [parts_len]
          have : ∀ (es : List Exp) (i : Nat), cnts (es.take i) ≤ cnts es := by
            intro es
            induction es with
            | nil => intro i; rw [List.take_nil]; exact Nat.le_refl _
            | cons a es ih =>
              intro i
              cases i with
              | zero => exact Nat.zero_le _
              | succ i => rw [List.take_succ_cons, cnts, cnts]; have := ih i; omega
          have := this es i
          omega
        refine lc_T us (fun D i ys H' => But l H1 H' ∧ PL K H' l (J.parts (es.take i) ps).2 ∧ DpAll K H' ys (J.parts (es.take i) ps).1) (SqT.of f1) (fun D H' hD e f => ⟨But.of e, hP1.same e, .nil⟩)
          (fun D hD i ys H' hi hy hp => (hP1.tsB hp.1).sqT (SqT.of f1)) (fun D hD i x ys H' hi hl hy hp => ?_) (fun D hD ys H' hl hy hp => ?_)
        · obtain ⟨b1, hP', hys⟩ := hp
          have hi' : i < es.length := by have := (List.getElem?_eq_some_iff.mp hi).1; omega
          obtain ⟨a, ha⟩ : ∃ a, es[i]? = some a := ⟨_, List.getElem?_eq_getElem hi'⟩
          have hza : (J.parts (es.take i) ps).2.length + a.cnt ≤ 1000 := by
            have := fold (i + 1) hi'
            rw [take_snoc ha, parts_snoc] at this
            have e : (Exp.part a (J.parts (es.take i) ps).2).2.length ≤ ps.length + cnts es := this
            rw [a.part_len] at e
            omega
          have oa := oes a (List.mem_of_getElem? ha)
          have t1 : TS H1 H' := hP1.tsB b1
          have hx : Dp K H' x a.d := by
            obtain ⟨d, hd1, hd2⟩ := dpa_at' (dpAll_ts t1 _ _ (exps_tup es) hus1) hi
            rw [List.getElem?_map, ha] at hd1
            cases Option.some.inj hd1
            exact hd2
          have hpp : H' p = some (.ins (He.ga K "Parts") dx [("rows", .ref l)]) := b1 _ _ npl hp1
          have nDl : D ≠ l := fun z => by rw [z] at hD; obtain ⟨_, g, _⟩ := hP1; rw [hD] at g; cases g
          repeat walk_at "w"
          refine ⟨x, p, dx, l, a, _, rfl, hpp, hx, oa, hP', hza, fun r H2 hr hP2 e2 => ?_⟩
          have hy2 : H2 D = some (.lst ys) := e2 _ _ nDl hy
          refine lc_end hy2 hl (by rw [sizeLine_eq]; omega) fun H3 e3 f3 => ?_
          have t2 : TS H' H2 := hP'.tsB e2
          have t3 : TS H2 H3 := TS.butL e3 hy2
          have ip := a.part_ok oa.2 hP'.choose_spec.2.2
          have ii := parts_ok (es.take i) (ps := ps) (fun y hy => (oes y (List.mem_of_mem_take hy)).2) hP.choose_spec.2.2
          rw [take_snoc ha, parts_snoc]
          refine ⟨But.new2 (b1.trans e2) hD e3, hP2.ts t3 fun _ g => e3 _ _ nDl.symm g, ?_⟩
          exact dpa_app (dpAll_ts (t2.trans t3) _ _ (items_all ii.1).1 hys) (dpa_one (ip.1.ts t3 hr))
        · obtain ⟨b1, hP', hys⟩ := hp
          rw [hul, List.take_length] at hys hP'
          have t1 : TS H1 H' := hP1.tsB b1
          have hpp : H' p = some (.ins (He.ga K "Parts") dx [("rows", .ref l)]) := b1 _ _ npl hp1
          have ht' : SqT K H' t _ := t1.sqT ((TS.of s1).sqT ht)
          obtain ⟨xs, hx, _⟩ := id hP'
          have ii := parts_ok es (ps := ps) (fun y hy => (oes y hy).2) hP.choose_spec.2.2
          have hxl : xs.length ≤ 1000 := by rw [hP'.len hx]; have := fold es.length (Nat.le_refl _); rw [List.take_length] at this; omega
          repeat walk_at "w"
          refine w_new fun p2 H2 n2 s2 f2 => ?_
          repeat walk_at "w"
          refine w_addL f2 (s2 _ _ hy) (by rw [sizeLine_eq, List.length_singleton]; omega) ?_
          refine w_new fun p3 H3 n3 s3 f3 => ?_
          repeat walk_at "w"
          refine w_new fun p4 H4 n4 s4 f4 => ?_
          repeat walk_at "w"
          refine w_chg fun H5 e5 f5 => ?_
          repeat walk_at "w"
          have s24 : Same H' H4 := (s2.trans s3).trans s4
          have z := PL.snoc (hP'.same s24) (s24 _ _ hx) e5 f5 (.tup (SqT.of f4) (.cons (.str _) (dpAll_ts (TS.of s24) _ _ (items_all ii.1).1 hys))) ⟨_, rfl, fun x hx => by
            rcases List.mem_cons.mp hx with rfl | hx
            · exact .str oo
            · exact ii.1 x hx⟩
          rw [len_sub (hP'.len hx)]
          rw [ep] at q
          exact q _ H5 (.int _) z.1 (((But.of s1).trans b1).trans ((But.of s24).trans e5))
end

end J
namespace J
open PySem PySem.Spec PyProof.Rows L2
local macro_rules | `(tactic| walk_at "cls") => `(tactic| first
  | with_reducible exact Facts.cl_Parts
  | with_reducible exact Facts.cl_Order)
local macro_rules | `(tactic| walk_at "na") => `(tactic| first
  | with_reducible exact Facts.na_Parts_rows
  | with_reducible exact Facts.na_Order_parts
  | with_reducible exact Facts.na_Order_order
  | with_reducible exact Facts.na_Order_needed)
local macro_rules | `(tactic| walk_at "ty") => `(tactic| first
  | with_reducible exact ty_int
  | with_reducible exact ty_bl
  | with_reducible exact ty_str
  | with_reducible exact ty_non
  | ((with_reducible refine' ty_lst ?vv); (case vv => walk_at "tr"))
  | ((with_reducible refine' ty_sqT ?vv); (case vv => walk_at "tr"))
  | ((with_reducible refine' ty_dic ?vv); (case vv => walk_at "tr")))
local macro_rules | `(tactic| walk_at "ix") => `(tactic| first | exact at0 | exact at1 | exact at2 | assumption)
local macro_rules | `(tactic| walk_at "size") => `(tactic| first
  | assumption
  | (show _ < sizeLine; rw [sizeLine_eq]; (try simp only [List.length_cons, List.length_nil, List.length_append, List.length_map]); omega)
  | (show _ ≤ sizeLine; rw [sizeLine_eq]; (try simp only [List.length_cons, List.length_nil, List.length_append, List.length_map]); omega))
local macro_rules | `(tactic| walk_at "side") => `(tactic| first
  | assumption
  | ((with_reducible refine cdw ?_ ?_) <;> omega)
  | omega
  | (exact ⟨by omega, by omega⟩)
  | (exact Or.inl ⟨by omega, by omega⟩)
  | (exact Or.inr ⟨by omega, by omega⟩)
  | decide
  | (simp only [List.length_cons, List.length_nil, List.length_append, List.length_map]; omega)
  | (show _ ≤ _; decide))
local macro_rules | `(tactic| walk_at "as") => `(tactic| with_reducible assumption)
local macro_rules | `(tactic| walk_at "tr") => `(tactic| first
  | with_reducible assumption
  | with_reducible exact upd_same
  | ((with_reducible refine' SqL.of ?hh); (case hh => walk_at "as"))
  | ((with_reducible refine' SqT.of ?hh); (case hh => walk_at "as"))
  | ((with_reducible refine' Same.stm ?ee ?gg); (case ee => walk_at "as"); (case gg => walk_at "tr"))
  | ((with_reducible refine' Same.sqT ?ee ?gg); (case ee => walk_at "as"); (case gg => walk_at "tr"))
  | ((with_reducible refine' Same.sqL ?ee ?gg); (case ee => walk_at "as"); (case gg => walk_at "tr"))
  | ((with_reducible refine' Same.at ?ee ?gg); (case ee => walk_at "as"); (case gg => walk_at "tr"))
  | ((with_reducible refine' But.stm ?ee ?ff ?gg); (case ee => walk_at "as"); (case ff => walk_at "ne"); (case gg => walk_at "tr"))
  | ((with_reducible refine' But.tup ?ee ?ff ?gg); (case ee => walk_at "as"); (case ff => walk_at "tr1"); (case gg => walk_at "tr"))
  | ((with_reducible refine' But.sqT ?ee ?ff ?gg); (case ee => walk_at "as"); (case ff => walk_at "tr1"); (case gg => walk_at "tr"))
  | ((with_reducible refine' But.tupL ?ee ?ff ?gg); (case ee => walk_at "as"); (case ff => walk_at "tr1"); (case gg => walk_at "tr"))
  | ((with_reducible refine' But.sqTL ?ee ?ff ?gg); (case ee => walk_at "as"); (case ff => walk_at "tr1"); (case gg => walk_at "tr"))
  | ((with_reducible refine' But.sqL ?ee ?ff ?gg); (case ee => walk_at "as"); (case ff => walk_at "ne"); (case gg => walk_at "tr"))
  | ((with_reducible refine' But.at ?ee ?ff ?gg); (case ee => walk_at "as"); (case ff => walk_at "ne"); (case gg => walk_at "tr")))
local macro_rules | `(tactic| walk_at "ts") => `(tactic| first
  | with_reducible assumption
  | with_reducible exact TS.refl _
  | ((with_reducible refine' TS.trans ?gg (TS.of ?ee)); (case ee => walk_at "as"); (case gg => walk_at "ts"))
  | ((with_reducible refine' TS.trans ?gg (TS.butS ?ee ?ff)); (case ee => walk_at "as"); (case ff => walk_at "tr1"); (case gg => walk_at "ts"))
  | ((with_reducible refine' TS.trans ?gg (TS.butL ?ee ?ff)); (case ee => walk_at "as"); (case ff => walk_at "tr1"); (case gg => walk_at "ts"))
  | ((with_reducible refine' TS.trans ?gg (TS.butI ?ee ?ff)); (case ee => walk_at "as"); (case ff => walk_at "tr1"); (case gg => walk_at "ts")))
local macro_rules | `(tactic| walk_at "sm") => `(tactic| first
  | with_reducible assumption
  | with_reducible exact Same.refl _
  | ((with_reducible refine' Same.trans ?gg ?ee); (case ee => walk_at "as"); (case gg => walk_at "sm"))
  | ((with_reducible refine' But.new ?gg ?nn ?ee); (case ee => walk_at "as"); (case nn => walk_at "fr"); (case gg => walk_at "sm")))
local macro_rules | `(tactic| walk_at "fr") => `(tactic| first
  | with_reducible assumption
  | ((with_reducible refine' Same.back ?ee ?nn); (case nn => walk_at "as"); (case ee => walk_at "sm"))
  | ((with_reducible refine' But.back ?ee ?ff ?nn); (case nn => walk_at "as"); (case ff => walk_at "ne0"); (case ee => walk_at "bu")))
local macro_rules | `(tactic| walk_at "bu") => `(tactic| first
  | with_reducible assumption
  | with_reducible exact But.refl _ _
  | ((with_reducible refine' But.trans ?gg ?ee); (case ee => walk_at "as"); (case gg => walk_at "bu"))
  | ((with_reducible refine' But.trans ?gg (But.of ?ee)); (case ee => walk_at "as"); (case gg => walk_at "bu"))
  | ((with_reducible refine' But.new2 ?gg ?nn ?ee); (case ee => walk_at "as"); (case nn => walk_at "frB"); (case gg => walk_at "bu")))
local macro_rules | `(tactic| walk_at "frB") => `(tactic| first
  | with_reducible assumption
  | ((with_reducible refine' Same.back ?ee ?nn); (case nn => walk_at "as"); (case ee => walk_at "sm"))
  | ((with_reducible refine' But.back' ?ee ?ff ?nn); (case nn => walk_at "as"); (case ee => walk_at "bu"); (case ff => walk_at "tr1")))
local macro_rules | `(tactic| walk_at "tr1") => `(tactic| first
  | with_reducible assumption
  | ((with_reducible refine' Same.stm ?ee ?gg); (case ee => walk_at "as"); (case gg => walk_at "tr1"))
  | ((with_reducible refine' Same.at ?ee ?gg); (case ee => walk_at "as"); (case gg => walk_at "tr1"))
  | ((with_reducible refine' But.at ?ee ?ff ?gg); (case ee => walk_at "as"); (case ff => walk_at "ne0"); (case gg => walk_at "tr1"))
  | ((with_reducible refine' But.stm ?ee ?ff ?gg); (case ee => walk_at "as"); (case ff => walk_at "ne0"); (case gg => walk_at "tr1")))
local macro_rules | `(tactic| walk_at "ne0") => `(tactic| first
  | with_reducible assumption
  | (with_reducible apply Ne.symm; with_reducible assumption))
local macro_rules | `(tactic| walk_at "ne") => `(tactic| first
  | with_reducible assumption
  | (with_reducible apply Ne.symm; with_reducible assumption)
  | ((with_reducible refine' stm_ne ?hh ?nn); (case nn => walk_at "as"); (case hh => walk_at "tr1"))
  | ((with_reducible refine' ne_of_none ?hh ?nn); (case nn => walk_at "as"); (case hh => walk_at "tr1"))
  | ((with_reducible apply Ne.symm); (with_reducible refine' ne_of_none ?hh ?nn); (case nn => walk_at "as"); (case hh => walk_at "tr1")))
local macro_rules | `(tactic| walk_at "v") => `(tactic| first
  | with_reducible refine w_seq ?_
  | ((with_reducible refine' w_var ?vv ?_); (case vv => exact rfl))
  | with_reducible refine w_c ?_
  | with_reducible refine w_op ?_
  | with_reducible refine w_asg ?_
  | with_reducible refine w_gName ?_
  | with_reducible refine w_ret ?_
  | with_reducible refine w_ifS ?_
  | with_reducible refine w_drop ?_
  | with_reducible refine w_next ?_
  | with_reducible refine w_cons ?_
  | with_reducible refine w_nil ?_
  | with_reducible refine w_call ?_
  | with_reducible refine w_cb ?_
  | with_reducible refine w_rI0 ?_
  | with_reducible refine w_addI ?_
  | with_reducible refine w_eqI ?_
  | with_reducible refine w_neI ?_
  | with_reducible refine w_eqS ?_
  | with_reducible refine w_neS ?_
  | with_reducible refine w_eqB ?_
  | with_reducible refine w_neB ?_
  | with_reducible refine w_chain ?_
  | with_reducible refine w_test ?_
  | with_reducible refine w_tB ?_
  | with_reducible refine w_bl ?_
  | ((with_reducible refine' w_mulI ?vv ?_); (case vv => walk_at "side"))
  | ((with_reducible refine' w_rI ?vv ?_); (case vv => walk_at "side"))
  | with_reducible refine w_int1 ?_
  | with_reducible refine w_int1b ?_
  | with_reducible refine w_tup ?_
  | with_reducible refine w_lst ?_
  | with_reducible refine w_un ?_
  | with_reducible refine w_rU ?_
  | with_reducible refine w_not ?_
  | with_reducible refine w_notV ?_
  | with_reducible refine w_ifE ?_
  | with_reducible refine w_nT ?_
  | with_reducible refine w_nF ?_
  | with_reducible refine iteT ?_
  | with_reducible refine iteF ?_
  | ((with_reducible refine' w_ixT ?vv ?ww ?_); (case vv => walk_at "tr"); (case ww => walk_at "ix"))
  | ((with_reducible refine' w_ixL ?vv ?ww ?_); (case vv => walk_at "tr"); (case ww => walk_at "ix"))
  | with_reducible refine w_gSub ?_
  | ((with_reducible refine' w_setL ?vv ?ww ?_); (case vv => walk_at "tr"); (case ww => first | rfl | decide | assumption))
  | ((with_reducible refine' w_lenL ?vv ?_); (case vv => walk_at "tr"))
  | ((with_reducible refine' w_lenT ?vv ?_); (case vv => walk_at "tr"))
  | with_reducible refine w_max2 ?_
  | with_reducible refine w_max3 ?_
  | with_reducible refine w_din ?_
  | with_reducible refine w_dnotin ?_
  | with_reducible refine w_dput ?_
  | with_reducible refine w_min2 ?_
  | with_reducible refine w_bm ?_
  | with_reducible refine w_bm0 ?_
  | ((with_reducible refine' w_tyL ?vv ?_); (case vv => walk_at "tr"))
  | ((with_reducible refine' w_append ?vv ?ww ?_); (case vv => walk_at "tr"); (case ww => walk_at "size"))
  | ((with_reducible refine' w_size ?vv ?_); (case vv => walk_at "size"))
  | with_reducible refine w_forL ?_
  | with_reducible refine w_forT ?_
  | with_reducible refine w_forR1 ?_
  | with_reducible refine w_forR2 ?_
  | with_reducible refine w_lcL ?_
  | with_reducible refine w_lcT ?_
  | with_reducible refine w_lcR1 ?_
  | with_reducible refine w_yes ?_
  | with_reducible refine w_sl ?_
  | with_reducible refine w_noPart ?_
  | with_reducible refine w_part ?_
  | with_reducible refine w_int ?_
  | ((with_reducible refine' w_slL ?vv ?_); (case vv => walk_at "tr"))
  | ((with_reducible refine' w_seqL ?vv ?ww ?_); (case vv => walk_at "tr"); (case ww => rfl))
  | ((with_reducible refine' w_seqT ?vv ?ww ?_); (case vv => walk_at "tr"); (case ww => rfl))
  | with_reducible refine w_gNil ?_
  | with_reducible refine w_gCons ?_
  | with_reducible refine w_forZ ?_
  | with_reducible refine w_forM ?_
  | with_reducible refine w_forE ?_
  | with_reducible refine w_forV ?_
  | with_reducible refine w_lcZ ?_
  | with_reducible refine w_lcE ?_
  | ((with_reducible refine' w_isi (b := true) ?vv ?ww ?_); (case vv => walk_at "ty"); (case ww => decide +kernel))
  | ((with_reducible refine' w_isi (b := false) ?vv ?ww ?_); (case vv => walk_at "ty"); (case ww => decide +kernel))
  | with_reducible refine w_revL ?_
  | with_reducible refine w_pairN ?_
  | with_reducible refine w_pairC ?_
  | with_reducible refine w_dget ?_
  | with_reducible refine w_met ?_
  | ((with_reducible refine' w_metAt ?vv ?ww ?_); (case vv => walk_at "tr"); (case ww => rfl))
  | with_reducible refine w_mkI ?_
  | with_reducible refine w_fld ?_
  | ((with_reducible refine' w_fldAt ?vv ?cc ?nn ?ww ?_); (case vv => walk_at "tr"); (case cc => walk_at "cls"); (case nn => walk_at "na"); (case ww => rfl))
  | with_reducible refine w_sfld ?_
  | ((with_reducible refine' w_sfldAt ?vv ?cc ?nn ?ll ?ee ?_); (case vv => walk_at "tr"); (case cc => walk_at "cls"); (case nn => walk_at "na"); (case ll => simp); (case ee => rfl))
  | ((with_reducible refine' w_tupL ?vv ?_); (case vv => walk_at "tr"))
  | ((with_reducible refine' w_tupT ?vv ?_); (case vv => walk_at "tr"))
  | ((with_reducible refine' w_listL ?vv ?_); (case vv => walk_at "tr"))
  | ((with_reducible refine' w_listT ?vv ?_); (case vv => walk_at "tr"))
  | with_reducible refine w_tyS ?_
  | with_reducible refine w_retN ?_
  | with_reducible refine w_break ?_
  | with_reducible refine w_cont ?_)
local macro_rules | `(tactic| walk_at "w") => `(tactic| first
  | walk_at "v"
  | with_reducible refine w_or ?_
  | with_reducible refine w_and ?_
  | with_reducible refine w_andV ?_
  | with_reducible refine w_orV ?_)
local macro_rules | `(tactic| walk_at "wd") => `(tactic| first
  | walk_at "w"
  | ((with_reducible refine' w_decT ?vv ?_); (case vv => decide +kernel))
  | ((with_reducible refine' w_decF ?vv ?_); (case vv => decide +kernel)))
local macro_rules | `(tactic| walk_at "tz") => `(tactic| (intro S z; (repeat walk_at "w"); exact z))
local macro_rules | `(tactic| walk_at "wf") => `(tactic| first
  | walk_at "wd"
  | ((with_reducible refine' w_decF ?vv ?_); (case vv => with_reducible assumption)))
def spRests (K : PySem.W.Frag) : Sp := fun vs H Q _ => ∃ (v : V) (s : SetE), vs = [v] ∧ Dp K H v s.d ∧ ∀ p us H', H' p = some (.lst us) → DpAll K H' us (s.rests.map Exp.d) → Same H H' → H p = none → Q (.ref p) H'
theorem len_rests_of {K : PySem.W.Frag} {vs H Q E} (h : spRests K vs H Q E) : vs.length = 1 := by obtain ⟨_, _, rfl, _⟩ := h; rfl
def spPR (K : PySem.W.Frag) : Sp := fun vs H Q _ => ∃ (v : V) (ss : List SetE), vs = [v] ∧ Dp K H v (setsD ss) ∧ ss.length ≤ 4 ∧ (∀ x ∈ ss, OkS 4 x) ∧ ∀ t l r H', H' t = some (.tup [.ref l, .ref r]) → PL K H' l (proots ss []).2 → PL K H' r (proots ss []).1 → H l = none → H r = none → Same H H' → l ≠ r → Q (.ref t) H'
theorem len_parts_and_roots {K : PySem.W.Frag} {vs H Q E} (h : spPR K vs H Q E) : vs.length = 1 := by obtain ⟨_, _, rfl, _⟩ := h; rfl
def spPof (K : PySem.W.Frag) : Sp := fun vs H Q _ => ∃ (v : V) (ss : List SetE), vs = [v] ∧ Dp K H v (setsD ss) ∧ ss.length ≤ 4 ∧ (∀ x ∈ ss, OkS 4 x) ∧ ∀ l H', PL K H' l (proots ss []).2 → H l = none → Same H H' → Q (.ref l) H'
def spRof (K : PySem.W.Frag) : Sp := fun vs H Q _ => ∃ (v : V) (ss : List SetE), vs = [v] ∧ Dp K H v (setsD ss) ∧ ss.length ≤ 4 ∧ (∀ x ∈ ss, OkS 4 x) ∧ ∀ l H', PL K H' l (proots ss []).1 → H l = none → Same H H' → Q (.ref l) H'
theorem len_parts_of {K : PySem.W.Frag} {vs H Q E} (h : spPof K vs H Q E) : vs.length = 1 := by obtain ⟨_, _, rfl, _⟩ := h; rfl
theorem len_roots_of {K : PySem.W.Frag} {vs H Q E} (h : spRof K vs H Q E) : vs.length = 1 := by obtain ⟨_, _, rfl, _⟩ := h; rfl
theorem set_d {K : PySem.W.Frag} {H : Hp} {v : V} {ss : List SetE} (h : Dp K H v (setsD ss)) : ∃ p xs, v = .ref p ∧ SqT K H p xs ∧ DpAll K H xs (ss.map SetE.d) := dp_tup h
theorem cnts_take (es : List Exp) : ∀ i : Nat, cnts (es.take i) ≤ cnts es := by
  induction es with
  | nil => intro i; rw [List.take_nil]; exact Nat.le_refl _
  | cons a es ih =>
    intro i
    cases i with
    | zero => exact Nat.zero_le _
    | succ i => rw [List.take_succ_cons, cnts, cnts]; have := ih i; omega
section
variable {P : Program} {w : World} {K : PySem.W.Frag} {mg : Str → Option Value}
theorem ok_rests_of [c : Facts K mg] : Fn P w K mg "rests_of" 1 ["one"] ((spRests K)) := by
  obtain ⟨fd, F⟩ := c.d_rests_of
  refine Fn.mk' F c.g_rests_of sc_rests_of (k := 0) (fun vs H Q E h => ?_) (fun _ _ _ _ _ _ us hl => match us, hl with | [_], _ => rfl) (fun base cdv A outer s H vs Q E hr h => ?_)
  · exact len_rests_of h
  · have nd := sc_rests_of.nd
    have hu := hu_of hr
    refine ⟨_, (pss_cons (ps_if (pt_cmpR (op_eqA (K := K) rfl hr.units) (pe_ix (ix_any (K := K) rfl) (pv 0) pe_int (fun _ _ => rfl)) pe_str (nomark _)) (pss_one (ps_ret (pe_lst (pa_cons (pe_ix (ix_any (K := K) rfl) (pv 0) pe_int (fun _ _ => rfl)) (pa_cons (pe_ix (ix_any (K := K) rfl) (pv 0) pe_int (fun _ _ => rfl)) pa_nil))))) pss_nil)
      (pss_one (ps_ret (pe_lst (pa_cons (pe_ix (ix_any (K := K) rfl) (pv 0) pe_int (fun _ _ => rfl)) pa_nil))))), ?_⟩
    try dsimp only [cxOf, Cx.nox, Cx.wish]
    obtain ⟨v, s, rfl, hv, q⟩ := h
    cases s with
    | cell a b =>
      obtain ⟨p, u, u2, rfl, hp, hu', hu2⟩ := exp_2 hv
      repeat walk_at "wf"
      refine w_new fun p1 H1 n1 s1 f1 => ?_
      exact q _ _ H1 f1 (.cons (Exp.ts (TS.of s1) hu') (.cons (Exp.ts (TS.of s1) hu2) .nil)) s1 n1
    | sel m k n e =>
      obtain ⟨p, u, u2, rfl, hp, hu', hu2⟩ := exp_2 hv
      have nc : (if m then ("mark" : Str) else "place") ≠ "cell" := by cases m <;> decide +kernel
      repeat walk_at "wf"
      refine w_new fun p1 H1 n1 s1 f1 => ?_
      exact q _ _ H1 f1 (.cons (Exp.ts (TS.of s1) hu2) .nil) s1 n1
theorem ok_parts_and_roots [c : Facts K mg] (G_rests_of : Fn P w K mg "rests_of" 1 ["one"] ((spRests K))) (GM_Parts___init__ : FnA P w K mg (He.ma K (He.ga K "Parts") "__init__") 1 ["self"] ((spInit (He.ga K "Parts")))) (GM_Parts_part_in : FnA P w K mg (He.ma K (He.ga K "Parts") "part_in") 5 ["self", "e"] ((spPartIn K (He.ga K "Parts") 4))) : Fn P w K mg "parts_and_roots" 6 ["sets"] ((spPR K)) := by
  obtain ⟨fd, F⟩ := c.d_parts_and_roots
  refine Fn.mk' F c.g_parts_and_roots sc_parts_and_roots (k := 5) (fun vs H Q E h => ?_) (fun _ _ _ _ _ _ us hl => match us, hl with | [_], _ => rfl) (fun base cdv A outer s H vs Q E hr h => ?_)
  · exact len_parts_and_roots h
  · have nd := sc_parts_and_roots.nd
    have hu := hu_of hr
    have hr_rests_of : Room 1 _ := hr.mono (by omega)
    have hrI_Parts : Room (1 + 1) _ := hr.mono (by omega)
    have hrM_Parts_part_in : Room 5 _ := hr.mono (by omega)
    refine ⟨_, (pss_cons (ps_set (i := 1) nd rfl (Or.inr rfl) (pe_mkI0 GM_Parts___init__ rfl c.mk_Parts c.gc_Parts hrI_Parts (by rfl)))
      (pss_cons (ps_set (i := 2) nd rfl (Or.inl rfl) (pe_lst pa_nil))
      (pss_cons (ps_for PassesOwn.never rfl (pi_tup (pv 0)) (pg_name (i := 3) nd rfl (Or.inl rfl)) (pss_one (ps_expr (pe_bm PySem.F.plainAttrs_list PySem.F.slot_list_append PySem.F.type_list_append mt_append (pv 2) (pa_cons (pe_callTy (call_tupA (K := K) rfl) (by rfl) c.f_tuple boot_tuple (pa_cons (pe_lc (own := [("e", 4)]) rfl nd (pi_list (pe_fn G_rests_of hr_rests_of (by rfl) (pa_cons (pv 3) pa_nil))) (blkOk_by (N := N_parts_and_roots) (sc := defScope s_parts_and_roots) (by decide +kernel)) (fun _ _ _ _ _ => (pg_name (i := 4) nd rfl (Or.inl rfl))) (fun _ _ _ _ _ => pts_nil) (fun _ _ _ _ _ => (pe_met GM_Parts_part_in rfl c.cl_Parts c.me_Parts_part_in hrM_Parts_part_in (pv 1) (pa_cons (pv 4) pa_nil)))) pa_nil)) pa_nil)))))
      (pss_one (ps_ret (pe_tup (pa_cons (pe_fldK (K := K) rfl (pv 1)) (pa_cons (pv 2) pa_nil)))))))), ?_⟩
    try dsimp only [cxOf, Cx.nox, Cx.wish]
    obtain ⟨v, ss, rfl, hv, hl, ho, q⟩ := h
    obtain ⟨a, xs, rfl, ha, hxs⟩ := set_d hv
    have hxl : xs.length = ss.length := by rw [dpa_len hxs, List.length_map]
    repeat walk_at "w"
    refine w_newI fun p dx H1 n1 s1 f1 => ?_
    refine ⟨p, dx, rfl, f1, fun l H2 f2 fl nl e2 => ⟨rfl, ?_⟩⟩
    repeat walk_at "w"
    refine w_new fun r H3 n3 s3 f3 => ?_
    have s02 : Same H H2 := But.new s1 n1 e2
    have s03 : Same H H3 := s02.trans s3
    have nl0 : H l = none := s1.free nl
    have nr0 : H r = none := s02.free n3
    have npl : p ≠ l := fun z => by rw [z, fl] at f2; cases f2
    have nrp : r ≠ p := fun z => by rw [z, f2] at n3; cases n3
    have nrl : r ≠ l := fun z => by rw [z, fl] at n3; cases n3
    repeat walk_at "w"
    refine fl_tup xs (fun i σ H' => ∃ o, σ = [some (.ref a), some (.ref p), some (.ref r), o, none] ∧ H' p = some (.ins (He.ga K "Parts") dx [("rows", .ref l)]) ∧ PL K H' l (proots (ss.take i) []).2 ∧ PL K H' r (proots (ss.take i) []).1 ∧ Same H H') (s03.sqT ha)
      ⟨_, rfl, s3 _ _ f2, (PL.new fl).same s3, PL.new f3, s03⟩ (fun i σ H' hi hp => ?_) (fun i x σ H' hi hp => ?_) (fun σ H' hp => ?_)
    · obtain ⟨o, rfl, _, _, _, sm⟩ := hp
      exact sm.sqT ha
    · obtain ⟨o, rfl, hpp, hP, hR, sm⟩ := hp
      have hi' : i < ss.length := by have := (List.getElem?_eq_some_iff.mp hi).1; omega
      obtain ⟨s, hs⟩ : ∃ s, ss[i]? = some s := ⟨_, List.getElem?_eq_getElem hi'⟩
      have os := ho s (List.mem_of_getElem? hs)
      have hx : Dp K H' x s.d := by
        obtain ⟨d, hd1, hd2⟩ := dpa_at' (dpAll_ts (TS.of sm) _ _ (setsD_tup ss) hxs) hi
        rw [List.getElem?_map, hs] at hd1
        cases Option.some.inj hd1
        exact hd2
      obtain ⟨ys, hy, hyd, hyr⟩ := id hR
      have ln := proots_len (ss.take i) [] (fun x hx => ho x (List.mem_of_mem_take hx))
      have lt : (ss.take i).length ≤ 4 := by rw [List.length_take]; omega
      have hyl : ys.length ≤ 4 := by rw [hR.len hy, ln.2]; exact lt
      have lp : (proots (ss.take i) []).2.length ≤ 120 := by have := ln.1; rw [List.length_nil] at this; omega
      have cr := cnts_le s.rests (okS_rests os)
      have rl : s.rests.length ≤ 2 := by cases s <;> simp [SetE.rests]
      repeat walk_at "w"
      refine ⟨x, s, rfl, hx, fun t us H4 ht hus s4 n4 => ?_⟩
      have hP4 := hP.same s4
      have hul : us.length = s.rests.length := by rw [dpa_len hus, List.length_map]
      refine lc_L us (fun D j zs H' => But l H4 H' ∧ PL K H' l (J.parts (s.rests.take j) (proots (ss.take i) []).2).2 ∧ DpAll K H' zs (J.parts (s.rests.take j) (proots (ss.take i) []).2).1) (SqL.of ht) (fun D H' hD e f => ⟨But.of e, hP4.same e, .nil⟩)
        (fun D hD j zs H' hi hy hp => ?_) (fun D hD j x zs H' hj hl hy hp => ?_) (fun D hD zs H' hl hz hp => ?_)
      · refine But.sqL hp.1 (fun z => ?_) (SqL.of ht)
        obtain ⟨_, g, _⟩ := hP
        rw [z, g] at n4; cases n4
      · obtain ⟨b1, hP', hys⟩ := hp
        have hj' : j < s.rests.length := by have := (List.getElem?_eq_some_iff.mp hj).1; omega
        obtain ⟨e, he⟩ : ∃ e, s.rests[j]? = some e := ⟨_, List.getElem?_eq_getElem hj'⟩
        have oe := okS_rests os e (List.mem_of_getElem? he)
        have ce := cnt4 oe (Nat.le_refl 4)
        have hza : (J.parts (s.rests.take j) (proots (ss.take i) []).2).2.length + e.cnt ≤ 1000 := by
          rw [parts_len]
          have := cnts_take s.rests j
          omega
        have t1 : TS H4 H' := hP4.tsB b1
        have hx : Dp K H' x e.d := by
          obtain ⟨d, hd1, hd2⟩ := dpa_at' (dpAll_ts t1 _ _ (exps_tup _) hus) hj
          rw [List.getElem?_map, he] at hd1
          cases Option.some.inj hd1
          exact hd2
        have hpp' : H' p = some (.ins (He.ga K "Parts") dx [("rows", .ref l)]) := b1 _ _ npl (s4 _ _ hpp)
        have nDl : D ≠ l := fun z => by rw [z] at hD; obtain ⟨_, g, _⟩ := hP4; rw [hD] at g; cases g
        repeat walk_at "w"
        refine ⟨x, p, dx, l, e, _, rfl, hpp', hx, oe, hP', hza, fun v H5 hv5 hP5 e5 => ?_⟩
        have hy2 : H5 D = some (.lst zs) := e5 _ _ nDl hy
        refine lc_end hy2 hl (by rw [sizeLine_eq]; omega) fun H6 e6 f6 => ?_
        have t2 : TS H' H5 := hP'.tsB e5
        have t3 : TS H5 H6 := TS.butL e6 hy2
        have ip := e.part_ok oe.2 hP'.choose_spec.2.2
        have ii := parts_ok (s.rests.take j) (ps := (proots (ss.take i) []).2) (fun y hy => (okS_rests os y (List.mem_of_mem_take hy)).2) hP.choose_spec.2.2
        rw [take_snoc he, parts_snoc]
        refine ⟨But.new2 (b1.trans e5) hD e6, hP5.ts t3 fun _ g => e6 _ _ nDl.symm g, ?_⟩
        exact dpa_app (dpAll_ts (t2.trans t3) _ _ (items_all ii.1).1 hys) (dpa_one (ip.1.ts t3 hv5))
      · obtain ⟨b1, hP', hys⟩ := hp
        rw [hul, List.take_length] at hys hP'
        have nrD : H' r = some (.lst ys) := b1 _ _ nrl (s4 _ _ hy)
        have hpp' : H' p = some (.ins (He.ga K "Parts") dx [("rows", .ref l)]) := b1 _ _ npl (s4 _ _ hpp)
        have ii := parts_ok s.rests (ps := (proots (ss.take i) []).2) (fun y hy => (okS_rests os y hy).2) hP.choose_spec.2.2
        have t1 : TS H4 H' := hP4.tsB b1
        repeat walk_at "w"
        refine w_new fun t5 H5 n5 s5 f5 => ?_
        repeat walk_at "w"
        refine w_chg fun H6 e6 f6 => ?_
        repeat walk_at "w"
        have rw5 : Row (.tuple (J.parts s.rests (proots (ss.take i) []).2).1) := ⟨_, rfl, ii.1⟩
        have hR5 : PL K H5 r (proots (ss.take i) []).1 := ((hR.same s4).but hP4 nrl b1).same s5
        have z := PL.snoc hR5 (s5 _ _ nrD) e6 f6 (.tup (SqT.of f5) (dpAll_ts (TS.of s5) _ _ (items_all ii.1).1 hys)) rw5
        rw [take_snoc hs, proots_snoc]
        have bl : But l H H' := (But.of (sm.trans s4)).trans b1
        refine ⟨_, rfl, e6 _ _ nrp.symm (s5 _ _ hpp'), (hP'.same s5).but hR5 nrl.symm e6, z.1, ?_⟩
        exact But.new ((But.new (sm.trans s4) nl0 b1).trans s5) nr0 e6
    · obtain ⟨o, rfl, hpp, hP, hR, sm⟩ := hp
      rw [hxl, List.take_length] at hP hR
      repeat walk_at "w"
      refine w_new fun t H4 n4 s4 f4 => ?_
      exact q t l r H4 f4 (hP.same s4) (hR.same s4) nl0 nr0 (sm.trans s4) nrl.symm
theorem ok_parts_of [c : Facts K mg] (G_parts_and_roots : Fn P w K mg "parts_and_roots" 6 ["sets"] ((spPR K))) : Fn P w K mg "parts_of" 7 ["sets"] ((spPof K)) := by
  obtain ⟨fd, F⟩ := c.d_parts_of
  refine Fn.mk' F c.g_parts_of sc_parts_of (k := 6) (fun vs H Q E h => ?_) (fun _ _ _ _ _ _ us hl => match us, hl with | [_], _ => rfl) (fun base cdv A outer s H vs Q E hr h => ?_)
  · exact len_parts_of h
  · have nd := sc_parts_of.nd
    have hu := hu_of hr
    have hr_parts_and_roots : Room 6 _ := hr.mono (by omega)
    refine ⟨_, (pss_cons (ps_asg (pe_fn G_parts_and_roots hr_parts_and_roots (by rfl) (pa_cons (pv 0) pa_nil)) (pg_seq 2 (K := K) rfl rfl (pgs_cons (pg_name (i := 1) nd rfl (Or.inl rfl)) (pgs_cons (pg_name (i := 2) nd rfl (Or.inl rfl)) pgs_nil))))
      (pss_one (ps_ret (pv 1)))), ?_⟩
    try dsimp only [cxOf, Cx.nox, Cx.wish]
    obtain ⟨v, ss, rfl, hv, hl, ho, q⟩ := h
    repeat walk_at "w"
    refine ⟨v, ss, rfl, hv, hl, ho, fun t l r H1 ht hP hR nl nr sm ne => ?_⟩
    repeat walk_at "w"
    exact q l H1 hP nl sm
theorem ok_roots_of [c : Facts K mg] (G_parts_and_roots : Fn P w K mg "parts_and_roots" 6 ["sets"] ((spPR K))) : Fn P w K mg "roots_of" 7 ["sets"] ((spRof K)) := by
  obtain ⟨fd, F⟩ := c.d_roots_of
  refine Fn.mk' F c.g_roots_of sc_roots_of (k := 6) (fun vs H Q E h => ?_) (fun _ _ _ _ _ _ us hl => match us, hl with | [_], _ => rfl) (fun base cdv A outer s H vs Q E hr h => ?_)
  · exact len_roots_of h
  · have nd := sc_roots_of.nd
    have hu := hu_of hr
    have hr_parts_and_roots : Room 6 _ := hr.mono (by omega)
    refine ⟨_, (pss_cons (ps_asg (pe_fn G_parts_and_roots hr_parts_and_roots (by rfl) (pa_cons (pv 0) pa_nil)) (pg_seq 2 (K := K) rfl rfl (pgs_cons (pg_name (i := 1) nd rfl (Or.inl rfl)) (pgs_cons (pg_name (i := 2) nd rfl (Or.inl rfl)) pgs_nil))))
      (pss_one (ps_ret (pv 2)))), ?_⟩
    try dsimp only [cxOf, Cx.nox, Cx.wish]
    obtain ⟨v, ss, rfl, hv, hl, ho, q⟩ := h
    repeat walk_at "w"
    refine ⟨v, ss, rfl, hv, hl, ho, fun t l r H1 ht hP hR nl nr sm ne => ?_⟩
    repeat walk_at "w"
    exact q r H1 hR nr sm
end

end J
namespace J
open PySem PySem.Spec PyProof.Rows L2
local macro_rules | `(tactic| walk_at "cls") => `(tactic| first
  | with_reducible exact Facts.cl_Parts
  | with_reducible exact Facts.cl_Order)
local macro_rules | `(tactic| walk_at "na") => `(tactic| first
  | with_reducible exact Facts.na_Parts_rows
  | with_reducible exact Facts.na_Order_parts
  | with_reducible exact Facts.na_Order_order
  | with_reducible exact Facts.na_Order_needed)
local macro_rules | `(tactic| walk_at "ty") => `(tactic| first
  | with_reducible exact ty_int
  | with_reducible exact ty_bl
  | with_reducible exact ty_str
  | with_reducible exact ty_non
  | ((with_reducible refine' ty_lst ?vv); (case vv => walk_at "tr"))
  | ((with_reducible refine' ty_sqT ?vv); (case vv => walk_at "tr"))
  | ((with_reducible refine' ty_dic ?vv); (case vv => walk_at "tr")))
local macro_rules | `(tactic| walk_at "ix") => `(tactic| first | exact at0 | exact at1 | exact at2 | assumption)
local macro_rules | `(tactic| walk_at "size") => `(tactic| first
  | assumption
  | (show _ < sizeLine; rw [sizeLine_eq]; (try simp only [List.length_cons, List.length_nil, List.length_append, List.length_map]); omega)
  | (show _ ≤ sizeLine; rw [sizeLine_eq]; (try simp only [List.length_cons, List.length_nil, List.length_append, List.length_map]); omega))
local macro_rules | `(tactic| walk_at "side") => `(tactic| first
  | assumption
  | ((with_reducible refine cdw ?_ ?_) <;> omega)
  | omega
  | (exact ⟨by omega, by omega⟩)
  | (exact Or.inl ⟨by omega, by omega⟩)
  | (exact Or.inr ⟨by omega, by omega⟩)
  | decide
  | (simp only [List.length_cons, List.length_nil, List.length_append, List.length_map]; omega)
  | (show _ ≤ _; decide))
local macro_rules | `(tactic| walk_at "as") => `(tactic| with_reducible assumption)
local macro_rules | `(tactic| walk_at "tr") => `(tactic| first
  | with_reducible assumption
  | with_reducible exact upd_same
  | ((with_reducible refine' SqL.of ?hh); (case hh => walk_at "as"))
  | ((with_reducible refine' SqT.of ?hh); (case hh => walk_at "as"))
  | ((with_reducible refine' Same.stm ?ee ?gg); (case ee => walk_at "as"); (case gg => walk_at "tr"))
  | ((with_reducible refine' Same.sqT ?ee ?gg); (case ee => walk_at "as"); (case gg => walk_at "tr"))
  | ((with_reducible refine' Same.sqL ?ee ?gg); (case ee => walk_at "as"); (case gg => walk_at "tr"))
  | ((with_reducible refine' Same.at ?ee ?gg); (case ee => walk_at "as"); (case gg => walk_at "tr"))
  | ((with_reducible refine' But.stm ?ee ?ff ?gg); (case ee => walk_at "as"); (case ff => walk_at "ne"); (case gg => walk_at "tr"))
  | ((with_reducible refine' But.tup ?ee ?ff ?gg); (case ee => walk_at "as"); (case ff => walk_at "tr1"); (case gg => walk_at "tr"))
  | ((with_reducible refine' But.sqT ?ee ?ff ?gg); (case ee => walk_at "as"); (case ff => walk_at "tr1"); (case gg => walk_at "tr"))
  | ((with_reducible refine' But.tupL ?ee ?ff ?gg); (case ee => walk_at "as"); (case ff => walk_at "tr1"); (case gg => walk_at "tr"))
  | ((with_reducible refine' But.sqTL ?ee ?ff ?gg); (case ee => walk_at "as"); (case ff => walk_at "tr1"); (case gg => walk_at "tr"))
  | ((with_reducible refine' But.sqL ?ee ?ff ?gg); (case ee => walk_at "as"); (case ff => walk_at "ne"); (case gg => walk_at "tr"))
  | ((with_reducible refine' But.at ?ee ?ff ?gg); (case ee => walk_at "as"); (case ff => walk_at "ne"); (case gg => walk_at "tr")))
local macro_rules | `(tactic| walk_at "ts") => `(tactic| first
  | with_reducible assumption
  | with_reducible exact TS.refl _
  | ((with_reducible refine' TS.trans ?gg (TS.of ?ee)); (case ee => walk_at "as"); (case gg => walk_at "ts"))
  | ((with_reducible refine' TS.trans ?gg (TS.butS ?ee ?ff)); (case ee => walk_at "as"); (case ff => walk_at "tr1"); (case gg => walk_at "ts"))
  | ((with_reducible refine' TS.trans ?gg (TS.butL ?ee ?ff)); (case ee => walk_at "as"); (case ff => walk_at "tr1"); (case gg => walk_at "ts"))
  | ((with_reducible refine' TS.trans ?gg (TS.butI ?ee ?ff)); (case ee => walk_at "as"); (case ff => walk_at "tr1"); (case gg => walk_at "ts")))
local macro_rules | `(tactic| walk_at "sm") => `(tactic| first
  | with_reducible assumption
  | with_reducible exact Same.refl _
  | ((with_reducible refine' Same.trans ?gg ?ee); (case ee => walk_at "as"); (case gg => walk_at "sm"))
  | ((with_reducible refine' But.new ?gg ?nn ?ee); (case ee => walk_at "as"); (case nn => walk_at "fr"); (case gg => walk_at "sm")))
local macro_rules | `(tactic| walk_at "fr") => `(tactic| first
  | with_reducible assumption
  | ((with_reducible refine' Same.back ?ee ?nn); (case nn => walk_at "as"); (case ee => walk_at "sm"))
  | ((with_reducible refine' But.back ?ee ?ff ?nn); (case nn => walk_at "as"); (case ff => walk_at "ne0"); (case ee => walk_at "bu")))
local macro_rules | `(tactic| walk_at "bu") => `(tactic| first
  | with_reducible assumption
  | with_reducible exact But.refl _ _
  | ((with_reducible refine' But.trans ?gg ?ee); (case ee => walk_at "as"); (case gg => walk_at "bu"))
  | ((with_reducible refine' But.trans ?gg (But.of ?ee)); (case ee => walk_at "as"); (case gg => walk_at "bu"))
  | ((with_reducible refine' But.new2 ?gg ?nn ?ee); (case ee => walk_at "as"); (case nn => walk_at "frB"); (case gg => walk_at "bu")))
local macro_rules | `(tactic| walk_at "frB") => `(tactic| first
  | with_reducible assumption
  | ((with_reducible refine' Same.back ?ee ?nn); (case nn => walk_at "as"); (case ee => walk_at "sm"))
  | ((with_reducible refine' But.back' ?ee ?ff ?nn); (case nn => walk_at "as"); (case ee => walk_at "bu"); (case ff => walk_at "tr1")))
local macro_rules | `(tactic| walk_at "tr1") => `(tactic| first
  | with_reducible assumption
  | ((with_reducible refine' Same.stm ?ee ?gg); (case ee => walk_at "as"); (case gg => walk_at "tr1"))
  | ((with_reducible refine' Same.at ?ee ?gg); (case ee => walk_at "as"); (case gg => walk_at "tr1"))
  | ((with_reducible refine' But.at ?ee ?ff ?gg); (case ee => walk_at "as"); (case ff => walk_at "ne0"); (case gg => walk_at "tr1"))
  | ((with_reducible refine' But.stm ?ee ?ff ?gg); (case ee => walk_at "as"); (case ff => walk_at "ne0"); (case gg => walk_at "tr1")))
local macro_rules | `(tactic| walk_at "ne0") => `(tactic| first
  | with_reducible assumption
  | (with_reducible apply Ne.symm; with_reducible assumption))
local macro_rules | `(tactic| walk_at "ne") => `(tactic| first
  | with_reducible assumption
  | (with_reducible apply Ne.symm; with_reducible assumption)
  | ((with_reducible refine' stm_ne ?hh ?nn); (case nn => walk_at "as"); (case hh => walk_at "tr1"))
  | ((with_reducible refine' ne_of_none ?hh ?nn); (case nn => walk_at "as"); (case hh => walk_at "tr1"))
  | ((with_reducible apply Ne.symm); (with_reducible refine' ne_of_none ?hh ?nn); (case nn => walk_at "as"); (case hh => walk_at "tr1")))
local macro_rules | `(tactic| walk_at "v") => `(tactic| first
  | with_reducible refine w_seq ?_
  | ((with_reducible refine' w_var ?vv ?_); (case vv => exact rfl))
  | with_reducible refine w_c ?_
  | with_reducible refine w_op ?_
  | with_reducible refine w_asg ?_
  | with_reducible refine w_gName ?_
  | with_reducible refine w_ret ?_
  | with_reducible refine w_ifS ?_
  | with_reducible refine w_drop ?_
  | with_reducible refine w_next ?_
  | with_reducible refine w_cons ?_
  | with_reducible refine w_nil ?_
  | with_reducible refine w_call ?_
  | with_reducible refine w_cb ?_
  | with_reducible refine w_rI0 ?_
  | with_reducible refine w_addI ?_
  | with_reducible refine w_eqI ?_
  | with_reducible refine w_neI ?_
  | with_reducible refine w_eqS ?_
  | with_reducible refine w_neS ?_
  | with_reducible refine w_eqB ?_
  | with_reducible refine w_neB ?_
  | with_reducible refine w_chain ?_
  | with_reducible refine w_test ?_
  | with_reducible refine w_tB ?_
  | with_reducible refine w_bl ?_
  | ((with_reducible refine' w_mulI ?vv ?_); (case vv => walk_at "side"))
  | ((with_reducible refine' w_rI ?vv ?_); (case vv => walk_at "side"))
  | with_reducible refine w_int1 ?_
  | with_reducible refine w_int1b ?_
  | with_reducible refine w_tup ?_
  | with_reducible refine w_lst ?_
  | with_reducible refine w_un ?_
  | with_reducible refine w_rU ?_
  | with_reducible refine w_not ?_
  | with_reducible refine w_notV ?_
  | with_reducible refine w_ifE ?_
  | with_reducible refine w_nT ?_
  | with_reducible refine w_nF ?_
  | with_reducible refine iteT ?_
  | with_reducible refine iteF ?_
  | ((with_reducible refine' w_ixT ?vv ?ww ?_); (case vv => walk_at "tr"); (case ww => walk_at "ix"))
  | ((with_reducible refine' w_ixL ?vv ?ww ?_); (case vv => walk_at "tr"); (case ww => walk_at "ix"))
  | with_reducible refine w_gSub ?_
  | ((with_reducible refine' w_setL ?vv ?ww ?_); (case vv => walk_at "tr"); (case ww => first | rfl | decide | assumption))
  | ((with_reducible refine' w_lenL ?vv ?_); (case vv => walk_at "tr"))
  | ((with_reducible refine' w_lenT ?vv ?_); (case vv => walk_at "tr"))
  | with_reducible refine w_max2 ?_
  | with_reducible refine w_max3 ?_
  | with_reducible refine w_din ?_
  | with_reducible refine w_dnotin ?_
  | with_reducible refine w_dput ?_
  | with_reducible refine w_min2 ?_
  | with_reducible refine w_bm ?_
  | with_reducible refine w_bm0 ?_
  | ((with_reducible refine' w_tyL ?vv ?_); (case vv => walk_at "tr"))
  | ((with_reducible refine' w_append ?vv ?ww ?_); (case vv => walk_at "tr"); (case ww => walk_at "size"))
  | ((with_reducible refine' w_size ?vv ?_); (case vv => walk_at "size"))
  | with_reducible refine w_forL ?_
  | with_reducible refine w_forT ?_
  | with_reducible refine w_forR1 ?_
  | with_reducible refine w_forR2 ?_
  | with_reducible refine w_lcL ?_
  | with_reducible refine w_lcT ?_
  | with_reducible refine w_lcR1 ?_
  | with_reducible refine w_yes ?_
  | with_reducible refine w_sl ?_
  | with_reducible refine w_noPart ?_
  | with_reducible refine w_part ?_
  | with_reducible refine w_int ?_
  | ((with_reducible refine' w_slL ?vv ?_); (case vv => walk_at "tr"))
  | ((with_reducible refine' w_seqL ?vv ?ww ?_); (case vv => walk_at "tr"); (case ww => rfl))
  | ((with_reducible refine' w_seqT ?vv ?ww ?_); (case vv => walk_at "tr"); (case ww => rfl))
  | with_reducible refine w_gNil ?_
  | with_reducible refine w_gCons ?_
  | with_reducible refine w_forZ ?_
  | with_reducible refine w_forM ?_
  | with_reducible refine w_forE ?_
  | with_reducible refine w_forV ?_
  | with_reducible refine w_lcZ ?_
  | with_reducible refine w_lcE ?_
  | ((with_reducible refine' w_isi (b := true) ?vv ?ww ?_); (case vv => walk_at "ty"); (case ww => decide +kernel))
  | ((with_reducible refine' w_isi (b := false) ?vv ?ww ?_); (case vv => walk_at "ty"); (case ww => decide +kernel))
  | with_reducible refine w_revL ?_
  | with_reducible refine w_pairN ?_
  | with_reducible refine w_pairC ?_
  | with_reducible refine w_dget ?_
  | with_reducible refine w_met ?_
  | ((with_reducible refine' w_metAt ?vv ?ww ?_); (case vv => walk_at "tr"); (case ww => rfl))
  | with_reducible refine w_mkI ?_
  | with_reducible refine w_fld ?_
  | ((with_reducible refine' w_fldAt ?vv ?cc ?nn ?ww ?_); (case vv => walk_at "tr"); (case cc => walk_at "cls"); (case nn => walk_at "na"); (case ww => rfl))
  | with_reducible refine w_sfld ?_
  | ((with_reducible refine' w_sfldAt ?vv ?cc ?nn ?ll ?ee ?_); (case vv => walk_at "tr"); (case cc => walk_at "cls"); (case nn => walk_at "na"); (case ll => simp); (case ee => rfl))
  | ((with_reducible refine' w_tupL ?vv ?_); (case vv => walk_at "tr"))
  | ((with_reducible refine' w_tupT ?vv ?_); (case vv => walk_at "tr"))
  | ((with_reducible refine' w_listL ?vv ?_); (case vv => walk_at "tr"))
  | ((with_reducible refine' w_listT ?vv ?_); (case vv => walk_at "tr"))
  | with_reducible refine w_tyS ?_
  | with_reducible refine w_retN ?_
  | with_reducible refine w_break ?_
  | with_reducible refine w_cont ?_)
local macro_rules | `(tactic| walk_at "w") => `(tactic| first
  | walk_at "v"
  | with_reducible refine w_or ?_
  | with_reducible refine w_and ?_
  | with_reducible refine w_andV ?_
  | with_reducible refine w_orV ?_)
local macro_rules | `(tactic| walk_at "wd") => `(tactic| first
  | walk_at "w"
  | ((with_reducible refine' w_decT ?vv ?_); (case vv => decide +kernel))
  | ((with_reducible refine' w_decF ?vv ?_); (case vv => decide +kernel)))
local macro_rules | `(tactic| walk_at "tz") => `(tactic| (intro S z; (repeat walk_at "w"); exact z))
local macro_rules | `(tactic| walk_at "wf") => `(tactic| first
  | walk_at "wd"
  | ((with_reducible refine' w_decF ?vv ?_); (case vv => with_reducible assumption)))
def spLP (K : PySem.W.Frag) : Sp := fun vs H Q _ => ∃ (v : V) (ss : List SetE), vs = [v] ∧ Dp K H v (setsD ss) ∧ ss.length ≤ 4 ∧ (∀ x ∈ ss, OkS 4 x) ∧ ∀ t l r H', H' t = some (.tup [.ref l, .ref r]) → PL K H' l (proots ss []).2 → PL K H' r (proots ss []).1 → H l = none → H r = none → Same H H' → l ≠ r → Q (.ref t) H'
theorem len_law_parts {K : PySem.W.Frag} {vs H Q E} (h : spLP K vs H Q E) : vs.length = 1 := by obtain ⟨_, _, rfl, _⟩ := h; rfl
theorem set_d' {K : PySem.W.Frag} {H : Hp} {v : V} {ss : List SetE} (h : Dp K H v (setsD ss)) : ∃ p xs, v = .ref p ∧ SqT K H p xs ∧ DpAll K H xs (ss.map SetE.d) := dp_tup h
section
variable {P : Program} {w : World} {K : PySem.W.Frag} {mg : Str → Option Value}
theorem ok_law_parts [c : Facts K mg] (G__law_part : Fn P w K mg "_law_part" 5 ["e", "parts"] ((spPart K 4))) : Fn P w K mg "_law_parts" 6 ["sets"] ((spLP K)) := by
  obtain ⟨fd, F⟩ := c.d_law_parts
  refine Fn.mk' F c.g_law_parts sc_law_parts (k := 5) (fun vs H Q E h => ?_) (fun _ _ _ _ _ _ us hl => match us, hl with | [_], _ => rfl) (fun base cdv A outer s H vs Q E hr h => ?_)
  · exact len_law_parts h
  · have nd := sc_law_parts.nd
    have hu := hu_of hr
    have hr__law_part : Room 5 _ := hr.mono (by omega)
    refine ⟨_, (pss_cons (ps_set (i := 1) nd rfl (Or.inl rfl) (pe_lst pa_nil))
      (pss_cons (ps_set (i := 2) nd rfl (Or.inl rfl) (pe_lst pa_nil))
      (pss_cons (ps_for PassesOwn.never rfl (pi_tup (pv 0)) (pg_name (i := 3) nd rfl (Or.inl rfl)) (pss_one (ps_if (pt_cmpR (op_eqA (K := K) rfl hr.units) (pe_ix (ix_any (K := K) rfl) (pv 3) pe_int (fun _ _ => rfl)) pe_str (nomark _)) (pss_cons (ps_set (i := 4) nd rfl (Or.inl rfl) (pe_fn G__law_part hr__law_part (by rfl) (pa_cons (pe_ix (ix_any (K := K) rfl) (pv 3) pe_int (fun _ _ => rfl)) (pa_cons (pv 1) pa_nil))))
      (pss_one (ps_expr (pe_bm PySem.F.plainAttrs_list PySem.F.slot_list_append PySem.F.type_list_append mt_append (pv 2) (pa_cons (pe_tup (pa_cons (pv 4) (pa_cons (pe_fn G__law_part hr__law_part (by rfl) (pa_cons (pe_ix (ix_any (K := K) rfl) (pv 3) pe_int (fun _ _ => rfl)) (pa_cons (pv 1) pa_nil))) pa_nil))) pa_nil))))) (pss_one (ps_expr (pe_bm PySem.F.plainAttrs_list PySem.F.slot_list_append PySem.F.type_list_append mt_append (pv 2) (pa_cons (pe_tup (pa_cons (pe_fn G__law_part hr__law_part (by rfl) (pa_cons (pe_ix (ix_any (K := K) rfl) (pv 3) pe_int (fun _ _ => rfl)) (pa_cons (pv 1) pa_nil))) pa_nil)) pa_nil)))))))
      (pss_one (ps_ret (pe_tup (pa_cons (pv 1) (pa_cons (pv 2) pa_nil)))))))), ?_⟩
    try dsimp only [cxOf, Cx.nox, Cx.wish]
    obtain ⟨v, ss, rfl, hv, hl, ho, q⟩ := h
    obtain ⟨a, xs, rfl, ha, hxs⟩ := set_d' hv
    have hxl : xs.length = ss.length := by rw [dpa_len hxs, List.length_map]
    repeat walk_at "w"
    refine w_new fun l H2 nl0 s02 fl => ?_
    repeat walk_at "w"
    refine w_new fun r H3 n3 s3 f3 => ?_
    have s03 : Same H H3 := s02.trans s3
    have nr0 : H r = none := s02.free n3
    have nrl : r ≠ l := fun z => by rw [z, fl] at n3; cases n3
    repeat walk_at "w"
    refine fl_tup xs (fun i σ H' => ∃ o f, σ = [some (.ref a), some (.ref l), some (.ref r), o, f] ∧ PL K H' l (proots (ss.take i) []).2 ∧ PL K H' r (proots (ss.take i) []).1 ∧ Same H H') (s03.sqT ha)
      ⟨_, _, rfl, (PL.new fl).same s3, PL.new f3, s03⟩ (fun i σ H' hi hp => ?_) (fun i x σ H' hi hp => ?_) (fun σ H' hp => ?_)
    · obtain ⟨o, f, rfl, _, _, sm⟩ := hp
      exact sm.sqT ha
    · obtain ⟨o, f, rfl, hP, hR, sm⟩ := hp
      have hi' : i < ss.length := by have := (List.getElem?_eq_some_iff.mp hi).1; omega
      obtain ⟨s, hs⟩ : ∃ s, ss[i]? = some s := ⟨_, List.getElem?_eq_getElem hi'⟩
      have os := ho s (List.mem_of_getElem? hs)
      have hx : Dp K H' x s.d := by
        obtain ⟨d, hd1, hd2⟩ := dpa_at' (dpAll_ts (TS.of sm) _ _ (setsD_tup ss) hxs) hi
        rw [List.getElem?_map, hs] at hd1
        cases Option.some.inj hd1
        exact hd2
      obtain ⟨ys, hy, hyd, hyr⟩ := id hR
      have ln := proots_len (ss.take i) [] (fun x hx => ho x (List.mem_of_mem_take hx))
      have lt : (ss.take i).length ≤ 4 := by rw [List.length_take]; omega
      have hyl : ys.length ≤ 4 := by rw [hR.len hy, ln.2]; exact lt
      have lp : (proots (ss.take i) []).2.length ≤ 120 := by have := ln.1; rw [List.length_nil] at this; omega
      rw [take_snoc hs, proots_snoc]
      cases s with
      | cell e1 e2 =>
        have c1 := cnt4 os.1 (Nat.le_refl 4)
        have c2 := cnt4 os.2 (Nat.le_refl 4)
        have i1 := e1.part_ok os.1.2 hP.choose_spec.2.2
        have i2 := e2.part_ok os.2.2 i1.2
        obtain ⟨p, u, u2, rfl, hp, hu', hu2⟩ := exp_2 hx
        repeat walk_at "wf"
        refine ⟨u, l, e1, _, rfl, hu', os.1, hP, by omega, fun v1 H4 hv1 hP4 e4 => ?_⟩
        have t4 := hP.tsB e4
        have hp4 := t4.sqT hp
        have hR4 := hR.but hP nrl e4
        have hy4 := e4 _ _ nrl hy
        repeat walk_at "w"
        refine ⟨u2, l, e2, _, rfl, dp_ts t4 _ _ e2.tup hu2, os.2, hP4, by rw [e1.part_len]; omega, fun v2 H5 hv2 hP5 e5 => ?_⟩
        have t5 := hP4.tsB e5
        have hR5 := hR4.but hP4 nrl e5
        have hy5 := e5 _ _ nrl hy4
        repeat walk_at "w"
        refine w_new fun t6 H6 n6 s6 f6 => ?_
        repeat walk_at "w"
        refine w_chg fun H7 e7 f7 => ?_
        repeat walk_at "w"
        have rw5 : Row (.tuple (J.parts (SetE.cell e1 e2).rests (proots (ss.take i) []).2).1) := ⟨_, rfl, fun x hx => by
          simp only [SetE.rests, J.parts, List.mem_cons, List.mem_nil_iff, or_false] at hx
          rcases hx with rfl | rfl
          · exact i1.1
          · exact i2.1⟩
        have z := PL.snoc (hR5.same s6) (s6 _ _ hy5) e7 f7 (.tup (SqT.of f6) (.cons (i1.1.ts (t5.trans (TS.of s6)) hv1) (.cons (i2.1.ts (TS.of s6) hv2) .nil))) rw5
        exact ⟨_, _, rfl, (hP5.same s6).but (hR5.same s6) nrl.symm e7, z.1, But.new ((But.new sm nl0 (e4.trans e5)).trans s6) nr0 e7⟩
      | sel m k j e1 =>
        have nc : (if m then ("mark" : Str) else "place") ≠ "cell" := by cases m <;> decide +kernel
        have c1 := cnt4 os.2 (Nat.le_refl 4)
        have i1 := e1.part_ok os.2.2 hP.choose_spec.2.2
        obtain ⟨p, u, u2, rfl, hp, hu', hu2⟩ := exp_2 hx
        repeat walk_at "wf"
        refine ⟨u2, l, e1, _, rfl, hu2, os.2, hP, by omega, fun v1 H4 hv1 hP4 e4 => ?_⟩
        have t4 := hP.tsB e4
        have hR4 := hR.but hP nrl e4
        have hy4 := e4 _ _ nrl hy
        repeat walk_at "w"
        refine w_new fun t6 H6 n6 s6 f6 => ?_
        repeat walk_at "w"
        refine w_chg fun H7 e7 f7 => ?_
        repeat walk_at "w"
        have rw5 : Row (.tuple (J.parts (SetE.sel m k j e1).rests (proots (ss.take i) []).2).1) := ⟨_, rfl, fun x hx => by
          simp only [SetE.rests, J.parts, List.mem_cons, List.mem_nil_iff, or_false] at hx
          rw [hx]; exact i1.1⟩
        have z := PL.snoc (hR4.same s6) (s6 _ _ hy4) e7 f7 (.tup (SqT.of f6) (.cons (i1.1.ts (TS.of s6) hv1) .nil)) rw5
        exact ⟨_, _, rfl, (hP4.same s6).but (hR4.same s6) nrl.symm e7, z.1, But.new ((But.new sm nl0 e4).trans s6) nr0 e7⟩
    · obtain ⟨o, f, rfl, hP, hR, sm⟩ := hp
      rw [hxl, List.take_length] at hP hR
      repeat walk_at "w"
      refine w_new fun t H4 n4 s4 f4 => ?_
      exact q t l r H4 f4 (hP.same s4) (hR.same s4) nl0 nr0 (sm.trans s4) nrl.symm
end

end J
namespace J
open PySem PySem.Spec PyProof.Rows L2
local macro_rules | `(tactic| walk_at "cls") => `(tactic| first
  | with_reducible exact Facts.cl_Parts
  | with_reducible exact Facts.cl_Order)
local macro_rules | `(tactic| walk_at "na") => `(tactic| first
  | with_reducible exact Facts.na_Parts_rows
  | with_reducible exact Facts.na_Order_parts
  | with_reducible exact Facts.na_Order_order
  | with_reducible exact Facts.na_Order_needed)
local macro_rules | `(tactic| walk_at "ty") => `(tactic| first
  | with_reducible exact ty_int
  | with_reducible exact ty_bl
  | with_reducible exact ty_str
  | with_reducible exact ty_non
  | ((with_reducible refine' ty_lst ?vv); (case vv => walk_at "tr"))
  | ((with_reducible refine' ty_sqT ?vv); (case vv => walk_at "tr"))
  | ((with_reducible refine' ty_dic ?vv); (case vv => walk_at "tr")))
local macro_rules | `(tactic| walk_at "ix") => `(tactic| first | exact at0 | exact at1 | exact at2 | assumption)
local macro_rules | `(tactic| walk_at "size") => `(tactic| first
  | assumption
  | (show _ < sizeLine; rw [sizeLine_eq]; (try simp only [List.length_cons, List.length_nil, List.length_append, List.length_map]); omega)
  | (show _ ≤ sizeLine; rw [sizeLine_eq]; (try simp only [List.length_cons, List.length_nil, List.length_append, List.length_map]); omega))
local macro_rules | `(tactic| walk_at "side") => `(tactic| first
  | assumption
  | ((with_reducible refine cdw ?_ ?_) <;> omega)
  | omega
  | (exact ⟨by omega, by omega⟩)
  | (exact Or.inl ⟨by omega, by omega⟩)
  | (exact Or.inr ⟨by omega, by omega⟩)
  | decide
  | (simp only [List.length_cons, List.length_nil, List.length_append, List.length_map]; omega)
  | (show _ ≤ _; decide))
local macro_rules | `(tactic| walk_at "as") => `(tactic| with_reducible assumption)
local macro_rules | `(tactic| walk_at "tr") => `(tactic| first
  | with_reducible assumption
  | with_reducible exact upd_same
  | ((with_reducible refine' SqL.of ?hh); (case hh => walk_at "as"))
  | ((with_reducible refine' SqT.of ?hh); (case hh => walk_at "as"))
  | ((with_reducible refine' Same.stm ?ee ?gg); (case ee => walk_at "as"); (case gg => walk_at "tr"))
  | ((with_reducible refine' Same.sqT ?ee ?gg); (case ee => walk_at "as"); (case gg => walk_at "tr"))
  | ((with_reducible refine' Same.sqL ?ee ?gg); (case ee => walk_at "as"); (case gg => walk_at "tr"))
  | ((with_reducible refine' Same.at ?ee ?gg); (case ee => walk_at "as"); (case gg => walk_at "tr"))
  | ((with_reducible refine' But.stm ?ee ?ff ?gg); (case ee => walk_at "as"); (case ff => walk_at "ne"); (case gg => walk_at "tr"))
  | ((with_reducible refine' But.tup ?ee ?ff ?gg); (case ee => walk_at "as"); (case ff => walk_at "tr1"); (case gg => walk_at "tr"))
  | ((with_reducible refine' But.sqT ?ee ?ff ?gg); (case ee => walk_at "as"); (case ff => walk_at "tr1"); (case gg => walk_at "tr"))
  | ((with_reducible refine' But.tupL ?ee ?ff ?gg); (case ee => walk_at "as"); (case ff => walk_at "tr1"); (case gg => walk_at "tr"))
  | ((with_reducible refine' But.sqTL ?ee ?ff ?gg); (case ee => walk_at "as"); (case ff => walk_at "tr1"); (case gg => walk_at "tr"))
  | ((with_reducible refine' But.sqL ?ee ?ff ?gg); (case ee => walk_at "as"); (case ff => walk_at "ne"); (case gg => walk_at "tr"))
  | ((with_reducible refine' But.at ?ee ?ff ?gg); (case ee => walk_at "as"); (case ff => walk_at "ne"); (case gg => walk_at "tr")))
local macro_rules | `(tactic| walk_at "ts") => `(tactic| first
  | with_reducible assumption
  | with_reducible exact TS.refl _
  | ((with_reducible refine' TS.trans ?gg (TS.of ?ee)); (case ee => walk_at "as"); (case gg => walk_at "ts"))
  | ((with_reducible refine' TS.trans ?gg (TS.butS ?ee ?ff)); (case ee => walk_at "as"); (case ff => walk_at "tr1"); (case gg => walk_at "ts"))
  | ((with_reducible refine' TS.trans ?gg (TS.butL ?ee ?ff)); (case ee => walk_at "as"); (case ff => walk_at "tr1"); (case gg => walk_at "ts"))
  | ((with_reducible refine' TS.trans ?gg (TS.butI ?ee ?ff)); (case ee => walk_at "as"); (case ff => walk_at "tr1"); (case gg => walk_at "ts")))
local macro_rules | `(tactic| walk_at "sm") => `(tactic| first
  | with_reducible assumption
  | with_reducible exact Same.refl _
  | ((with_reducible refine' Same.trans ?gg ?ee); (case ee => walk_at "as"); (case gg => walk_at "sm"))
  | ((with_reducible refine' But.new ?gg ?nn ?ee); (case ee => walk_at "as"); (case nn => walk_at "fr"); (case gg => walk_at "sm")))
local macro_rules | `(tactic| walk_at "fr") => `(tactic| first
  | with_reducible assumption
  | ((with_reducible refine' Same.back ?ee ?nn); (case nn => walk_at "as"); (case ee => walk_at "sm"))
  | ((with_reducible refine' But.back ?ee ?ff ?nn); (case nn => walk_at "as"); (case ff => walk_at "ne0"); (case ee => walk_at "bu")))
local macro_rules | `(tactic| walk_at "bu") => `(tactic| first
  | with_reducible assumption
  | with_reducible exact But.refl _ _
  | ((with_reducible refine' But.trans ?gg ?ee); (case ee => walk_at "as"); (case gg => walk_at "bu"))
  | ((with_reducible refine' But.trans ?gg (But.of ?ee)); (case ee => walk_at "as"); (case gg => walk_at "bu"))
  | ((with_reducible refine' But.new2 ?gg ?nn ?ee); (case ee => walk_at "as"); (case nn => walk_at "frB"); (case gg => walk_at "bu")))
local macro_rules | `(tactic| walk_at "frB") => `(tactic| first
  | with_reducible assumption
  | ((with_reducible refine' Same.back ?ee ?nn); (case nn => walk_at "as"); (case ee => walk_at "sm"))
  | ((with_reducible refine' But.back' ?ee ?ff ?nn); (case nn => walk_at "as"); (case ee => walk_at "bu"); (case ff => walk_at "tr1")))
local macro_rules | `(tactic| walk_at "tr1") => `(tactic| first
  | with_reducible assumption
  | ((with_reducible refine' Same.stm ?ee ?gg); (case ee => walk_at "as"); (case gg => walk_at "tr1"))
  | ((with_reducible refine' Same.at ?ee ?gg); (case ee => walk_at "as"); (case gg => walk_at "tr1"))
  | ((with_reducible refine' But.at ?ee ?ff ?gg); (case ee => walk_at "as"); (case ff => walk_at "ne0"); (case gg => walk_at "tr1"))
  | ((with_reducible refine' But.stm ?ee ?ff ?gg); (case ee => walk_at "as"); (case ff => walk_at "ne0"); (case gg => walk_at "tr1")))
local macro_rules | `(tactic| walk_at "ne0") => `(tactic| first
  | with_reducible assumption
  | (with_reducible apply Ne.symm; with_reducible assumption))
local macro_rules | `(tactic| walk_at "ne") => `(tactic| first
  | with_reducible assumption
  | (with_reducible apply Ne.symm; with_reducible assumption)
  | ((with_reducible refine' stm_ne ?hh ?nn); (case nn => walk_at "as"); (case hh => walk_at "tr1"))
  | ((with_reducible refine' ne_of_none ?hh ?nn); (case nn => walk_at "as"); (case hh => walk_at "tr1"))
  | ((with_reducible apply Ne.symm); (with_reducible refine' ne_of_none ?hh ?nn); (case nn => walk_at "as"); (case hh => walk_at "tr1")))
local macro_rules | `(tactic| walk_at "v") => `(tactic| first
  | with_reducible refine w_seq ?_
  | ((with_reducible refine' w_var ?vv ?_); (case vv => exact rfl))
  | with_reducible refine w_c ?_
  | with_reducible refine w_op ?_
  | with_reducible refine w_asg ?_
  | with_reducible refine w_gName ?_
  | with_reducible refine w_ret ?_
  | with_reducible refine w_ifS ?_
  | with_reducible refine w_drop ?_
  | with_reducible refine w_next ?_
  | with_reducible refine w_cons ?_
  | with_reducible refine w_nil ?_
  | with_reducible refine w_call ?_
  | with_reducible refine w_cb ?_
  | with_reducible refine w_rI0 ?_
  | with_reducible refine w_addI ?_
  | with_reducible refine w_eqI ?_
  | with_reducible refine w_neI ?_
  | with_reducible refine w_eqS ?_
  | with_reducible refine w_neS ?_
  | with_reducible refine w_eqB ?_
  | with_reducible refine w_neB ?_
  | with_reducible refine w_chain ?_
  | with_reducible refine w_test ?_
  | with_reducible refine w_tB ?_
  | with_reducible refine w_bl ?_
  | ((with_reducible refine' w_mulI ?vv ?_); (case vv => walk_at "side"))
  | ((with_reducible refine' w_rI ?vv ?_); (case vv => walk_at "side"))
  | with_reducible refine w_int1 ?_
  | with_reducible refine w_int1b ?_
  | with_reducible refine w_tup ?_
  | with_reducible refine w_lst ?_
  | with_reducible refine w_un ?_
  | with_reducible refine w_rU ?_
  | with_reducible refine w_not ?_
  | with_reducible refine w_notV ?_
  | with_reducible refine w_ifE ?_
  | with_reducible refine w_nT ?_
  | with_reducible refine w_nF ?_
  | with_reducible refine iteT ?_
  | with_reducible refine iteF ?_
  | ((with_reducible refine' w_ixT ?vv ?ww ?_); (case vv => walk_at "tr"); (case ww => walk_at "ix"))
  | ((with_reducible refine' w_ixL ?vv ?ww ?_); (case vv => walk_at "tr"); (case ww => walk_at "ix"))
  | with_reducible refine w_gSub ?_
  | ((with_reducible refine' w_setL ?vv ?ww ?_); (case vv => walk_at "tr"); (case ww => first | rfl | decide | assumption))
  | ((with_reducible refine' w_lenL ?vv ?_); (case vv => walk_at "tr"))
  | ((with_reducible refine' w_lenT ?vv ?_); (case vv => walk_at "tr"))
  | with_reducible refine w_max2 ?_
  | with_reducible refine w_max3 ?_
  | with_reducible refine w_din ?_
  | with_reducible refine w_dnotin ?_
  | with_reducible refine w_dput ?_
  | with_reducible refine w_min2 ?_
  | with_reducible refine w_bm ?_
  | with_reducible refine w_bm0 ?_
  | ((with_reducible refine' w_tyL ?vv ?_); (case vv => walk_at "tr"))
  | ((with_reducible refine' w_append ?vv ?ww ?_); (case vv => walk_at "tr"); (case ww => walk_at "size"))
  | ((with_reducible refine' w_size ?vv ?_); (case vv => walk_at "size"))
  | with_reducible refine w_forL ?_
  | with_reducible refine w_forT ?_
  | with_reducible refine w_forR1 ?_
  | with_reducible refine w_forR2 ?_
  | with_reducible refine w_lcL ?_
  | with_reducible refine w_lcT ?_
  | with_reducible refine w_lcR1 ?_
  | with_reducible refine w_yes ?_
  | with_reducible refine w_sl ?_
  | with_reducible refine w_noPart ?_
  | with_reducible refine w_part ?_
  | with_reducible refine w_int ?_
  | ((with_reducible refine' w_slL ?vv ?_); (case vv => walk_at "tr"))
  | ((with_reducible refine' w_seqL ?vv ?ww ?_); (case vv => walk_at "tr"); (case ww => rfl))
  | ((with_reducible refine' w_seqT ?vv ?ww ?_); (case vv => walk_at "tr"); (case ww => rfl))
  | with_reducible refine w_gNil ?_
  | with_reducible refine w_gCons ?_
  | with_reducible refine w_forZ ?_
  | with_reducible refine w_forM ?_
  | with_reducible refine w_forE ?_
  | with_reducible refine w_forV ?_
  | with_reducible refine w_lcZ ?_
  | with_reducible refine w_lcE ?_
  | ((with_reducible refine' w_isi (b := true) ?vv ?ww ?_); (case vv => walk_at "ty"); (case ww => decide +kernel))
  | ((with_reducible refine' w_isi (b := false) ?vv ?ww ?_); (case vv => walk_at "ty"); (case ww => decide +kernel))
  | with_reducible refine w_revL ?_
  | with_reducible refine w_pairN ?_
  | with_reducible refine w_pairC ?_
  | with_reducible refine w_dget ?_
  | with_reducible refine w_met ?_
  | ((with_reducible refine' w_metAt ?vv ?ww ?_); (case vv => walk_at "tr"); (case ww => rfl))
  | with_reducible refine w_mkI ?_
  | with_reducible refine w_fld ?_
  | ((with_reducible refine' w_fldAt ?vv ?cc ?nn ?ww ?_); (case vv => walk_at "tr"); (case cc => walk_at "cls"); (case nn => walk_at "na"); (case ww => rfl))
  | with_reducible refine w_sfld ?_
  | ((with_reducible refine' w_sfldAt ?vv ?cc ?nn ?ll ?ee ?_); (case vv => walk_at "tr"); (case cc => walk_at "cls"); (case nn => walk_at "na"); (case ll => simp); (case ee => rfl))
  | ((with_reducible refine' w_tupL ?vv ?_); (case vv => walk_at "tr"))
  | ((with_reducible refine' w_tupT ?vv ?_); (case vv => walk_at "tr"))
  | ((with_reducible refine' w_listL ?vv ?_); (case vv => walk_at "tr"))
  | ((with_reducible refine' w_listT ?vv ?_); (case vv => walk_at "tr"))
  | with_reducible refine w_tyS ?_
  | with_reducible refine w_retN ?_
  | with_reducible refine w_break ?_
  | with_reducible refine w_cont ?_)
local macro_rules | `(tactic| walk_at "w") => `(tactic| first
  | walk_at "v"
  | with_reducible refine w_or ?_
  | with_reducible refine w_and ?_
  | with_reducible refine w_andV ?_
  | with_reducible refine w_orV ?_)
local macro_rules | `(tactic| walk_at "wd") => `(tactic| first
  | walk_at "w"
  | ((with_reducible refine' w_decT ?vv ?_); (case vv => decide +kernel))
  | ((with_reducible refine' w_decF ?vv ?_); (case vv => decide +kernel)))
local macro_rules | `(tactic| walk_at "tz") => `(tactic| (intro S z; (repeat walk_at "w"); exact z))
local macro_rules | `(tactic| walk_at "wf") => `(tactic| first
  | walk_at "wd"
  | ((with_reducible refine' w_decF ?vv ?_); (case vv => with_reducible assumption)))
/-! ### own parts, orders, needs: the program's -/
def PRow (d : PyData) : Prop := ∃ s items, d = .tuple (.str s :: items) ∧ PyData.strOk s = true ∧ (∀ x ∈ items, Item x) ∧ 1 ≤ items.length ∧ items.length ≤ 2 ∧ ((s = "get" ∨ s = "ask") → intsD items = [])
theorem PRow.own {s : Str} {items : List PyData} : ownD (.tuple (.str s :: items)) = intsD items := rfl
theorem opS_no {o : Str} (h : OpS o) : ¬ (o = "get" ∨ o = "ask") := by
  rcases h with rfl | rfl | rfl | rfl | rfl | rfl | rfl | rfl | rfl <;> decide +kernel
theorem Exp.part_prow : ∀ (e : Exp) {ps : List PyData}, e.good → Rows ps → (∀ d ∈ ps, PRow d) → ∀ d ∈ (e.part ps).2, PRow d
  | .num _, _, _, _, h => h
  | .fld _, _, _, _, h => h
  | .plc k n, ps, g, _, h => fun d hd => by
    rcases List.mem_append.mp hd with q | q
    · exact h d q
    · rw [List.mem_singleton.mp q]
      exact ⟨"get", [selD k n], rfl, by decide +kernel, fun x hx => by rw [List.mem_singleton.mp hx]; exact .pair g.ok n, by simp, by simp, fun _ => rfl⟩
  | .mrk k n, ps, g, _, h => fun d hd => by
    rcases List.mem_append.mp hd with q | q
    · exact h d q
    · rw [List.mem_singleton.mp q]
      exact ⟨"ask", [selD k n], rfl, by decide +kernel, fun x hx => by rw [List.mem_singleton.mp hx]; exact .pair g.ok n, by simp, by simp, fun _ => rfl⟩
  | .cell a, ps, g, r, h => fun d hd => by
    have ih := Exp.part_prow a (ps := ps) g r h
    rcases List.mem_append.mp hd with q | q
    · exact ih d q
    · rw [List.mem_singleton.mp q]
      exact ⟨"cell", _, rfl, by decide +kernel, fun x hx => by rw [List.mem_singleton.mp hx]; exact (a.part_ok g r).1, by simp, by simp, fun z => absurd z (by decide +kernel)⟩
  | .two o a b, ps, g, r, h => fun d hd => by
    have r1 := (a.part_ok g.2.1 r)
    have r2 := (b.part_ok g.2.2 r1.2)
    have ih := Exp.part_prow b (ps := (a.part ps).2) g.2.2 r1.2 (Exp.part_prow a g.2.1 r h)
    rcases List.mem_append.mp hd with q | q
    · exact ih d q
    · rw [List.mem_singleton.mp q]
      exact ⟨o, _, rfl, g.1.ok, fun x hx => by
        simp only [List.mem_cons, List.mem_nil_iff, or_false] at hx
        rcases hx with rfl | rfl
        · exact r1.1
        · exact r2.1, by simp, by simp, fun z => (opS_no g.1 z).elim⟩
theorem parts_prow : ∀ (es : List Exp) {ps : List PyData}, (∀ e ∈ es, e.good) → Rows ps → (∀ d ∈ ps, PRow d) → ∀ d ∈ (parts es ps).2, PRow d
  | [], _, _, _, h => h
  | e :: es, ps, g, r, h => by
    have ge := g e List.mem_cons_self
    exact parts_prow es (ps := (e.part ps).2) (fun x hx => g x (List.mem_cons_of_mem _ hx)) (e.part_ok ge r).2 (e.part_prow ge r h)
theorem proots_prow : ∀ (ss : List SetE) {n : Nat} {ps : List PyData}, (∀ s ∈ ss, OkS n s) → Rows ps → (∀ d ∈ ps, PRow d) → ∀ d ∈ (proots ss ps).2, PRow d
  | [], _, _, _, _, h => h
  | s :: ss, n, ps, g, r, h => by
    have gs : ∀ e ∈ s.rests, e.good := fun e he => (okS_rests (g s List.mem_cons_self) e he).2
    exact proots_prow ss (ps := (parts s.rests ps).2) (fun x hx => g x (List.mem_cons_of_mem _ hx)) (parts_ok s.rests gs r).2 (parts_prow s.rests gs r h)
def spOwnP (K : PySem.W.Frag) : Sp := fun vs H Q _ => ∃ v d, vs = [v] ∧ Dp K H v d ∧ PRow d ∧ ∀ p H', H' p = some (.lst ((ownD d).map V.int)) → Same H H' → H p = none → Q (.ref p) H'
theorem len_own_parts {K : PySem.W.Frag} {vs H Q E} (h : spOwnP K vs H Q E) : vs.length = 1 := by obtain ⟨_, _, rfl, _⟩ := h; rfl
theorem len_law_own {K : PySem.W.Frag} {vs H Q E} (h : spOwnP K vs H Q E) : vs.length = 1 := by obtain ⟨_, _, rfl, _⟩ := h; rfl
theorem intsD_snoc (xs : List PyData) (d : PyData) : intsD (xs ++ [d]) = intsD xs ++ (intD d).toList := by
  unfold intsD
  rw [List.filterMap_append]
  cases h : intD d <;> simp [h]
/-- [one for one in part[1:] if isinstance(one, int)] -/
theorem lc_own {K : PySem.W.Frag} {σ : L2.St} {H : Hp} {Q : VK} {te : TE} {tt : TT} {j : Nat} {p : Addr} {us : List V} {items : List PyData} (ht : SqT K H p us) (hus : DpAll K H us items) (hi : ∀ x ∈ items, Item x) (hl : items.length ≤ 2)
    (hs : ∀ (v : V) (d : PyData) H' (R : Bool → Hp → Prop), Item d → Dp K H' v d → R (intD d).isSome H' → tt ((wipe σ [j]).set j (some v)) H' R)
    (he : ∀ (v : V) H' (R : VK), R v H' → te ((wipe σ [j]).set j (some v)) H' R)
    (q : ∀ D H', H' D = some (.lst ((intsD items).map V.int)) → Same H H' → H D = none → Q (.ref D) H') :
    ∃ b, V.ref p = .ref b ∧ (∃ xs, SqT K H b xs) ∧ ∀ D, H D = none → WLc (Itt K b) (gName j) tt te [j] σ D H Q := by
  have hul : us.length = items.length := dpa_len hus
  refine lc_T us (fun D i ys H' => Same H H' ∧ ys = (intsD (items.take i)).map V.int) ht (fun D H' hD e f => ⟨e, rfl⟩) (fun D hD i ys H' hi hy hp => hp.1.sqT ht) (fun D hD i x ys H' hx hl2 hy hp => ?_) (fun D hD ys H' hl2 hy hp => ?_)
  · obtain ⟨e, rfl⟩ := hp
    obtain ⟨d, hd, hdp⟩ := dpa_at' hus hx
    have it := hi d (List.mem_of_getElem? hd)
    have hi2 : i < items.length := (List.getElem?_eq_some_iff.mp hd).1
    refine hs x d H' _ it (it.ts (TS.of e) hdp) ?_
    have tk := intsD_snoc (items.take i) d
    rw [← take_snoc hd] at tk
    refine ite2 (fun h => ?_) (fun h => ?_)
    · refine he x H' _ ?_
      refine lc_end hy hl2 (by rw [sizeLine_eq]; omega) fun H'' e2 f2 => ⟨But.new e hD e2, ?_⟩
      cases it with
      | int n => cases dp_int hdp; rw [tk, List.map_append]; rfl
      | str _ => cases h
      | pair _ _ => cases h
    · refine lc_skip hy hl2 ⟨e, ?_⟩
      cases it with
      | int n => exact (h rfl).elim
      | str _ => rw [tk, show intD (.str _) = none from rfl]; simp
      | pair _ _ => rw [tk, show intD (.tuple _) = none from rfl]; simp
  · obtain ⟨e, rfl⟩ := hp
    rw [hul, List.take_length] at hy
    exact q D H' hy e hD
section
variable {P : Program} {w : World} {K : PySem.W.Frag} {mg : Str → Option Value}
theorem ok_own_parts [c : Facts K mg] : Fn P w K mg "own_parts" 1 ["part"] ((spOwnP K)) := by
  obtain ⟨fd, F⟩ := c.d_own_parts
  refine Fn.mk' F c.g_own_parts sc_own_parts (k := 0) (fun vs H Q E h => ?_) (fun _ _ _ _ _ _ us hl => match us, hl with | [_], _ => rfl) (fun base cdv A outer s H vs Q E hr h => ?_)
  · exact len_own_parts h
  · have nd := sc_own_parts.nd
    have hu := hu_of hr
    refine ⟨_, (pss_cons (ps_if (PW.pt (pw_or (pt_cmpR (op_eqA (K := K) rfl hr.units) (pe_ix (ix_any (K := K) rfl) (pv 0) pe_int (fun _ _ => rfl)) pe_str (nomark _)) (pw_or1 (pt_cmpR (op_eqA (K := K) rfl hr.units) (pe_ix (ix_any (K := K) rfl) (pv 0) pe_int (fun _ _ => rfl)) pe_str (nomark _))))) (pss_one (ps_ret (pe_lst pa_nil))) pss_nil)
      (pss_one (ps_ret (pe_lc (own := [("one", 1)]) rfl nd (pi_tup (pe_slice (sl_any (K := K) rfl) (pv 0) (po_some pe_int) po_none)) (blkOk_by (N := N_own_parts) (sc := defScope s_own_parts) (by decide +kernel)) (fun _ _ _ _ _ => (pg_name (i := 1) nd rfl (Or.inl rfl))) (fun _ _ _ _ _ => pts_one (pt_val (pe_callB (call_isiA (K := K) rfl) (by rfl) c.f_isinstance boot_isinstance (pa_cons (pv 1) (pa_cons (pe_bltn (v := .ty "int") (by rfl) c.f_int boot_int rfl) pa_nil))))) (fun _ _ _ _ _ => (pv 1)))))), ?_⟩
    try dsimp only [cxOf, Cx.nox, Cx.wish]
    obtain ⟨v, d, rfl, hv, ⟨s, items, rfl, so, hi, l1, l2, hg⟩, q⟩ := h
    obtain ⟨p, us, rfl, hp, hus⟩ := exp_n hv
    have hul : us.length = items.length := dpa_len hus
    have no : (s = "get" ∨ s = "ask") → intsD items = [] := hg
    have fin : (s = "get" ∨ s = "ask") → ∀ (R : Prop), (NewO (.lst []) H Q → R) → R := fun g R k => k (by
      refine fun a ha => q a _ ?_ (Same.one ha) ha
      rw [PRow.own, no g]; exact upd_same)
    repeat walk_at "w"
    refine ite2 (fun h1 => ?_) (fun h1 => ?_)
    · rw [decide_eq_true_eq] at h1
      repeat walk_at "w"
      exact fin (.inl h1) _ id
    · repeat walk_at "w"
      refine ite2 (fun h2 => ?_) (fun h2 => ?_)
      · rw [decide_eq_true_eq] at h2
        repeat walk_at "w"
        exact fin (.inr h2) _ id
      · repeat walk_at "w"
        refine w_slT1 (σ := []) hp ?_
        refine w_new fun p1 H1 n1 s1 f1 => ?_
        have hus1 := dpAll_ts (TS.of s1) _ _ (items_all hi).1 hus
        refine lc_own (SqT.of f1) hus1 hi l2 (fun v d H' R it hd k => ?_) (fun v H' R k => ?_) (fun D H' hD e nD => q D H' hD (s1.trans e) (s1.free nD))
        · repeat walk_at "w"
          cases it with
          | int n =>
            cases dp_int hd
            repeat walk_at "w"
            exact k
          | str _ =>
            cases dp_str hd
            repeat walk_at "w"
            exact k
          | pair _ _ =>
            obtain ⟨a, xs, rfl, ha, _⟩ := dp_tup hd
            repeat walk_at "w"
            exact k
        · repeat walk_at "w"
          exact k
end

end J
namespace J
open PySem PySem.Spec PyProof.Rows L2
local macro_rules | `(tactic| walk_at "cls") => `(tactic| first
  | with_reducible exact Facts.cl_Parts
  | with_reducible exact Facts.cl_Order)
local macro_rules | `(tactic| walk_at "na") => `(tactic| first
  | with_reducible exact Facts.na_Parts_rows
  | with_reducible exact Facts.na_Order_parts
  | with_reducible exact Facts.na_Order_order
  | with_reducible exact Facts.na_Order_needed)
local macro_rules | `(tactic| walk_at "ty") => `(tactic| first
  | with_reducible exact ty_int
  | with_reducible exact ty_bl
  | with_reducible exact ty_str
  | with_reducible exact ty_non
  | ((with_reducible refine' ty_lst ?vv); (case vv => walk_at "tr"))
  | ((with_reducible refine' ty_sqT ?vv); (case vv => walk_at "tr"))
  | ((with_reducible refine' ty_dic ?vv); (case vv => walk_at "tr")))
local macro_rules | `(tactic| walk_at "ix") => `(tactic| first | exact at0 | exact at1 | exact at2 | assumption)
local macro_rules | `(tactic| walk_at "size") => `(tactic| first
  | assumption
  | (show _ < sizeLine; rw [sizeLine_eq]; (try simp only [List.length_cons, List.length_nil, List.length_append, List.length_map]); omega)
  | (show _ ≤ sizeLine; rw [sizeLine_eq]; (try simp only [List.length_cons, List.length_nil, List.length_append, List.length_map]); omega))
local macro_rules | `(tactic| walk_at "side") => `(tactic| first
  | assumption
  | ((with_reducible refine cdw ?_ ?_) <;> omega)
  | omega
  | (exact ⟨by omega, by omega⟩)
  | (exact Or.inl ⟨by omega, by omega⟩)
  | (exact Or.inr ⟨by omega, by omega⟩)
  | decide
  | (simp only [List.length_cons, List.length_nil, List.length_append, List.length_map]; omega)
  | (show _ ≤ _; decide))
local macro_rules | `(tactic| walk_at "as") => `(tactic| with_reducible assumption)
local macro_rules | `(tactic| walk_at "tr") => `(tactic| first
  | with_reducible assumption
  | with_reducible exact upd_same
  | ((with_reducible refine' SqL.of ?hh); (case hh => walk_at "as"))
  | ((with_reducible refine' SqT.of ?hh); (case hh => walk_at "as"))
  | ((with_reducible refine' Same.stm ?ee ?gg); (case ee => walk_at "as"); (case gg => walk_at "tr"))
  | ((with_reducible refine' Same.sqT ?ee ?gg); (case ee => walk_at "as"); (case gg => walk_at "tr"))
  | ((with_reducible refine' Same.sqL ?ee ?gg); (case ee => walk_at "as"); (case gg => walk_at "tr"))
  | ((with_reducible refine' Same.at ?ee ?gg); (case ee => walk_at "as"); (case gg => walk_at "tr"))
  | ((with_reducible refine' But.stm ?ee ?ff ?gg); (case ee => walk_at "as"); (case ff => walk_at "ne"); (case gg => walk_at "tr"))
  | ((with_reducible refine' But.tup ?ee ?ff ?gg); (case ee => walk_at "as"); (case ff => walk_at "tr1"); (case gg => walk_at "tr"))
  | ((with_reducible refine' But.sqT ?ee ?ff ?gg); (case ee => walk_at "as"); (case ff => walk_at "tr1"); (case gg => walk_at "tr"))
  | ((with_reducible refine' But.tupL ?ee ?ff ?gg); (case ee => walk_at "as"); (case ff => walk_at "tr1"); (case gg => walk_at "tr"))
  | ((with_reducible refine' But.sqTL ?ee ?ff ?gg); (case ee => walk_at "as"); (case ff => walk_at "tr1"); (case gg => walk_at "tr"))
  | ((with_reducible refine' But.sqL ?ee ?ff ?gg); (case ee => walk_at "as"); (case ff => walk_at "ne"); (case gg => walk_at "tr"))
  | ((with_reducible refine' But.at ?ee ?ff ?gg); (case ee => walk_at "as"); (case ff => walk_at "ne"); (case gg => walk_at "tr")))
local macro_rules | `(tactic| walk_at "ts") => `(tactic| first
  | with_reducible assumption
  | with_reducible exact TS.refl _
  | ((with_reducible refine' TS.trans ?gg (TS.of ?ee)); (case ee => walk_at "as"); (case gg => walk_at "ts"))
  | ((with_reducible refine' TS.trans ?gg (TS.butS ?ee ?ff)); (case ee => walk_at "as"); (case ff => walk_at "tr1"); (case gg => walk_at "ts"))
  | ((with_reducible refine' TS.trans ?gg (TS.butL ?ee ?ff)); (case ee => walk_at "as"); (case ff => walk_at "tr1"); (case gg => walk_at "ts"))
  | ((with_reducible refine' TS.trans ?gg (TS.butI ?ee ?ff)); (case ee => walk_at "as"); (case ff => walk_at "tr1"); (case gg => walk_at "ts")))
local macro_rules | `(tactic| walk_at "sm") => `(tactic| first
  | with_reducible assumption
  | with_reducible exact Same.refl _
  | ((with_reducible refine' Same.trans ?gg ?ee); (case ee => walk_at "as"); (case gg => walk_at "sm"))
  | ((with_reducible refine' But.new ?gg ?nn ?ee); (case ee => walk_at "as"); (case nn => walk_at "fr"); (case gg => walk_at "sm")))
local macro_rules | `(tactic| walk_at "fr") => `(tactic| first
  | with_reducible assumption
  | ((with_reducible refine' Same.back ?ee ?nn); (case nn => walk_at "as"); (case ee => walk_at "sm"))
  | ((with_reducible refine' But.back ?ee ?ff ?nn); (case nn => walk_at "as"); (case ff => walk_at "ne0"); (case ee => walk_at "bu")))
local macro_rules | `(tactic| walk_at "bu") => `(tactic| first
  | with_reducible assumption
  | with_reducible exact But.refl _ _
  | ((with_reducible refine' But.trans ?gg ?ee); (case ee => walk_at "as"); (case gg => walk_at "bu"))
  | ((with_reducible refine' But.trans ?gg (But.of ?ee)); (case ee => walk_at "as"); (case gg => walk_at "bu"))
  | ((with_reducible refine' But.new2 ?gg ?nn ?ee); (case ee => walk_at "as"); (case nn => walk_at "frB"); (case gg => walk_at "bu")))
local macro_rules | `(tactic| walk_at "frB") => `(tactic| first
  | with_reducible assumption
  | ((with_reducible refine' Same.back ?ee ?nn); (case nn => walk_at "as"); (case ee => walk_at "sm"))
  | ((with_reducible refine' But.back' ?ee ?ff ?nn); (case nn => walk_at "as"); (case ee => walk_at "bu"); (case ff => walk_at "tr1")))
local macro_rules | `(tactic| walk_at "tr1") => `(tactic| first
  | with_reducible assumption
  | ((with_reducible refine' Same.stm ?ee ?gg); (case ee => walk_at "as"); (case gg => walk_at "tr1"))
  | ((with_reducible refine' Same.at ?ee ?gg); (case ee => walk_at "as"); (case gg => walk_at "tr1"))
  | ((with_reducible refine' But.at ?ee ?ff ?gg); (case ee => walk_at "as"); (case ff => walk_at "ne0"); (case gg => walk_at "tr1"))
  | ((with_reducible refine' But.stm ?ee ?ff ?gg); (case ee => walk_at "as"); (case ff => walk_at "ne0"); (case gg => walk_at "tr1")))
local macro_rules | `(tactic| walk_at "ne0") => `(tactic| first
  | with_reducible assumption
  | (with_reducible apply Ne.symm; with_reducible assumption))
local macro_rules | `(tactic| walk_at "ne") => `(tactic| first
  | with_reducible assumption
  | (with_reducible apply Ne.symm; with_reducible assumption)
  | ((with_reducible refine' stm_ne ?hh ?nn); (case nn => walk_at "as"); (case hh => walk_at "tr1"))
  | ((with_reducible refine' ne_of_none ?hh ?nn); (case nn => walk_at "as"); (case hh => walk_at "tr1"))
  | ((with_reducible apply Ne.symm); (with_reducible refine' ne_of_none ?hh ?nn); (case nn => walk_at "as"); (case hh => walk_at "tr1")))
local macro_rules | `(tactic| walk_at "v") => `(tactic| first
  | with_reducible refine w_seq ?_
  | ((with_reducible refine' w_var ?vv ?_); (case vv => exact rfl))
  | with_reducible refine w_c ?_
  | with_reducible refine w_op ?_
  | with_reducible refine w_asg ?_
  | with_reducible refine w_gName ?_
  | with_reducible refine w_ret ?_
  | with_reducible refine w_ifS ?_
  | with_reducible refine w_drop ?_
  | with_reducible refine w_next ?_
  | with_reducible refine w_cons ?_
  | with_reducible refine w_nil ?_
  | with_reducible refine w_call ?_
  | with_reducible refine w_cb ?_
  | with_reducible refine w_rI0 ?_
  | with_reducible refine w_addI ?_
  | with_reducible refine w_eqI ?_
  | with_reducible refine w_neI ?_
  | with_reducible refine w_eqS ?_
  | with_reducible refine w_neS ?_
  | with_reducible refine w_eqB ?_
  | with_reducible refine w_neB ?_
  | with_reducible refine w_chain ?_
  | with_reducible refine w_test ?_
  | with_reducible refine w_tB ?_
  | with_reducible refine w_bl ?_
  | ((with_reducible refine' w_mulI ?vv ?_); (case vv => walk_at "side"))
  | ((with_reducible refine' w_rI ?vv ?_); (case vv => walk_at "side"))
  | with_reducible refine w_int1 ?_
  | with_reducible refine w_int1b ?_
  | with_reducible refine w_tup ?_
  | with_reducible refine w_lst ?_
  | with_reducible refine w_un ?_
  | with_reducible refine w_rU ?_
  | with_reducible refine w_not ?_
  | with_reducible refine w_notV ?_
  | with_reducible refine w_ifE ?_
  | with_reducible refine w_nT ?_
  | with_reducible refine w_nF ?_
  | with_reducible refine iteT ?_
  | with_reducible refine iteF ?_
  | ((with_reducible refine' w_ixT ?vv ?ww ?_); (case vv => walk_at "tr"); (case ww => walk_at "ix"))
  | ((with_reducible refine' w_ixL ?vv ?ww ?_); (case vv => walk_at "tr"); (case ww => walk_at "ix"))
  | with_reducible refine w_gSub ?_
  | ((with_reducible refine' w_setL ?vv ?ww ?_); (case vv => walk_at "tr"); (case ww => first | rfl | decide | assumption))
  | ((with_reducible refine' w_lenL ?vv ?_); (case vv => walk_at "tr"))
  | ((with_reducible refine' w_lenT ?vv ?_); (case vv => walk_at "tr"))
  | with_reducible refine w_max2 ?_
  | with_reducible refine w_max3 ?_
  | with_reducible refine w_din ?_
  | with_reducible refine w_dnotin ?_
  | with_reducible refine w_dput ?_
  | with_reducible refine w_min2 ?_
  | with_reducible refine w_bm ?_
  | with_reducible refine w_bm0 ?_
  | ((with_reducible refine' w_tyL ?vv ?_); (case vv => walk_at "tr"))
  | ((with_reducible refine' w_append ?vv ?ww ?_); (case vv => walk_at "tr"); (case ww => walk_at "size"))
  | ((with_reducible refine' w_size ?vv ?_); (case vv => walk_at "size"))
  | with_reducible refine w_forL ?_
  | with_reducible refine w_forT ?_
  | with_reducible refine w_forR1 ?_
  | with_reducible refine w_forR2 ?_
  | with_reducible refine w_lcL ?_
  | with_reducible refine w_lcT ?_
  | with_reducible refine w_lcR1 ?_
  | with_reducible refine w_yes ?_
  | with_reducible refine w_sl ?_
  | with_reducible refine w_noPart ?_
  | with_reducible refine w_part ?_
  | with_reducible refine w_int ?_
  | ((with_reducible refine' w_slL ?vv ?_); (case vv => walk_at "tr"))
  | ((with_reducible refine' w_seqL ?vv ?ww ?_); (case vv => walk_at "tr"); (case ww => rfl))
  | ((with_reducible refine' w_seqT ?vv ?ww ?_); (case vv => walk_at "tr"); (case ww => rfl))
  | with_reducible refine w_gNil ?_
  | with_reducible refine w_gCons ?_
  | with_reducible refine w_forZ ?_
  | with_reducible refine w_forM ?_
  | with_reducible refine w_forE ?_
  | with_reducible refine w_forV ?_
  | with_reducible refine w_lcZ ?_
  | with_reducible refine w_lcE ?_
  | ((with_reducible refine' w_isi (b := true) ?vv ?ww ?_); (case vv => walk_at "ty"); (case ww => decide +kernel))
  | ((with_reducible refine' w_isi (b := false) ?vv ?ww ?_); (case vv => walk_at "ty"); (case ww => decide +kernel))
  | with_reducible refine w_revL ?_
  | with_reducible refine w_pairN ?_
  | with_reducible refine w_pairC ?_
  | with_reducible refine w_dget ?_
  | with_reducible refine w_met ?_
  | ((with_reducible refine' w_metAt ?vv ?ww ?_); (case vv => walk_at "tr"); (case ww => rfl))
  | with_reducible refine w_mkI ?_
  | with_reducible refine w_fld ?_
  | ((with_reducible refine' w_fldAt ?vv ?cc ?nn ?ww ?_); (case vv => walk_at "tr"); (case cc => walk_at "cls"); (case nn => walk_at "na"); (case ww => rfl))
  | with_reducible refine w_sfld ?_
  | ((with_reducible refine' w_sfldAt ?vv ?cc ?nn ?ll ?ee ?_); (case vv => walk_at "tr"); (case cc => walk_at "cls"); (case nn => walk_at "na"); (case ll => simp); (case ee => rfl))
  | ((with_reducible refine' w_tupL ?vv ?_); (case vv => walk_at "tr"))
  | ((with_reducible refine' w_tupT ?vv ?_); (case vv => walk_at "tr"))
  | ((with_reducible refine' w_listL ?vv ?_); (case vv => walk_at "tr"))
  | ((with_reducible refine' w_listT ?vv ?_); (case vv => walk_at "tr"))
  | with_reducible refine w_tyS ?_
  | with_reducible refine w_retN ?_
  | with_reducible refine w_break ?_
  | with_reducible refine w_cont ?_)
local macro_rules | `(tactic| walk_at "w") => `(tactic| first
  | walk_at "v"
  | with_reducible refine w_or ?_
  | with_reducible refine w_and ?_
  | with_reducible refine w_andV ?_
  | with_reducible refine w_orV ?_)
local macro_rules | `(tactic| walk_at "wd") => `(tactic| first
  | walk_at "w"
  | ((with_reducible refine' w_decT ?vv ?_); (case vv => decide +kernel))
  | ((with_reducible refine' w_decF ?vv ?_); (case vv => decide +kernel)))
local macro_rules | `(tactic| walk_at "tz") => `(tactic| (intro S z; (repeat walk_at "w"); exact z))
local macro_rules | `(tactic| walk_at "wf") => `(tactic| first
  | walk_at "wd"
  | ((with_reducible refine' w_decF ?vv ?_); (case vv => with_reducible assumption)))
theorem w_dnew {σ : L2.St} {H : Hp} {Q : VK} (k : NewO (.dK []) H Q) : tDNewK σ H Q := k
def NL (t : String) : Prop := t = "NoneType" ∨ t = "tuple" ∨ t = "str" ∨ t = "dict"
/-- the items of a thing that is a list -/
def Ths (K : PySem.W.Frag) (H : Hp) : List V → List (Option Int) → Prop
  | [], [] => True
  | v :: vs, w :: ws => Th K H v w ∧ Ths K H vs ws
  | _, _ => False
theorem Ths.len {K : PySem.W.Frag} {H : Hp} : ∀ {vs : List V} {ws : List (Option Int)}, Ths K H vs ws → vs.length = ws.length
  | [], [], _ => rfl
  | _ :: _, _ :: _, h => congrArg (· + 1) (Ths.len h.2)
  | [], _ :: _, h => h.elim
  | _ :: _, [], h => h.elim
theorem Ths.at {K : PySem.W.Frag} {H : Hp} : ∀ {vs : List V} {ws : List (Option Int)} {i : Nat} {v : V}, Ths K H vs ws → vs[i]? = some v → ∃ w, ws[i]? = some w ∧ Th K H v w
  | [], [], _, _, _, h => by simp at h
  | _ :: _, [], _, _, h, _ => h.elim
  | [], _ :: _, _, _, h, _ => h.elim
  | v :: vs, w :: ws, 0, x, h, e => ⟨w, rfl, by cases Option.some.inj e; exact h.1⟩
  | v :: vs, w :: ws, i + 1, x, h, e => by
    obtain ⟨y, a, b⟩ := Ths.at (i := i) h.2 (by simpa using e)
    exact ⟨y, by simpa using a, b⟩
theorem Ths.sm {K : PySem.W.Frag} {H H' : Hp} (e : Same H H') : ∀ {vs : List V} {ws : List (Option Int)}, Ths K H vs ws → Ths K H' vs ws
  | [], [], _ => trivial
  | _ :: _, _ :: _, h => ⟨h.1.sm e, Ths.sm e h.2⟩
  | [], _ :: _, h => h.elim
  | _ :: _, [], h => h.elim
theorem Ths.app {K : PySem.W.Frag} {H : Hp} : ∀ {vs us : List V} {ws xs : List (Option Int)}, Ths K H vs ws → Ths K H us xs → Ths K H (vs ++ us) (ws ++ xs)
  | [], _, [], _, _, g => g
  | _ :: _, _, _ :: _, _, h, g => ⟨h.1, Ths.app h.2 g⟩
  | [], _, _ :: _, _, h, _ => h.elim
  | _ :: _, _, [], _, h, _ => h.elim
theorem ths_ints {K : PySem.W.Frag} {H : Hp} : ∀ ns : List Int, Ths K H (ns.map V.int) (ns.map some)
  | [] => trivial
  | n :: ns => ⟨rfl, ths_ints ns⟩
/-- all parts, and what own parts they have -/
structure PK (K : PySem.W.Frag) (H : Hp) (l : Addr) (ss : List SetE) : Prop where
  pl : PL K H l (proots ss []).2
  ok : ∀ s ∈ ss, OkS 4 s
  few : ss.length ≤ 4
def nOf (ss : List SetE) : Int := (cnts (restsL ss) : Nat)
theorem PK.sm {K : PySem.W.Frag} {H H' : Hp} {l : Addr} {ss : List SetE} (h : PK K H l ss) (e : Same H H') : PK K H' l ss := ⟨h.pl.same e, h.ok, h.few⟩
theorem PK.at {K : PySem.W.Frag} {H : Hp} {l : Addr} {ss : List SetE} {x : Int} (h : PK K H l ss) (h0 : 0 ≤ x) (h1 : x < nOf ss) : ∃ xs v d, H l = some (.lst xs) ∧ atI xs x = some v ∧ Dp K H v d ∧ PRow d ∧ ownD d = ownF ss x := by
  obtain ⟨xs, hx, hd, hr⟩ := id h.pl
  have hl : xs.length = (proots ss []).2.length := h.pl.len hx
  rw [proots_cnt] at hl
  unfold nOf at h1
  obtain ⟨v, e1, _, e3⟩ := atI_some (xs := xs) h0 (by omega)
  obtain ⟨d, hd1, hd2⟩ := dpa_at' hd e3
  refine ⟨xs, v, d, hx, e1, hd2, proots_prow ss h.ok rows_nil (fun _ q => (List.not_mem_nil q).elim) d (List.mem_of_getElem? hd1), ?_⟩
  have := ownF_at hd1
  rw [← this, Int.toNat_of_nonneg h0]
theorem PK.len {K : PySem.W.Frag} {H : Hp} {l : Addr} {ss : List SetE} (h : PK K H l ss) : ∃ xs, H l = some (.lst xs) ∧ ((xs.length : Nat) : Int) = nOf ss ∧ xs.length ≤ 120 := by
  obtain ⟨xs, hx, _⟩ := id h.pl
  have hl : xs.length = (proots ss []).2.length := h.pl.len hx
  have := (proots_len ss [] h.ok).1
  have := h.few
  rw [List.length_nil] at *
  refine ⟨xs, hx, ?_, by omega⟩
  unfold nOf
  rw [hl, proots_cnt]
def spIsOrd (K : PySem.W.Frag) : Sp := fun vs H Q _ => ∃ l ss v, vs = [.ref l, v] ∧ PK K H l ss ∧
  ((∃ t, NL t ∧ TyX K H v (.type t) ∧ Q (.bl false) H) ∨ ∃ p xs ws, v = .ref p ∧ H p = some (.lst xs) ∧ Ths K H xs ws ∧ xs.length ≤ 1000 ∧ ∀ H', Same H H' → Q (.bl (isOrdB (ownF ss) (nOf ss) ws)) H')
theorem len_is_order {K : PySem.W.Frag} {vs H Q E} (h : spIsOrd K vs H Q E) : vs.length = 2 := by obtain ⟨_, _, _, rfl, _⟩ := h; rfl
section
variable {P : Program} {w : World} {K : PySem.W.Frag} {mg : Str → Option Value}
theorem ok_is_order [c : Facts K mg] (G_is_within : Fn P w K mg "is_within" 2 ["thing", "low", "high"] ((spWithin K))) (G_own_parts : Fn P w K mg "own_parts" 1 ["part"] ((spOwnP K))) : Fn P w K mg "is_order" 3 ["parts", "order"] ((spIsOrd K)) := by
  obtain ⟨fd, F⟩ := c.d_is_order
  refine Fn.mk' F c.g_is_order sc_is_order (k := 2) (fun vs H Q E h => ?_) (fun _ _ _ _ _ _ us hl => match us, hl with | [_, _], _ => rfl) (fun base cdv A outer s H vs Q E hr h => ?_)
  · exact len_is_order h
  · have nd := sc_is_order.nd
    have hu := hu_of hr
    have hr_is_within : Room 2 _ := hr.mono (by omega)
    have hr_own_parts : Room 1 _ := hr.mono (by omega)
    refine ⟨_, (pss_cons (ps_if (PW.pt (pw_or (pt_not (pt_val (pe_callB (call_isiA (K := K) rfl) (by rfl) c.f_isinstance boot_isinstance (pa_cons (pv 1) (pa_cons (pe_bltn (v := .ty "list") (by rfl) c.f_list boot_list rfl) pa_nil))))) (pw_or1 (pt_cmpR (op_neA (K := K) rfl hr.units) (pe_callB (call_lenA (K := K) rfl) (by rfl) c.f_len boot_len (pa_cons (pv 1) pa_nil)) (pe_callB (call_lenA (K := K) rfl) (by rfl) c.f_len boot_len (pa_cons (pv 0) pa_nil)) (nomark _))))) (pss_one (ps_ret pe_bl)) pss_nil)
      (pss_cons (ps_set (i := 2) nd rfl (Or.inl rfl) pe_dnewK)
      (pss_cons (ps_for PassesOwn.never rfl (pi_list (pv 1)) (pg_name (i := 3) nd rfl (Or.inl rfl)) (pss_cons (ps_if (PW.pt (pw_or (pt_not (pt_val (pe_fn G_is_within hr_is_within (by rfl) (pa_cons (pv 3) (pa_cons pe_int (pa_cons (pe_op op_sub (pe_callB (call_lenA (K := K) rfl) (by rfl) c.f_len boot_len (pa_cons (pv 0) pa_nil)) pe_int) pa_nil)))))) (pw_or1 (pt_cmp (pc_din hu (pv 3) (pv 2)) (by rfl))))) (pss_one (ps_ret pe_bl)) pss_nil)
      (pss_cons (ps_for PassesOwn.never rfl (pi_list (pe_fn G_own_parts hr_own_parts (by rfl) (pa_cons (pe_ix (ix_any (K := K) rfl) (pv 0) (pv 3) (fun _ _ => rfl)) pa_nil))) (pg_name (i := 4) nd rfl (Or.inl rfl)) (pss_one (ps_if (pt_cmp (pc_dnotin hu (pv 4) (pv 2)) (by rfl)) (pss_one (ps_ret pe_bl)) pss_nil)))
      (pss_one (ps_dput hu (pv 2) (pv 3) pe_bl rfl)))))
      (pss_one (ps_ret pe_bl))))), ?_⟩
    try dsimp only [cxOf, Cx.nox, Cx.wish]
    obtain ⟨l, ss, v, rfl, hP, hv⟩ := h
    rcases hv with ⟨t, ht, ty, q⟩ | ⟨p, xs, ws, rfl, hp, hth, hl, q⟩
    · rcases ht with rfl | rfl | rfl | rfl
      all_goals
        repeat walk_at "w"
        refine w_isi (b := false) ty (by decide +kernel) ?_
        repeat walk_at "w"
        exact q
    · obtain ⟨us, hus, hun, hul⟩ := hP.len
      repeat walk_at "w"
      have hwl := hth.len
      refine ite2 (fun h1 => ?_) (fun h1 => ?_)
      · rw [Bool.not_eq_true', decide_eq_false_iff_not] at h1
        repeat walk_at "w"
        rw [bad_len (by omega)] at q
        exact q _ (Same.refl _)
      · have hn : (ws.length : Int) = nOf ss := by simp at h1; omega
        repeat walk_at "w"
        refine w_dnew ?_
        refine w_new fun da H1 n1 s1 f1 => ?_
        have npd : p ≠ da := ne_of_none hp n1
        have nld : l ≠ da := ne_of_none hus n1
        repeat walk_at "w"
        refine fl_list xs (fun i σ H' => ∃ o1 o2 kvs seen, σ = [some (.ref l), some (.ref p), some (.ref da), o1, o2] ∧ Same H H' ∧ H' da = some (.dK kvs) ∧ kvs.length ≤ i ∧ (∀ y, (valV kvs (.inl y)).isSome = decide (y ∈ seen)) ∧
            ordB (ownF ss) (nOf ss) ws [] = ordB (ownF ss) (nOf ss) (ws.drop i) seen) (SqL.of (s1 _ _ hp))
          ⟨_, _, [], [], rfl, s1, f1, Nat.le_refl _, fun y => by simp [valV], by rw [List.drop_zero]⟩ (fun i σ H' hi hp' => ?_) (fun i x σ H' hx hp' => ?_) (fun σ H' hp' => ?_)
        · obtain ⟨_, _, _, _, _, e, _⟩ := hp'
          exact SqL.of (e _ _ hp)
        · obtain ⟨o1, o2, kvs, seen, rfl, e, hd, hk, hs, ho⟩ := hp'
          obtain ⟨wx, hw, hthx⟩ := hth.at hx
          have hil := (List.getElem?_eq_some_iff.mp hx).1
          have dr : ws.drop i = wx :: ws.drop (i + 1) := by
            obtain ⟨a, rfl⟩ := List.getElem?_eq_some_iff.mp hw
            exact List.drop_eq_getElem_cons a
          rw [dr] at ho
          have hfin : ordB (ownF ss) (nOf ss) ws [] = false → ∀ H2, Same H H2 → Q (.bl false) H2 := fun z H2 e2 => by
            have := q H2 e2
            rw [show isOrdB (ownF ss) (nOf ss) ws = false by unfold isOrdB; rw [z, Bool.and_false]] at this
            exact this
          have husE := e _ _ hus
          repeat walk_at "v"
          refine w_or ?_
          repeat walk_at "w"
          refine ⟨x, wx, 0, _, rfl, hthx.sm e, ?_⟩
          repeat walk_at "w"
          refine ite2 (fun h2 => ?_) (fun h2 => ?_)
          · have hf : inB wx 0 (us.length - 1) = false := by simpa using h2
            repeat walk_at "w"
            refine hfin ?_ _ e
            rw [ho]
            cases wx with
            | none => rfl
            | some y =>
              unfold ordB
              unfold inB at hf
              rw [decide_eq_false_iff_not] at hf
              rw [decide_eq_false (by omega)]; rfl
          · have ht : inB wx 0 (us.length - 1) = true := by simpa using h2
            cases wx with
            | none => cases ht
            | some y =>
              unfold inB at ht
              rw [decide_eq_true_eq] at ht
              cases (hthx : x = .int y)
              repeat walk_at "w"
              refine ⟨da, _, rfl, DGet.k (k := .inl y) hd, ?_⟩
              repeat walk_at "w"
              rw [hs y]
              rw [ordB_some] at ho
              refine ite2 (fun h3 => ?_) (fun h3 => ?_)
              · repeat walk_at "w"
                refine hfin ?_ _ e
                rw [ho, h3]; simp
              · repeat walk_at "w"
                obtain ⟨xs2, v2, d2, hx2, ha2, hd2, hr2, ho2⟩ := (hP.sm e).at ht.1 (by omega : y < nOf ss)
                refine w_ixL (SqL.of hx2) ha2 ?_
                repeat walk_at "w"
                refine ⟨v2, d2, rfl, hd2, hr2, fun po H3 fo e3 no => ?_⟩
                rw [ho2] at fo
                have hd3 := e3 _ _ hd
                have sm3 := e.trans e3
                refine fl_list ((ownF ss y).map V.int) (fun j σ H' => ∃ o2, H' = H3 ∧ σ = [some (.ref l), some (.ref p), some (.ref da), some (.int y), o2] ∧ ∀ z ∈ (ownF ss y).take j, z ∈ seen) (SqL.of fo) ⟨_, rfl, rfl, fun z hz => by simp at hz⟩ (fun j σ H' hj hp' => ?_) (fun j z σ H' hz hp' => ?_) (fun σ H' hp' => ?_)
                · obtain ⟨_, rfl, _⟩ := hp'
                  exact SqL.of fo
                · obtain ⟨o3, rfl, rfl, hall⟩ := hp'
                  rw [List.getElem?_map] at hz
                  obtain ⟨z', hz', rfl⟩ := Option.map_eq_some_iff.mp hz
                  repeat walk_at "w"
                  refine ⟨da, _, rfl, DGet.k (k := .inl z') hd3, ?_⟩
                  repeat walk_at "w"
                  rw [hs z']
                  refine ite2 (fun h4 => ?_) (fun h4 => ?_)
                  · repeat walk_at "w"
                    refine hfin ?_ _ sm3
                    rw [ho]
                    have : (ownF ss y).all (fun y => decide (y ∈ seen)) = false := by
                      rw [List.all_eq_false]
                      exact ⟨z', List.mem_of_getElem? hz', by simpa using h4⟩
                    rw [this]; simp
                  · repeat walk_at "w"
                    refine ⟨_, rfl, rfl, fun t ht' => ?_⟩
                    rw [take_snoc hz'] at ht'
                    rcases List.mem_append.mp ht' with g | g
                    · exact hall t g
                    · rw [List.mem_singleton.mp g]; simpa using h4
                · obtain ⟨o3, rfl, rfl, hall⟩ := hp'
                  rw [List.length_map, List.take_length] at hall
                  repeat walk_at "w"
                  refine ⟨da, _, rfl, DPut.k (k := .inl y) hd3 (by rw [sizeLine_eq]; omega), ?_⟩
                  repeat walk_at "w"
                  refine ⟨_, _, _, y :: seen, rfl, But.new sm3 n1 (But.upd _ _ _), upd_same, ?_, fun t => ?_, ?_⟩
                  · have := length_putK kvs (.inl y : Key) (V.bl true)
                    omega
                  · rw [valV_put]
                    by_cases z : t = y
                    · subst z; simp
                    · rw [if_neg (fun g => z (by cases g; rfl)), hs t]
                      simp [z]
                  · rw [ho, decide_eq_true (by omega), show (ownF ss y).all (fun y => decide (y ∈ seen)) = true by rw [List.all_eq_true]; intro t h; exact decide_eq_true (hall t h)]
                    have : decide (y ∈ seen) = false := by simpa using h3
                    rw [this]; rfl
        · obtain ⟨o1, o2, kvs, seen, rfl, e, hd, hk, hs, ho⟩ := hp'
          rw [hwl, List.drop_length] at ho
          repeat walk_at "w"
          have := q H' e
          rw [show isOrdB (ownF ss) (nOf ss) ws = true by unfold isOrdB; rw [ho, decide_eq_true hn]; rfl] at this
          exact this
end

end J
namespace J
open PySem PySem.Spec PyProof.Rows L2
local macro_rules | `(tactic| walk_at "cls") => `(tactic| first
  | with_reducible exact Facts.cl_Parts
  | with_reducible exact Facts.cl_Order)
local macro_rules | `(tactic| walk_at "na") => `(tactic| first
  | with_reducible exact Facts.na_Parts_rows
  | with_reducible exact Facts.na_Order_parts
  | with_reducible exact Facts.na_Order_order
  | with_reducible exact Facts.na_Order_needed)
local macro_rules | `(tactic| walk_at "ty") => `(tactic| first
  | with_reducible exact ty_int
  | with_reducible exact ty_bl
  | with_reducible exact ty_str
  | with_reducible exact ty_non
  | ((with_reducible refine' ty_lst ?vv); (case vv => walk_at "tr"))
  | ((with_reducible refine' ty_sqT ?vv); (case vv => walk_at "tr"))
  | ((with_reducible refine' ty_dic ?vv); (case vv => walk_at "tr")))
local macro_rules | `(tactic| walk_at "ix") => `(tactic| first | exact at0 | exact at1 | exact at2 | assumption)
local macro_rules | `(tactic| walk_at "size") => `(tactic| first
  | assumption
  | (show _ < sizeLine; rw [sizeLine_eq]; (try simp only [List.length_cons, List.length_nil, List.length_append, List.length_map]); omega)
  | (show _ ≤ sizeLine; rw [sizeLine_eq]; (try simp only [List.length_cons, List.length_nil, List.length_append, List.length_map]); omega))
local macro_rules | `(tactic| walk_at "side") => `(tactic| first
  | assumption
  | ((with_reducible refine cdw ?_ ?_) <;> omega)
  | omega
  | (exact ⟨by omega, by omega⟩)
  | (exact Or.inl ⟨by omega, by omega⟩)
  | (exact Or.inr ⟨by omega, by omega⟩)
  | decide
  | (simp only [List.length_cons, List.length_nil, List.length_append, List.length_map]; omega)
  | (show _ ≤ _; decide))
local macro_rules | `(tactic| walk_at "as") => `(tactic| with_reducible assumption)
local macro_rules | `(tactic| walk_at "tr") => `(tactic| first
  | with_reducible assumption
  | with_reducible exact upd_same
  | ((with_reducible refine' SqL.of ?hh); (case hh => walk_at "as"))
  | ((with_reducible refine' SqT.of ?hh); (case hh => walk_at "as"))
  | ((with_reducible refine' Same.stm ?ee ?gg); (case ee => walk_at "as"); (case gg => walk_at "tr"))
  | ((with_reducible refine' Same.sqT ?ee ?gg); (case ee => walk_at "as"); (case gg => walk_at "tr"))
  | ((with_reducible refine' Same.sqL ?ee ?gg); (case ee => walk_at "as"); (case gg => walk_at "tr"))
  | ((with_reducible refine' Same.at ?ee ?gg); (case ee => walk_at "as"); (case gg => walk_at "tr"))
  | ((with_reducible refine' But.stm ?ee ?ff ?gg); (case ee => walk_at "as"); (case ff => walk_at "ne"); (case gg => walk_at "tr"))
  | ((with_reducible refine' But.tup ?ee ?ff ?gg); (case ee => walk_at "as"); (case ff => walk_at "tr1"); (case gg => walk_at "tr"))
  | ((with_reducible refine' But.sqT ?ee ?ff ?gg); (case ee => walk_at "as"); (case ff => walk_at "tr1"); (case gg => walk_at "tr"))
  | ((with_reducible refine' But.tupL ?ee ?ff ?gg); (case ee => walk_at "as"); (case ff => walk_at "tr1"); (case gg => walk_at "tr"))
  | ((with_reducible refine' But.sqTL ?ee ?ff ?gg); (case ee => walk_at "as"); (case ff => walk_at "tr1"); (case gg => walk_at "tr"))
  | ((with_reducible refine' But.sqL ?ee ?ff ?gg); (case ee => walk_at "as"); (case ff => walk_at "ne"); (case gg => walk_at "tr"))
  | ((with_reducible refine' But.at ?ee ?ff ?gg); (case ee => walk_at "as"); (case ff => walk_at "ne"); (case gg => walk_at "tr")))
local macro_rules | `(tactic| walk_at "ts") => `(tactic| first
  | with_reducible assumption
  | with_reducible exact TS.refl _
  | ((with_reducible refine' TS.trans ?gg (TS.of ?ee)); (case ee => walk_at "as"); (case gg => walk_at "ts"))
  | ((with_reducible refine' TS.trans ?gg (TS.butS ?ee ?ff)); (case ee => walk_at "as"); (case ff => walk_at "tr1"); (case gg => walk_at "ts"))
  | ((with_reducible refine' TS.trans ?gg (TS.butL ?ee ?ff)); (case ee => walk_at "as"); (case ff => walk_at "tr1"); (case gg => walk_at "ts"))
  | ((with_reducible refine' TS.trans ?gg (TS.butI ?ee ?ff)); (case ee => walk_at "as"); (case ff => walk_at "tr1"); (case gg => walk_at "ts")))
local macro_rules | `(tactic| walk_at "sm") => `(tactic| first
  | with_reducible assumption
  | with_reducible exact Same.refl _
  | ((with_reducible refine' Same.trans ?gg ?ee); (case ee => walk_at "as"); (case gg => walk_at "sm"))
  | ((with_reducible refine' But.new ?gg ?nn ?ee); (case ee => walk_at "as"); (case nn => walk_at "fr"); (case gg => walk_at "sm")))
local macro_rules | `(tactic| walk_at "fr") => `(tactic| first
  | with_reducible assumption
  | ((with_reducible refine' Same.back ?ee ?nn); (case nn => walk_at "as"); (case ee => walk_at "sm"))
  | ((with_reducible refine' But.back ?ee ?ff ?nn); (case nn => walk_at "as"); (case ff => walk_at "ne0"); (case ee => walk_at "bu")))
local macro_rules | `(tactic| walk_at "bu") => `(tactic| first
  | with_reducible assumption
  | with_reducible exact But.refl _ _
  | ((with_reducible refine' But.trans ?gg ?ee); (case ee => walk_at "as"); (case gg => walk_at "bu"))
  | ((with_reducible refine' But.trans ?gg (But.of ?ee)); (case ee => walk_at "as"); (case gg => walk_at "bu"))
  | ((with_reducible refine' But.new2 ?gg ?nn ?ee); (case ee => walk_at "as"); (case nn => walk_at "frB"); (case gg => walk_at "bu")))
local macro_rules | `(tactic| walk_at "frB") => `(tactic| first
  | with_reducible assumption
  | ((with_reducible refine' Same.back ?ee ?nn); (case nn => walk_at "as"); (case ee => walk_at "sm"))
  | ((with_reducible refine' But.back' ?ee ?ff ?nn); (case nn => walk_at "as"); (case ee => walk_at "bu"); (case ff => walk_at "tr1")))
local macro_rules | `(tactic| walk_at "tr1") => `(tactic| first
  | with_reducible assumption
  | ((with_reducible refine' Same.stm ?ee ?gg); (case ee => walk_at "as"); (case gg => walk_at "tr1"))
  | ((with_reducible refine' Same.at ?ee ?gg); (case ee => walk_at "as"); (case gg => walk_at "tr1"))
  | ((with_reducible refine' But.at ?ee ?ff ?gg); (case ee => walk_at "as"); (case ff => walk_at "ne0"); (case gg => walk_at "tr1"))
  | ((with_reducible refine' But.stm ?ee ?ff ?gg); (case ee => walk_at "as"); (case ff => walk_at "ne0"); (case gg => walk_at "tr1")))
local macro_rules | `(tactic| walk_at "ne0") => `(tactic| first
  | with_reducible assumption
  | (with_reducible apply Ne.symm; with_reducible assumption))
local macro_rules | `(tactic| walk_at "ne") => `(tactic| first
  | with_reducible assumption
  | (with_reducible apply Ne.symm; with_reducible assumption)
  | ((with_reducible refine' stm_ne ?hh ?nn); (case nn => walk_at "as"); (case hh => walk_at "tr1"))
  | ((with_reducible refine' ne_of_none ?hh ?nn); (case nn => walk_at "as"); (case hh => walk_at "tr1"))
  | ((with_reducible apply Ne.symm); (with_reducible refine' ne_of_none ?hh ?nn); (case nn => walk_at "as"); (case hh => walk_at "tr1")))
local macro_rules | `(tactic| walk_at "v") => `(tactic| first
  | with_reducible refine w_seq ?_
  | ((with_reducible refine' w_var ?vv ?_); (case vv => exact rfl))
  | with_reducible refine w_c ?_
  | with_reducible refine w_op ?_
  | with_reducible refine w_asg ?_
  | with_reducible refine w_gName ?_
  | with_reducible refine w_ret ?_
  | with_reducible refine w_ifS ?_
  | with_reducible refine w_drop ?_
  | with_reducible refine w_next ?_
  | with_reducible refine w_cons ?_
  | with_reducible refine w_nil ?_
  | with_reducible refine w_call ?_
  | with_reducible refine w_cb ?_
  | with_reducible refine w_rI0 ?_
  | with_reducible refine w_addI ?_
  | with_reducible refine w_eqI ?_
  | with_reducible refine w_neI ?_
  | with_reducible refine w_eqS ?_
  | with_reducible refine w_neS ?_
  | with_reducible refine w_eqB ?_
  | with_reducible refine w_neB ?_
  | with_reducible refine w_chain ?_
  | with_reducible refine w_test ?_
  | with_reducible refine w_tB ?_
  | with_reducible refine w_bl ?_
  | ((with_reducible refine' w_mulI ?vv ?_); (case vv => walk_at "side"))
  | ((with_reducible refine' w_rI ?vv ?_); (case vv => walk_at "side"))
  | with_reducible refine w_int1 ?_
  | with_reducible refine w_int1b ?_
  | with_reducible refine w_tup ?_
  | with_reducible refine w_lst ?_
  | with_reducible refine w_un ?_
  | with_reducible refine w_rU ?_
  | with_reducible refine w_not ?_
  | with_reducible refine w_notV ?_
  | with_reducible refine w_ifE ?_
  | with_reducible refine w_nT ?_
  | with_reducible refine w_nF ?_
  | with_reducible refine iteT ?_
  | with_reducible refine iteF ?_
  | ((with_reducible refine' w_ixT ?vv ?ww ?_); (case vv => walk_at "tr"); (case ww => walk_at "ix"))
  | ((with_reducible refine' w_ixL ?vv ?ww ?_); (case vv => walk_at "tr"); (case ww => walk_at "ix"))
  | with_reducible refine w_gSub ?_
  | ((with_reducible refine' w_setL ?vv ?ww ?_); (case vv => walk_at "tr"); (case ww => first | rfl | decide | assumption))
  | ((with_reducible refine' w_lenL ?vv ?_); (case vv => walk_at "tr"))
  | ((with_reducible refine' w_lenT ?vv ?_); (case vv => walk_at "tr"))
  | with_reducible refine w_max2 ?_
  | with_reducible refine w_max3 ?_
  | with_reducible refine w_din ?_
  | with_reducible refine w_dnotin ?_
  | with_reducible refine w_dput ?_
  | with_reducible refine w_min2 ?_
  | with_reducible refine w_bm ?_
  | with_reducible refine w_bm0 ?_
  | ((with_reducible refine' w_tyL ?vv ?_); (case vv => walk_at "tr"))
  | ((with_reducible refine' w_append ?vv ?ww ?_); (case vv => walk_at "tr"); (case ww => walk_at "size"))
  | ((with_reducible refine' w_size ?vv ?_); (case vv => walk_at "size"))
  | with_reducible refine w_forL ?_
  | with_reducible refine w_forT ?_
  | with_reducible refine w_forR1 ?_
  | with_reducible refine w_forR2 ?_
  | with_reducible refine w_lcL ?_
  | with_reducible refine w_lcT ?_
  | with_reducible refine w_lcR1 ?_
  | with_reducible refine w_yes ?_
  | with_reducible refine w_sl ?_
  | with_reducible refine w_noPart ?_
  | with_reducible refine w_part ?_
  | with_reducible refine w_int ?_
  | ((with_reducible refine' w_slL ?vv ?_); (case vv => walk_at "tr"))
  | ((with_reducible refine' w_seqL ?vv ?ww ?_); (case vv => walk_at "tr"); (case ww => rfl))
  | ((with_reducible refine' w_seqT ?vv ?ww ?_); (case vv => walk_at "tr"); (case ww => rfl))
  | with_reducible refine w_gNil ?_
  | with_reducible refine w_gCons ?_
  | with_reducible refine w_forZ ?_
  | with_reducible refine w_forM ?_
  | with_reducible refine w_forE ?_
  | with_reducible refine w_forV ?_
  | with_reducible refine w_lcZ ?_
  | with_reducible refine w_lcE ?_
  | ((with_reducible refine' w_isi (b := true) ?vv ?ww ?_); (case vv => walk_at "ty"); (case ww => decide +kernel))
  | ((with_reducible refine' w_isi (b := false) ?vv ?ww ?_); (case vv => walk_at "ty"); (case ww => decide +kernel))
  | with_reducible refine w_revL ?_
  | with_reducible refine w_pairN ?_
  | with_reducible refine w_pairC ?_
  | with_reducible refine w_dget ?_
  | with_reducible refine w_met ?_
  | ((with_reducible refine' w_metAt ?vv ?ww ?_); (case vv => walk_at "tr"); (case ww => rfl))
  | with_reducible refine w_mkI ?_
  | with_reducible refine w_fld ?_
  | ((with_reducible refine' w_fldAt ?vv ?cc ?nn ?ww ?_); (case vv => walk_at "tr"); (case cc => walk_at "cls"); (case nn => walk_at "na"); (case ww => rfl))
  | with_reducible refine w_sfld ?_
  | ((with_reducible refine' w_sfldAt ?vv ?cc ?nn ?ll ?ee ?_); (case vv => walk_at "tr"); (case cc => walk_at "cls"); (case nn => walk_at "na"); (case ll => simp); (case ee => rfl))
  | ((with_reducible refine' w_tupL ?vv ?_); (case vv => walk_at "tr"))
  | ((with_reducible refine' w_tupT ?vv ?_); (case vv => walk_at "tr"))
  | ((with_reducible refine' w_listL ?vv ?_); (case vv => walk_at "tr"))
  | ((with_reducible refine' w_listT ?vv ?_); (case vv => walk_at "tr"))
  | with_reducible refine w_tyS ?_
  | with_reducible refine w_retN ?_
  | with_reducible refine w_break ?_
  | with_reducible refine w_cont ?_)
local macro_rules | `(tactic| walk_at "w") => `(tactic| first
  | walk_at "v"
  | with_reducible refine w_or ?_
  | with_reducible refine w_and ?_
  | with_reducible refine w_andV ?_
  | with_reducible refine w_orV ?_)
local macro_rules | `(tactic| walk_at "wd") => `(tactic| first
  | walk_at "w"
  | ((with_reducible refine' w_decT ?vv ?_); (case vv => decide +kernel))
  | ((with_reducible refine' w_decF ?vv ?_); (case vv => decide +kernel)))
local macro_rules | `(tactic| walk_at "tz") => `(tactic| (intro S z; (repeat walk_at "w"); exact z))
local macro_rules | `(tactic| walk_at "wf") => `(tactic| first
  | walk_at "wd"
  | ((with_reducible refine' w_decF ?vv ?_); (case vv => with_reducible assumption)))
def BadV (K : PySem.W.Frag) (H : Hp) (ss : List SetE) (w : V) : Prop := (∃ t, NL t ∧ TyX K H w (.type t)) ∨ ∃ p xs ws, w = .ref p ∧ H p = some (.lst xs) ∧ Ths K H xs ws ∧ xs.length ≤ 1000 ∧ isOrdB (ownF ss) (nOf ss) ws = false
theorem BadV.sm {K : PySem.W.Frag} {H H' : Hp} {ss : List SetE} {w : V} (h : BadV K H ss w) (e : Same H H') : BadV K H' ss w := by
  rcases h with ⟨t, a, b⟩ | ⟨p, xs, ws, a, b, c, d, f⟩
  · exact .inl ⟨t, a, tyx_sm e b⟩
  · exact .inr ⟨p, xs, ws, a, e _ _ b, c.sm e, d, f⟩
def spHeldBy (K : PySem.W.Frag) : Sp := fun vs H Q _ => ∃ v ss w, vs = [v, w] ∧ Dp K H v (setsD ss) ∧ ss.length ≤ 4 ∧ (∀ x ∈ ss, OkS 4 x) ∧
  ((BadV K H ss w ∧ ∀ H', Same H H' → Q .non H') ∨ ∃ p o, w = .ref p ∧ H p = some (.lst (o.map V.int)) ∧ Full (ownF ss) (nOf ss) o ∧ ∀ q H', H' q = some (.lst ((heldL (ownF ss) o).map V.int)) → Same H H' → H q = none → Q (.ref q) H')
theorem len_held_by {K : PySem.W.Frag} {vs H Q E} (h : spHeldBy K vs H Q E) : vs.length = 2 := by obtain ⟨_, _, _, rfl, _⟩ := h; rfl
theorem setsD_t (ss : List SetE) : tupD (setsD ss) = true := by unfold setsD; rw [tupD]; exact setsD_tup ss
theorem nOf_le {ss : List SetE} (h : ∀ s ∈ ss, OkS 4 s) (hl : ss.length ≤ 4) : nOf ss ≤ 120 := by
  have := (proots_len ss [] h).1
  rw [proots_cnt, List.length_nil] at this
  unfold nOf; omega
theorem Full.suf {own : Int → List Int} {n : Int} {o : List Int} (h : Full own n o) (i : Nat) : Val own (o.take i).reverse := by
  have : o.reverse = (o.drop i).reverse ++ (o.take i).reverse := by rw [← List.reverse_append, List.take_append_drop]
  have v := h.val
  rw [this] at v
  exact val_app v
theorem Full.cnt {ss : List SetE} {o : List Int} (h : Full (ownF ss) (nOf ss) o) {i : Nat} {x : Int} (hx : o[i]? = some x) :
    cnts' (ownF ss) o i = ((held (ownF ss) (o.take i).reverse).length : Int) + 1 - ((ownF ss x).length : Int) := by
  have v := h.suf (i + 1)
  unfold cnts'
  rw [rev_snoc hx] at v ⊢
  exact held_cnt (ownF_ok ss) v fun y hy => by
    refine (h.mem y).mp ?_
    rcases List.mem_cons.mp hy with rfl | hy
    · exact List.mem_of_getElem? hx
    · exact List.mem_of_mem_take (List.mem_reverse.mp hy)
section
variable {P : Program} {w : World} {K : PySem.W.Frag} {mg : Str → Option Value}
theorem ok_held_by [c : Facts K mg] (G_is_order : Fn P w K mg "is_order" 3 ["parts", "order"] ((spIsOrd K))) (G_own_parts : Fn P w K mg "own_parts" 1 ["part"] ((spOwnP K))) (G_parts_of : Fn P w K mg "parts_of" 7 ["sets"] ((spPof K))) : Fn P w K mg "held_by" 8 ["sets", "order"] ((spHeldBy K)) := by
  obtain ⟨fd, F⟩ := c.d_held_by
  refine Fn.mk' F c.g_held_by sc_held_by (k := 7) (fun vs H Q E h => ?_) (fun _ _ _ _ _ _ us hl => match us, hl with | [_, _], _ => rfl) (fun base cdv A outer s H vs Q E hr h => ?_)
  · exact len_held_by h
  · have nd := sc_held_by.nd
    have hu := hu_of hr
    have hr_is_order : Room 3 _ := hr.mono (by omega)
    have hr_own_parts : Room 1 _ := hr.mono (by omega)
    have hr_parts_of : Room 7 _ := hr.mono (by omega)
    refine ⟨_, (pss_cons (ps_set (i := 2) nd rfl (Or.inl rfl) (pe_fn G_parts_of hr_parts_of (by rfl) (pa_cons (pv 0) pa_nil)))
      (pss_cons (ps_if (pt_not (pt_val (pe_fn G_is_order hr_is_order (by rfl) (pa_cons (pv 2) (pa_cons (pv 1) pa_nil))))) (pss_one (ps_ret pe_non)) pss_nil)
      (pss_cons (ps_set (i := 3) nd rfl (Or.inl rfl) (pe_lst pa_nil))
      (pss_cons (ps_set (i := 4) nd rfl (Or.inl rfl) pe_int)
      (pss_cons (ps_for PassesOwn.never rfl (pi_list (pv 1)) (pg_name (i := 5) nd rfl (Or.inl rfl)) (pss_cons (ps_set (i := 4) nd rfl (Or.inl rfl) (pe_op op_sub (pe_op (op_addA (K := K) rfl) (pv 4) pe_int) (pe_callB (call_lenA (K := K) rfl) (by rfl) c.f_len boot_len (pa_cons (pe_fn G_own_parts hr_own_parts (by rfl) (pa_cons (pe_ix (ix_any (K := K) rfl) (pv 2) (pv 5) (fun _ _ => rfl)) pa_nil)) pa_nil))))
      (pss_one (ps_expr (pe_bm PySem.F.plainAttrs_list PySem.F.slot_list_append PySem.F.type_list_append mt_append (pv 3) (pa_cons (pv 4) pa_nil))))))
      (pss_one (ps_ret (pv 3)))))))), ?_⟩
    try dsimp only [cxOf, Cx.nox, Cx.wish]
    obtain ⟨v, ss, w2, rfl, hv, hl, ho, hw⟩ := h
    repeat walk_at "w"
    refine ⟨v, ss, rfl, hv, hl, ho, fun l H1 hP nl s1 => ?_⟩
    have pk : PK K H1 l ss := ⟨hP, ho, hl⟩
    repeat walk_at "w"
    rcases hw with ⟨hb, q⟩ | ⟨p, o, rfl, hp, hf, q⟩
    · refine ⟨l, ss, w2, rfl, pk, ?_⟩
      rcases hb.sm s1 with ⟨t, a, b⟩ | ⟨p, xs, ws, rfl, hp, hth, hl2, hbad⟩
      · refine .inl ⟨t, a, b, ?_⟩
        repeat walk_at "w"
        exact q _ s1
      · refine .inr ⟨p, xs, ws, rfl, hp, hth, hl2, fun H2 s2 => ?_⟩
        rw [hbad]
        repeat walk_at "w"
        exact q _ (s1.trans s2)
    · have hol : o.length ≤ 120 := by have := hf.len; have := nOf_le ho hl; omega
      refine ⟨l, ss, .ref p, rfl, pk, .inr ⟨p, o.map V.int, o.map some, rfl, s1 _ _ hp, ths_ints o, by rw [List.length_map]; omega, fun H2 s2 => ?_⟩⟩
      rw [hf.ord]
      repeat walk_at "w"
      refine w_new fun f H3 n3 s3 f3 => ?_
      have s03 := s1.trans (s2.trans s3)
      have pk3 := pk.sm (s2.trans s3)
      repeat walk_at "w"
      refine fl_list (o.map V.int) (fun i σ H' => ∃ o1, σ = [some v, some (.ref p), some (.ref l), some (.ref f), some (.int ((held (ownF ss) (o.take i).reverse).length : Int)), o1] ∧ Same H H' ∧ PK K H' l ss ∧ H' f = some (.lst (((heldL (ownF ss) o).take i).map V.int))) (SqL.of (s03 _ _ hp))
        ⟨_, rfl, s03, pk3, f3⟩ (fun i σ H' hi hp' => ?_) (fun i x σ H' hx hp' => ?_) (fun σ H' hp' => ?_)
      · obtain ⟨_, _, e, _⟩ := hp'
        exact SqL.of (e _ _ hp)
      · obtain ⟨o1, rfl, e, pk', hfd⟩ := hp'
        rw [List.getElem?_map] at hx
        obtain ⟨y, hy, rfl⟩ := Option.map_eq_some_iff.mp hx
        have hil := (List.getElem?_eq_some_iff.mp hy).1
        have by' := (hf.mem y).mp (List.mem_of_getElem? hy)
        obtain ⟨xs2, v2, d2, hx2, ha2, hd2, hr2, ho2⟩ := pk'.at by'.1 by'.2
        repeat walk_at "w"
        refine ⟨v2, d2, rfl, hd2, hr2, fun po H4 fo s4 no => ?_⟩
        rw [ho2] at fo
        repeat walk_at "w"
        have e5 := hf.cnt hy
        rw [List.length_map, show ((held (ownF ss) (o.take i).reverse).length : Int) + 1 - ((ownF ss y).length : Int) = cnts' (ownF ss) o i from e5.symm]
        repeat walk_at "w"
        refine w_append (s4 _ _ hfd) (by rw [sizeLine_eq, List.length_map, List.length_take]; omega) ?_
        refine w_chg fun H5 e5 f5 => ?_
        repeat walk_at "w"
        have nfl : l ≠ f := by
          obtain ⟨us, hus, _⟩ := pk.len
          exact ne_of_none (s2 _ _ hus) n3
        have nfH : H f = none := (s1.trans s2).free n3
        refine ⟨_, rfl, But.new (e.trans s4) nfH e5, ?_, ?_⟩
        · have p4 := pk'.sm s4
          exact ⟨p4.pl.ts (TS.butL e5 (s4 _ _ hfd)) fun _ g => e5 _ _ nfl g, p4.ok, p4.few⟩
        · rw [heldL_take _ _ hil, List.map_append]; exact f5
      · obtain ⟨o1, rfl, e, pk', hfd⟩ := hp'
        rw [List.length_map, List.take_of_length_le (by rw [heldL_len]; exact Nat.le_refl _)] at hfd
        repeat walk_at "w"
        exact q f H' hfd e ((s1.trans s2).free n3)
end
/-! ### needs -/
def spNeed (K : PySem.W.Frag) (n : Nat) : Sp := fun vs H Q _ => ∃ v e, vs = [v] ∧ Dp K H v (Exp.d e) ∧ OkE n e ∧ Q (.int (e.need : Nat)) H
theorem len_needs_of {K : PySem.W.Frag} {n : Nat} {vs H Q E} (h : spNeed K n vs H Q E) : vs.length = 1 := by obtain ⟨_, _, rfl, _⟩ := h; rfl
theorem no_needs_of {K : PySem.W.Frag} {vs H Q E} (h : spNeed K 0 vs H Q E) : False := by obtain ⟨_, _, _, _, h, _⟩ := h; exact okE_0 h
section
variable {P : Program} {w : World} {K : PySem.W.Frag} {mg : Str → Option Value}
theorem ok_needs_of [c : Facts K mg] : ∀ n : Nat, Fn P w K mg "needs_of" (n + 1) ["e"] ((spNeed K n))
  | 0 => by
    obtain ⟨fd, F⟩ := c.d_needs_of
    exact Fn.mk' (k := 0) F c.g_needs_of sc_needs_of (fun vs H Q E h => (no_needs_of h).elim) (fun _ _ _ _ _ _ us hl => match us, hl with | [_], _ => rfl) (fun base cdv A outer s H vs Q E hr h => (no_needs_of h).elim)
  | n + 1 => by
    have G_needs_of := ok_needs_of n
    obtain ⟨fd, F⟩ := c.d_needs_of
    refine Fn.mk' F c.g_needs_of sc_needs_of (k := n + 1) (fun vs H Q E h => ?_) (fun _ _ _ _ _ _ us hl => match us, hl with | [_], _ => rfl) (fun base cdv A outer s H vs Q E hr h => ?_)
    · exact len_needs_of h
    · have nd := sc_needs_of.nd
      have hu := hu_of hr
      have hr_needs_of : Room (n + 1) _ := hr.mono (by omega)
      refine ⟨_, (pss_cons (ps_if (PW.pt (pw_or (pt_cmpR (op_eqA (K := K) rfl hr.units) (pe_ix (ix_any (K := K) rfl) (pv 0) pe_int (fun _ _ => rfl)) pe_str (nomark _)) (pw_or1 (pt_cmpR (op_eqA (K := K) rfl hr.units) (pe_ix (ix_any (K := K) rfl) (pv 0) pe_int (fun _ _ => rfl)) pe_str (nomark _))))) (pss_one (ps_ret pe_int)) pss_nil)
      (pss_cons (ps_if (PW.pt (pw_or (pt_cmpR (op_eqA (K := K) rfl hr.units) (pe_ix (ix_any (K := K) rfl) (pv 0) pe_int (fun _ _ => rfl)) pe_str (nomark _)) (pw_or1 (pt_cmpR (op_eqA (K := K) rfl hr.units) (pe_ix (ix_any (K := K) rfl) (pv 0) pe_int (fun _ _ => rfl)) pe_str (nomark _))))) (pss_one (ps_ret pe_int)) pss_nil)
      (pss_cons (ps_if (pt_cmpR (op_eqA (K := K) rfl hr.units) (pe_ix (ix_any (K := K) rfl) (pv 0) pe_int (fun _ _ => rfl)) pe_str (nomark _)) (pss_one (ps_ret (pe_callB (call_max2A rfl) (by rfl) c.f_max boot_max (pa_cons pe_int (pa_cons (pe_fn G_needs_of hr_needs_of (by rfl) (pa_cons (pe_ix (ix_any (K := K) rfl) (pv 0) pe_int (fun _ _ => rfl)) pa_nil)) pa_nil))))) pss_nil)
      (pss_cons (ps_set (i := 1) nd rfl (Or.inl rfl) (pe_fn G_needs_of hr_needs_of (by rfl) (pa_cons (pe_ix (ix_any (K := K) rfl) (pv 0) pe_int (fun _ _ => rfl)) pa_nil)))
      (pss_cons (ps_set (i := 2) nd rfl (Or.inl rfl) (pe_fn G_needs_of hr_needs_of (by rfl) (pa_cons (pe_ix (ix_any (K := K) rfl) (pv 0) pe_int (fun _ _ => rfl)) pa_nil)))
      (pss_cons (ps_if (PW.pt (pw_and (pt_cmpR (op_eqA (K := K) rfl hr.units) (pv 1) (pv 2) (nomark _)) (pw_and1 (pt_cmpR op_gt (pv 1) pe_int (nomark _))))) (pss_one (ps_ret (pe_op (op_addA (K := K) rfl) (pv 1) pe_int))) pss_nil)
      (pss_one (ps_ret (pe_callB (call_max3A rfl) (by rfl) c.f_max boot_max (pa_cons pe_int (pa_cons (pv 1) (pa_cons (pv 2) pa_nil)))))))))))), ?_⟩
      try dsimp only [cxOf, Cx.nox, Cx.wish]
      obtain ⟨v, e, rfl, hv, oe, q⟩ := h
      cases e with
      | num j =>
        obtain ⟨p, u, rfl, hp, hu'⟩ := exp_1 hv
        repeat walk_at "wf"
        exact q
      | fld j =>
        obtain ⟨p, u, rfl, hp, hu'⟩ := exp_1 hv
        repeat walk_at "wf"
        exact q
      | plc k j =>
        obtain ⟨p, u, rfl, hp, hu'⟩ := exp_1 hv
        repeat walk_at "wf"
        exact q
      | mrk k j =>
        obtain ⟨p, u, rfl, hp, hu'⟩ := exp_1 hv
        repeat walk_at "wf"
        exact q
      | cell a =>
        obtain ⟨p, u, rfl, hp, hu'⟩ := exp_1 hv
        repeat walk_at "wf"
        refine ⟨u, a, rfl, hu', okE_cell oe, ?_⟩
        repeat walk_at "w"
        rw [show max (1 : Int) (a.need : Nat) = (((Exp.cell a).need : Nat) : Int) by simp only [Exp.need]; omega]
        exact q
      | two o a b =>
        obtain ⟨p, u, u2, rfl, hp, hu', hu2⟩ := exp_2 hv
        obtain ⟨oo, oa, ob⟩ := okE_two oe
        obtain ⟨n1, n2, n3, n4, n5⟩ := oo.ne
        repeat walk_at "wf"
        refine ⟨u, a, rfl, hu', oa, ?_⟩
        repeat walk_at "w"
        refine ⟨u2, b, rfl, hu2, ob, ?_⟩
        repeat walk_at "v"
        refine w_andP ((a.need : Int) = b.need) ((0 : Int) < a.need) (by walk_at "tz") (by walk_at "tz") (fun c hc => ?_)
        refine ite2 (fun h1 => ?_) (fun h1 => ?_)
        · have g := hc.mp h1
          repeat walk_at "w"
          rw [show (a.need : Int) + 1 = (((Exp.two o a b).need : Nat) : Int) by simp only [Exp.need]; rw [if_pos (by omega)]; omega]
          exact q
        · have g : ¬ ((a.need : Int) = b.need ∧ (0 : Int) < a.need) := fun z => h1 (hc.mpr z)
          repeat walk_at "w"
          rw [show max (max (1 : Int) (a.need : Nat)) (b.need : Nat) = (((Exp.two o a b).need : Nat) : Int) by simp only [Exp.need]; rw [if_neg (by omega)]; omega]
          exact q
end
/-! ### what the sets rest on, by their needs -/
def pos (es : List Exp) (b : Int) : List (Exp × Int) := (offs es b).filter fun p => decide (0 < p.1.need)
theorem offs_app : ∀ (es fs : List Exp) (b : Int), offs (es ++ fs) b = offs es b ++ offs fs (b + cnts es)
  | [], fs, b => by simp [offs, cnts]
  | e :: es, fs, b => by
    rw [List.cons_append, offs, offs_app es, offs, cnts, List.cons_append]
    congr 3; omega
theorem pos_app (es fs : List Exp) (b : Int) : pos (es ++ fs) b = pos es b ++ pos fs (b + cnts es) := by unfold pos; rw [offs_app, List.filter_append]
theorem cnts_app : ∀ (es fs : List Exp), cnts (es ++ fs) = cnts es + cnts fs
  | [], fs => by simp [cnts]
  | e :: es, fs => by rw [List.cons_append, cnts, cnts_app es, cnts]; omega
def entI (p : (Exp × Int) × Nat) : List Int := [0 - (p.1.1.need : Nat), (p.2 : Nat), p.1.2 + p.1.1.cnt - 1]
def TupH (H : Hp) (x : V) (ns : List Int) : Prop := ∃ t, x = .ref t ∧ H t = some (.tup (ns.map V.int))
/-- the entries found so far -/
structure Ent (H : Hp) (f : Addr) (L : List (Exp × Int)) (Z : List (V × ((Exp × Int) × Nat))) : Prop where
  at_ : H f = some (.lst (Z.map Prod.fst))
  what : Z.map Prod.snd = L.zipIdx
  tup : ∀ z ∈ Z, TupH H z.1 (entI z.2)
theorem Ent.sm {H H' : Hp} {f : Addr} {L : List (Exp × Int)} {Z : List (V × ((Exp × Int) × Nat))} (h : Ent H f L Z) (e : Same H H') : Ent H' f L Z := ⟨e _ _ h.at_, h.what, fun z hz => by
  obtain ⟨t, a, b⟩ := h.tup z hz
  exact ⟨t, a, e _ _ b⟩⟩
theorem Ent.snoc {H H' : Hp} {f t : Addr} {L : List (Exp × Int)} {Z : List (V × ((Exp × Int) × Nat))} {p : Exp × Int} (h : Ent H f L Z) (ht : H t = some (.tup ((entI (p, L.length)).map V.int))) (e : But f H H') (g : H' f = some (.lst (Z.map Prod.fst ++ [.ref t]))) :
    Ent H' f (L ++ [p]) (Z ++ [(.ref t, (p, L.length))]) := by
  have ne : ∀ t' xs, H t' = some (.tup xs) → t' ≠ f := fun t' xs q z => by rw [z, h.at_] at q; cases q
  refine ⟨by rw [List.map_append]; exact g, by rw [List.map_append, h.what, List.zipIdx_append]; simp, fun z hz => ?_⟩
  rcases List.mem_append.mp hz with q | q
  · obtain ⟨t', a, b⟩ := h.tup z q
    exact ⟨t', a, e _ _ (ne _ _ b) b⟩
  · rw [List.mem_singleton.mp q]
    exact ⟨t, rfl, e _ _ (ne _ _ ht) ht⟩
theorem Ent.len {H : Hp} {f : Addr} {L : List (Exp × Int)} {Z : List (V × ((Exp × Int) × Nat))} (h : Ent H f L Z) : (Z.map Prod.fst).length = L.length := by
  have := congrArg List.length h.what
  rw [List.length_map, List.length_zipIdx] at this
  rw [List.length_map, this]
theorem perm_map_inv {α β : Type} {f : α → β} {ys zs : List β} (h : ys.Perm zs) : ∀ Z : List α, Z.map f = zs → ∃ Z' : List α, Z'.Perm Z ∧ Z'.map f = ys := by
  induction h with
  | nil => intro Z e; exact ⟨Z, List.Perm.refl _, e⟩
  | cons x p ih =>
    intro Z e
    cases Z with
    | nil => cases e
    | cons z Z =>
      rw [List.map_cons] at e
      obtain ⟨e1, e2⟩ := List.cons.inj e
      obtain ⟨Z', a, b⟩ := ih Z e2
      exact ⟨z :: Z', a.cons z, by rw [List.map_cons, b, e1]⟩
  | swap x y l =>
    intro Z e
    match Z, e with
    | z1 :: z2 :: Z, e =>
      simp only [List.map_cons] at e
      obtain ⟨e1, e2⟩ := List.cons.inj e
      obtain ⟨e3, e4⟩ := List.cons.inj e2
      exact ⟨z2 :: z1 :: Z, List.Perm.swap _ _ _, by simp only [List.map_cons]; rw [e1, e3, e4]⟩
  | trans p q ih1 ih2 =>
    intro Z e
    obtain ⟨Z1, a, b⟩ := ih2 Z e
    obtain ⟨Z2, c, d⟩ := ih1 Z1 b
    exact ⟨Z2, c.trans a, d⟩
theorem parts_at : ∀ (es : List Exp) (ps : List PyData) {j : Nat} {e : Exp}, es[j]? = some e → (parts es ps).1[j]? = some (e.part (parts (es.take j) ps).2).1
  | [], _, _, _, h => by simp at h
  | x :: es, ps, 0, e, h => by cases Option.some.inj h; rfl
  | x :: es, ps, j + 1, e, h => by
    have := parts_at es (x.part ps).2 (j := j) (by simpa using h)
    simpa [parts] using this
theorem proots_at : ∀ (ss : List SetE) (ps : List PyData) {j : Nat} {s : SetE}, ss[j]? = some s → (proots ss ps).1[j]? = some (.tuple (parts s.rests (proots (ss.take j) ps).2).1)
  | [], _, _, _, h => by simp at h
  | x :: ss, ps, 0, s, h => by cases Option.some.inj h; rfl
  | x :: ss, ps, j + 1, s, h => by
    have := proots_at ss (parts x.rests ps).2 (j := j) (by simpa using h)
    simpa [proots] using this
def spFall (K : PySem.W.Frag) : Sp := fun vs H Q _ => ∃ v ss, vs = [v] ∧ Dp K H v (setsD ss) ∧ ss.length ≤ 4 ∧ (∀ x ∈ ss, OkS 4 x) ∧
  ∀ q H' (Z : List (V × ((Exp × Int) × Nat))), H' q = some (.lst (Z.map Prod.fst)) → (Z.map Prod.snd).Perm (pos (restsL ss) 0).zipIdx → Z.Pairwise (fun a b => lexI (entI b.2) (entI a.2) = false) → (∀ z ∈ Z, TupH H' z.1 (entI z.2)) → Same H H' → H q = none → Q (.ref q) H'
theorem len_falling {K : PySem.W.Frag} {vs H Q E} (h : spFall K vs H Q E) : vs.length = 1 := by obtain ⟨_, _, rfl, _⟩ := h; rfl
def intV : V → Int
  | .int n => n
  | _ => 0
def kOf (H : Hp) (x : V) : List Int := match x with
  | .ref t => match H t with
    | some (.tup vs) => vs.map intV
    | _ => []
  | _ => []
theorem kOf_tup {H : Hp} {x : V} {ns : List Int} (h : TupH H x ns) : kOf H x = ns := by
  obtain ⟨t, rfl, ht⟩ := h
  unfold kOf
  simp only [ht, List.map_map]
  have : (intV ∘ V.int) = id := by funext n; rfl
  rw [this, List.map_id]
theorem pos_one (e : Exp) (b : Int) : pos [e] b = if 0 < e.need then [(e, b)] else [] := by
  unfold pos offs offs
  by_cases h : 0 < e.need
  · rw [if_pos h, List.filter_cons, if_pos (by simpa using h)]; rfl
  · rw [if_neg h, List.filter_cons, if_neg (by simpa using h)]; rfl
theorem restsL_snoc {ss : List SetE} {i : Nat} {s : SetE} (h : ss[i]? = some s) : restsL (ss.take (i + 1)) = restsL (ss.take i) ++ s.rests := by
  unfold restsL
  rw [take_snoc h, List.flatMap_append]
  simp
section
variable {P : Program} {w : World} {K : PySem.W.Frag} {mg : Str → Option Value}
theorem ok_falling [c : Facts K mg] (G_needs_of : Fn P w K mg "needs_of" 5 ["e"] ((spNeed K 4))) (G_rests_of : Fn P w K mg "rests_of" 1 ["one"] ((spRests K))) (G_roots_of : Fn P w K mg "roots_of" 7 ["sets"] ((spRof K))) : Fn P w K mg "falling" 8 ["sets"] ((spFall K)) := by
  obtain ⟨fd, F⟩ := c.d_falling
  refine Fn.mk' F c.g_falling sc_falling (k := 7) (fun vs H Q E h => ?_) (fun _ _ _ _ _ _ us hl => match us, hl with | [_], _ => rfl) (fun base cdv A outer s H vs Q E hr h => ?_)
  · exact len_falling h
  · have nd := sc_falling.nd
    have hu := hu_of hr
    have hr_needs_of : Room 5 _ := hr.mono (by omega)
    have hr_rests_of : Room 1 _ := hr.mono (by omega)
    have hr_roots_of : Room 7 _ := hr.mono (by omega)
    refine ⟨_, (pss_cons (ps_set (i := 1) nd rfl (Or.inl rfl) (pe_fn G_roots_of hr_roots_of (by rfl) (pa_cons (pv 0) pa_nil)))
      (pss_cons (ps_set (i := 2) nd rfl (Or.inl rfl) (pe_lst pa_nil))
      (pss_cons (ps_for PassesOwn.never rfl (pi_zipM (K := K) true false rfl (by rfl) c.f_zip (pa_cons (pv 0) (pa_cons (pv 1) pa_nil))) (pg_seq 2 (K := K) rfl rfl (pgs_cons (pg_name (i := 3) nd rfl (Or.inl rfl)) (pgs_cons (pg_name (i := 4) nd rfl (Or.inl rfl)) pgs_nil))) (pss_one (ps_for PassesOwn.never rfl (pi_zipM (K := K) false true rfl (by rfl) c.f_zip (pa_cons (pe_fn G_rests_of hr_rests_of (by rfl) (pa_cons (pv 3) pa_nil)) (pa_cons (pv 4) pa_nil))) (pg_seq 2 (K := K) rfl rfl (pgs_cons (pg_name (i := 5) nd rfl (Or.inl rfl)) (pgs_cons (pg_name (i := 6) nd rfl (Or.inl rfl)) pgs_nil))) (pss_one (ps_if (pt_cmpR op_gt (pe_fn G_needs_of hr_needs_of (by rfl) (pa_cons (pv 5) pa_nil)) pe_int (nomark _)) (pss_one (ps_expr (pe_bm PySem.F.plainAttrs_list PySem.F.slot_list_append PySem.F.type_list_append mt_append (pv 2) (pa_cons (pe_tup (pa_cons (pe_op op_sub pe_int (pe_fn G_needs_of hr_needs_of (by rfl) (pa_cons (pv 5) pa_nil))) (pa_cons (pe_callB (call_lenA (K := K) rfl) (by rfl) c.f_len boot_len (pa_cons (pv 2) pa_nil)) (pa_cons (pv 6) pa_nil)))) pa_nil)))) pss_nil)))))
      (pss_one (ps_ret (pe_callB (call_sortedL (K := K) rfl) (by rfl) c.f_sorted boot_sorted (pa_cons (pv 2) pa_nil))))))), ?_⟩
    try dsimp only [cxOf, Cx.nox, Cx.wish]
    obtain ⟨v, ss, rfl, hv, hl, ho, q⟩ := h
    obtain ⟨a, xs, rfl, ha, hxs⟩ := set_d hv
    have hxl : xs.length = ss.length := by rw [dpa_len hxs, List.length_map]
    repeat walk_at "w"
    refine ⟨.ref a, ss, rfl, hv, hl, ho, fun r H1 hR nr s1 => ?_⟩
    repeat walk_at "w"
    refine w_new fun f H2 nf s2 f2 => ?_
    repeat walk_at "w"
    obtain ⟨ys, hy, hyd, hyr⟩ := id hR
    have hyl : ys.length = ss.length := by rw [hR.len hy, (proots_len ss [] ho).2]
    have nr2 : r ≠ f := fun z => by rw [z, nf] at hy; cases hy
    refine fl_zipM (xs := xs) (ys := ys) (fun i σ H' => ∃ Z o3 o4 o5 o6, σ = [some (.ref a), some (.ref r), some (.ref f), o3, o4, o5, o6] ∧ Same H1 H' ∧ Ent H' f (pos (restsL (ss.take i)) 0) Z) ((s1.trans s2).sqT ha) (SqL.of (s2 _ _ hy))
      ⟨[], _, _, _, _, rfl, s2, ⟨f2, rfl, fun z hz => (List.not_mem_nil hz).elim⟩⟩ (fun i σ H' hi hp => ?_) (fun i x y T σ H' H3 hx hy' hp nT s3 hT => ?_) (fun σ H' hp => ?_)
    · obtain ⟨Z, _, _, _, _, _, e, _⟩ := hp
      exact ⟨(s1.trans e).sqT ha, SqL.of (e _ _ hy)⟩
    · obtain ⟨Z, o3, o4, o5, o6, rfl, e, hE⟩ := hp
      have hi' : i < ss.length := by have := (List.getElem?_eq_some_iff.mp hx).1; omega
      obtain ⟨s, hs⟩ : ∃ s, ss[i]? = some s := ⟨_, List.getElem?_eq_getElem hi'⟩
      have os := ho s (List.mem_of_getElem? hs)
      have e3 : Same H1 H3 := e.trans s3
      have hxd : Dp K H3 x s.d := by
        obtain ⟨d, hd1, hd2⟩ := dpa_at' (dpAll_ts (TS.of (s1.trans e3)) _ _ (setsD_tup ss) hxs) hx
        rw [List.getElem?_map, hs] at hd1
        cases Option.some.inj hd1
        exact hd2
      have hyd2 : Dp K H3 y (.tuple (J.parts s.rests (proots (ss.take i) []).2).1) := by
        obtain ⟨d, hd1, hd2⟩ := dpa_at' (dpAll_ts (TS.of e3) _ _ (rows_all hyr).1 hyd) hy'
        rw [proots_at ss [] hs] at hd1
        cases Option.some.inj hd1
        exact hd2
      obtain ⟨ry, vs, rfl, hry, hvs⟩ := dp_tup hyd2
      repeat walk_at "w"
      refine ⟨x, s, rfl, hxd, fun p us H4 hp4 hus s4 n4 => ?_⟩
      have e4 := e3.trans s4
      have hul : us.length = s.rests.length := by rw [dpa_len hus, List.length_map]
      have hE4 := (hE.sm s3).sm s4
      have npf : p ≠ f := fun z => by rw [z, (hE.sm s3).at_] at n4; cases n4
      have hvl : vs.length = s.rests.length := by
        rw [dpa_len hvs]
        have : ∀ (es : List Exp) (ps : List PyData), (J.parts es ps).1.length = es.length := by
          intro es
          induction es with
          | nil => intro ps; rfl
          | cons e es ih => intro ps; rw [J.parts, List.length_cons, List.length_cons, ih]
        exact this _ _
      have pg : Rows (proots (ss.take i) []).2 := (proots_ok (ss.take i) (fun z hz => ho z (List.mem_of_mem_take hz)) rows_nil).2
      have ii := parts_ok s.rests (ps := (proots (ss.take i) []).2) (fun y hy => (okS_rests os y hy).2) pg
      have rl : s.rests.length ≤ 2 := by cases s <;> simp [SetE.rests]
      repeat walk_at "w"
      refine fl_zipM (xs := us) (ys := vs) (fun j σ H' => ∃ Z o5 o6, σ = [some (.ref a), some (.ref r), some (.ref f), some x, some (.ref ry), o5, o6] ∧ But f H4 H' ∧ Ent H' f (pos (restsL (ss.take i)) 0 ++ pos (s.rests.take j) (cnts (restsL (ss.take i)) : Nat)) Z) (SqL.of hp4) (s4.sqT hry)
        ⟨Z, _, _, rfl, But.refl _ _, by rw [List.take_zero, show pos [] ((cnts (restsL (ss.take i)) : Nat) : Int) = [] from rfl, List.append_nil]; exact hE4⟩ (fun j σ H' hj hp => ?_) (fun j ve vn T2 σ H' H5 hve hvn hp nT2 s5 hT2 => ?_) (fun σ H' hp => ?_)
      · obtain ⟨Z, _, _, _, b, _⟩ := hp
        have t4 : TS H4 H' := TS.butL b hE4.at_
        exact ⟨SqL.of (b _ _ npf hp4), t4.sqT (s4.sqT hry)⟩
      · obtain ⟨Z, o5, o6, rfl, b, hE'⟩ := hp
        have hj' : j < s.rests.length := by have := (List.getElem?_eq_some_iff.mp hve).1; omega
        obtain ⟨e, he⟩ : ∃ e, s.rests[j]? = some e := ⟨_, List.getElem?_eq_getElem hj'⟩
        have oe := okS_rests os e (List.mem_of_getElem? he)
        have t4 : TS H4 H' := TS.butL b hE4.at_
        have t5 : TS H4 H5 := t4.trans (TS.of s5)
        have hve5 : Dp K H5 ve e.d := by
          obtain ⟨d, hd1, hd2⟩ := dpa_at' (dpAll_ts t5 _ _ (exps_tup _) hus) hve
          rw [List.getElem?_map, he] at hd1
          cases Option.some.inj hd1
          exact hd2
        have hvn5 : Dp K H5 vn (e.part (J.parts (s.rests.take j) (proots (ss.take i) []).2).2).1 := by
          obtain ⟨d, hd1, hd2⟩ := dpa_at' (dpAll_ts ((TS.of s4).trans t5) _ _ (items_all ii.1).1 hvs) hvn
          rw [parts_at s.rests _ he] at hd1
          cases Option.some.inj hd1
          exact hd2
        have hE5 := hE'.sm s5
        repeat walk_at "w"
        refine ⟨ve, e, rfl, hve5, oe, ?_⟩
        repeat walk_at "w"
        refine ite2 (fun h1 => ?_) (fun h1 => ?_)
        · have h1' : 0 < e.need := by rw [decide_eq_true_eq] at h1; omega
          have hc := (need_cnt e).mp h1'
          rw [part_rt hc, parts_len, proots_cnt] at hvn5
          cases dp_int hvn5
          have z5 := hE5.len
          have fz := hE5.at_
          have z6 : (pos (restsL (ss.take i)) 0 ++ pos (s.rests.take j) (cnts (restsL (ss.take i)) : Nat)).length ≤ 1000 := by
            have : ∀ (es : List Exp) (b : Int), (pos es b).length ≤ es.length := fun es b => by
              unfold pos
              refine Nat.le_trans (List.length_filter_le _ _) ?_
              induction es generalizing b with
              | nil => exact Nat.le_refl _
              | cons e es ih => rw [offs, List.length_cons, List.length_cons]; have := ih (b + e.cnt); omega
            have a1 := this (restsL (ss.take i)) 0
            have a2 := this (s.rests.take j) (cnts (restsL (ss.take i)) : Nat)
            have a3 : (restsL (ss.take i)).length ≤ 2 * (ss.take i).length := by
              unfold restsL
              generalize ss.take i = l
              induction l with
              | nil => exact Nat.le_refl _
              | cons z l ih =>
                rw [List.flatMap_cons, List.length_append, List.length_cons]
                have : z.rests.length ≤ 2 := by cases z <;> simp [SetE.rests]
                omega
            rw [List.length_take] at a3
            have a4 : (s.rests.take j).length ≤ 2 := by rw [List.length_take]; omega
            rw [List.length_append]; omega
          repeat walk_at "w"
          refine ⟨ve, e, rfl, hve5, oe, ?_⟩
          repeat walk_at "w"
          rw [z5]
          refine w_new fun t H6 n6 s6 f6 => ?_
          repeat walk_at "w"
          refine w_append (s6 _ _ fz) (by rw [sizeLine_eq]; omega) ?_
          refine w_chg fun H7 e7 f7 => ?_
          repeat walk_at "w"
          refine ⟨Z ++ [(V.ref t, ((e, ((cnts (restsL (ss.take i)) : Nat) : Int) + (cnts (s.rests.take j) : Nat)), (pos (restsL (ss.take i)) 0 ++ pos (s.rests.take j) (cnts (restsL (ss.take i)) : Nat)).length))], _, _, rfl, (b.trans (But.of (s5.trans s6))).trans e7, ?_⟩
          rw [take_snoc he, pos_app, pos_one, if_pos h1', ← List.append_assoc]
          refine Ent.snoc (hE5.sm s6) ?_ e7 f7
          rw [f6]
          unfold entI
          simp only [List.map_cons, List.map_nil]
          congr 4
        · have h1' : ¬ 0 < e.need := by rw [decide_eq_true_eq] at h1; omega
          repeat walk_at "w"
          refine ⟨Z, _, _, rfl, b.trans (But.of s5), ?_⟩
          rw [take_snoc he, pos_app, pos_one, if_neg h1', List.append_nil]
          exact hE5
      · obtain ⟨Z, o5, o6, rfl, b, hE'⟩ := hp
        refine ⟨Z, _, _, _, _, rfl, But.new e4 nf b, ?_⟩
        rw [restsL_snoc hs, pos_app, Int.zero_add]
        rw [hul, hvl, Nat.min_self, List.take_length] at hE'
        exact hE'
    · obtain ⟨Z, o3, o4, o5, o6, rfl, e, hE⟩ := hp
      rw [hxl, hyl, Nat.min_self, List.take_length] at hE
      repeat walk_at "w"
      refine ⟨f, Z.map Prod.fst, kOf H', 3, rfl, SqL.of hE.at_, by decide, fun x hx => ?_, fun zs hp hw => ?_⟩
      · obtain ⟨z, hz, rfl⟩ := List.mem_map.mp hx
        have := hE.tup z hz
        rw [kOf_tup this]
        obtain ⟨t, e1, e2⟩ := this
        exact ⟨⟨t, e1, SqT.of e2⟩, rfl⟩
      · refine w_new fun g H5 n5 s5 f5 => ?_
        obtain ⟨Z', hZ, rfl⟩ := perm_map_inv hp Z rfl
        refine q g H5 Z' f5 ?_ ?_ (fun z hz => ?_) (s1.trans (e.trans s5)) (s1.free (e.free n5))
        · rw [← hE.what]; exact hZ.map _
        · rw [List.pairwise_map] at hw
          refine hw.imp_of_mem fun {x y} hx hy hh => ?_
          rw [kOf_tup (hE.tup x (hZ.mem_iff.mp hx)), kOf_tup (hE.tup y (hZ.mem_iff.mp hy))] at hh
          exact hh
        · obtain ⟨t, a1, a2⟩ := hE.tup z (hZ.mem_iff.mp hz)
          exact ⟨t, a1, s5 _ _ a2⟩
end

end J
namespace J
open PySem PySem.Spec PyProof.Rows L2
local macro_rules | `(tactic| walk_at "cls") => `(tactic| first
  | with_reducible exact Facts.cl_Parts
  | with_reducible exact Facts.cl_Order)
local macro_rules | `(tactic| walk_at "na") => `(tactic| first
  | with_reducible exact Facts.na_Parts_rows
  | with_reducible exact Facts.na_Order_parts
  | with_reducible exact Facts.na_Order_order
  | with_reducible exact Facts.na_Order_needed)
local macro_rules | `(tactic| walk_at "ty") => `(tactic| first
  | with_reducible exact ty_int
  | with_reducible exact ty_bl
  | with_reducible exact ty_str
  | with_reducible exact ty_non
  | ((with_reducible refine' ty_lst ?vv); (case vv => walk_at "tr"))
  | ((with_reducible refine' ty_sqT ?vv); (case vv => walk_at "tr"))
  | ((with_reducible refine' ty_dic ?vv); (case vv => walk_at "tr")))
local macro_rules | `(tactic| walk_at "ix") => `(tactic| first | exact at0 | exact at1 | exact at2 | assumption)
local macro_rules | `(tactic| walk_at "size") => `(tactic| first
  | assumption
  | (show _ < sizeLine; rw [sizeLine_eq]; (try simp only [List.length_cons, List.length_nil, List.length_append, List.length_map]); omega)
  | (show _ ≤ sizeLine; rw [sizeLine_eq]; (try simp only [List.length_cons, List.length_nil, List.length_append, List.length_map]); omega))
local macro_rules | `(tactic| walk_at "side") => `(tactic| first
  | assumption
  | ((with_reducible refine cdw ?_ ?_) <;> omega)
  | omega
  | (exact ⟨by omega, by omega⟩)
  | (exact Or.inl ⟨by omega, by omega⟩)
  | (exact Or.inr ⟨by omega, by omega⟩)
  | decide
  | (simp only [List.length_cons, List.length_nil, List.length_append, List.length_map]; omega)
  | (show _ ≤ _; decide))
local macro_rules | `(tactic| walk_at "as") => `(tactic| with_reducible assumption)
local macro_rules | `(tactic| walk_at "tr") => `(tactic| first
  | with_reducible assumption
  | with_reducible exact upd_same
  | ((with_reducible refine' SqL.of ?hh); (case hh => walk_at "as"))
  | ((with_reducible refine' SqT.of ?hh); (case hh => walk_at "as"))
  | ((with_reducible refine' Same.stm ?ee ?gg); (case ee => walk_at "as"); (case gg => walk_at "tr"))
  | ((with_reducible refine' Same.sqT ?ee ?gg); (case ee => walk_at "as"); (case gg => walk_at "tr"))
  | ((with_reducible refine' Same.sqL ?ee ?gg); (case ee => walk_at "as"); (case gg => walk_at "tr"))
  | ((with_reducible refine' Same.at ?ee ?gg); (case ee => walk_at "as"); (case gg => walk_at "tr"))
  | ((with_reducible refine' But.stm ?ee ?ff ?gg); (case ee => walk_at "as"); (case ff => walk_at "ne"); (case gg => walk_at "tr"))
  | ((with_reducible refine' But.tup ?ee ?ff ?gg); (case ee => walk_at "as"); (case ff => walk_at "tr1"); (case gg => walk_at "tr"))
  | ((with_reducible refine' But.sqT ?ee ?ff ?gg); (case ee => walk_at "as"); (case ff => walk_at "tr1"); (case gg => walk_at "tr"))
  | ((with_reducible refine' But.tupL ?ee ?ff ?gg); (case ee => walk_at "as"); (case ff => walk_at "tr1"); (case gg => walk_at "tr"))
  | ((with_reducible refine' But.sqTL ?ee ?ff ?gg); (case ee => walk_at "as"); (case ff => walk_at "tr1"); (case gg => walk_at "tr"))
  | ((with_reducible refine' But.sqL ?ee ?ff ?gg); (case ee => walk_at "as"); (case ff => walk_at "ne"); (case gg => walk_at "tr"))
  | ((with_reducible refine' But.at ?ee ?ff ?gg); (case ee => walk_at "as"); (case ff => walk_at "ne"); (case gg => walk_at "tr")))
local macro_rules | `(tactic| walk_at "ts") => `(tactic| first
  | with_reducible assumption
  | with_reducible exact TS.refl _
  | ((with_reducible refine' TS.trans ?gg (TS.of ?ee)); (case ee => walk_at "as"); (case gg => walk_at "ts"))
  | ((with_reducible refine' TS.trans ?gg (TS.butS ?ee ?ff)); (case ee => walk_at "as"); (case ff => walk_at "tr1"); (case gg => walk_at "ts"))
  | ((with_reducible refine' TS.trans ?gg (TS.butL ?ee ?ff)); (case ee => walk_at "as"); (case ff => walk_at "tr1"); (case gg => walk_at "ts"))
  | ((with_reducible refine' TS.trans ?gg (TS.butI ?ee ?ff)); (case ee => walk_at "as"); (case ff => walk_at "tr1"); (case gg => walk_at "ts")))
local macro_rules | `(tactic| walk_at "sm") => `(tactic| first
  | with_reducible assumption
  | with_reducible exact Same.refl _
  | ((with_reducible refine' Same.trans ?gg ?ee); (case ee => walk_at "as"); (case gg => walk_at "sm"))
  | ((with_reducible refine' But.new ?gg ?nn ?ee); (case ee => walk_at "as"); (case nn => walk_at "fr"); (case gg => walk_at "sm")))
local macro_rules | `(tactic| walk_at "fr") => `(tactic| first
  | with_reducible assumption
  | ((with_reducible refine' Same.back ?ee ?nn); (case nn => walk_at "as"); (case ee => walk_at "sm"))
  | ((with_reducible refine' But.back ?ee ?ff ?nn); (case nn => walk_at "as"); (case ff => walk_at "ne0"); (case ee => walk_at "bu")))
local macro_rules | `(tactic| walk_at "bu") => `(tactic| first
  | with_reducible assumption
  | with_reducible exact But.refl _ _
  | ((with_reducible refine' But.trans ?gg ?ee); (case ee => walk_at "as"); (case gg => walk_at "bu"))
  | ((with_reducible refine' But.trans ?gg (But.of ?ee)); (case ee => walk_at "as"); (case gg => walk_at "bu"))
  | ((with_reducible refine' But.new2 ?gg ?nn ?ee); (case ee => walk_at "as"); (case nn => walk_at "frB"); (case gg => walk_at "bu")))
local macro_rules | `(tactic| walk_at "frB") => `(tactic| first
  | with_reducible assumption
  | ((with_reducible refine' Same.back ?ee ?nn); (case nn => walk_at "as"); (case ee => walk_at "sm"))
  | ((with_reducible refine' But.back' ?ee ?ff ?nn); (case nn => walk_at "as"); (case ee => walk_at "bu"); (case ff => walk_at "tr1")))
local macro_rules | `(tactic| walk_at "tr1") => `(tactic| first
  | with_reducible assumption
  | ((with_reducible refine' Same.stm ?ee ?gg); (case ee => walk_at "as"); (case gg => walk_at "tr1"))
  | ((with_reducible refine' Same.at ?ee ?gg); (case ee => walk_at "as"); (case gg => walk_at "tr1"))
  | ((with_reducible refine' But.at ?ee ?ff ?gg); (case ee => walk_at "as"); (case ff => walk_at "ne0"); (case gg => walk_at "tr1"))
  | ((with_reducible refine' But.stm ?ee ?ff ?gg); (case ee => walk_at "as"); (case ff => walk_at "ne0"); (case gg => walk_at "tr1")))
local macro_rules | `(tactic| walk_at "ne0") => `(tactic| first
  | with_reducible assumption
  | (with_reducible apply Ne.symm; with_reducible assumption))
local macro_rules | `(tactic| walk_at "ne") => `(tactic| first
  | with_reducible assumption
  | (with_reducible apply Ne.symm; with_reducible assumption)
  | ((with_reducible refine' stm_ne ?hh ?nn); (case nn => walk_at "as"); (case hh => walk_at "tr1"))
  | ((with_reducible refine' ne_of_none ?hh ?nn); (case nn => walk_at "as"); (case hh => walk_at "tr1"))
  | ((with_reducible apply Ne.symm); (with_reducible refine' ne_of_none ?hh ?nn); (case nn => walk_at "as"); (case hh => walk_at "tr1")))
local macro_rules | `(tactic| walk_at "v") => `(tactic| first
  | with_reducible refine w_seq ?_
  | ((with_reducible refine' w_var ?vv ?_); (case vv => exact rfl))
  | with_reducible refine w_c ?_
  | with_reducible refine w_op ?_
  | with_reducible refine w_asg ?_
  | with_reducible refine w_gName ?_
  | with_reducible refine w_ret ?_
  | with_reducible refine w_ifS ?_
  | with_reducible refine w_drop ?_
  | with_reducible refine w_next ?_
  | with_reducible refine w_cons ?_
  | with_reducible refine w_nil ?_
  | with_reducible refine w_call ?_
  | with_reducible refine w_cb ?_
  | with_reducible refine w_rI0 ?_
  | with_reducible refine w_addI ?_
  | with_reducible refine w_eqI ?_
  | with_reducible refine w_neI ?_
  | with_reducible refine w_eqS ?_
  | with_reducible refine w_neS ?_
  | with_reducible refine w_eqB ?_
  | with_reducible refine w_neB ?_
  | with_reducible refine w_chain ?_
  | with_reducible refine w_test ?_
  | with_reducible refine w_tB ?_
  | with_reducible refine w_bl ?_
  | ((with_reducible refine' w_mulI ?vv ?_); (case vv => walk_at "side"))
  | ((with_reducible refine' w_rI ?vv ?_); (case vv => walk_at "side"))
  | with_reducible refine w_int1 ?_
  | with_reducible refine w_int1b ?_
  | with_reducible refine w_tup ?_
  | with_reducible refine w_lst ?_
  | with_reducible refine w_un ?_
  | with_reducible refine w_rU ?_
  | with_reducible refine w_not ?_
  | with_reducible refine w_notV ?_
  | with_reducible refine w_ifE ?_
  | with_reducible refine w_nT ?_
  | with_reducible refine w_nF ?_
  | with_reducible refine iteT ?_
  | with_reducible refine iteF ?_
  | ((with_reducible refine' w_ixT ?vv ?ww ?_); (case vv => walk_at "tr"); (case ww => walk_at "ix"))
  | ((with_reducible refine' w_ixL ?vv ?ww ?_); (case vv => walk_at "tr"); (case ww => walk_at "ix"))
  | with_reducible refine w_gSub ?_
  | ((with_reducible refine' w_setL ?vv ?ww ?_); (case vv => walk_at "tr"); (case ww => first | rfl | decide | assumption))
  | ((with_reducible refine' w_lenL ?vv ?_); (case vv => walk_at "tr"))
  | ((with_reducible refine' w_lenT ?vv ?_); (case vv => walk_at "tr"))
  | with_reducible refine w_max2 ?_
  | with_reducible refine w_max3 ?_
  | with_reducible refine w_din ?_
  | with_reducible refine w_dnotin ?_
  | with_reducible refine w_dput ?_
  | with_reducible refine w_min2 ?_
  | with_reducible refine w_bm ?_
  | with_reducible refine w_bm0 ?_
  | ((with_reducible refine' w_tyL ?vv ?_); (case vv => walk_at "tr"))
  | ((with_reducible refine' w_append ?vv ?ww ?_); (case vv => walk_at "tr"); (case ww => walk_at "size"))
  | ((with_reducible refine' w_size ?vv ?_); (case vv => walk_at "size"))
  | with_reducible refine w_forL ?_
  | with_reducible refine w_forT ?_
  | with_reducible refine w_forR1 ?_
  | with_reducible refine w_forR2 ?_
  | with_reducible refine w_lcL ?_
  | with_reducible refine w_lcT ?_
  | with_reducible refine w_lcR1 ?_
  | with_reducible refine w_yes ?_
  | with_reducible refine w_sl ?_
  | with_reducible refine w_noPart ?_
  | with_reducible refine w_part ?_
  | with_reducible refine w_int ?_
  | ((with_reducible refine' w_slL ?vv ?_); (case vv => walk_at "tr"))
  | ((with_reducible refine' w_seqL ?vv ?ww ?_); (case vv => walk_at "tr"); (case ww => rfl))
  | ((with_reducible refine' w_seqT ?vv ?ww ?_); (case vv => walk_at "tr"); (case ww => rfl))
  | with_reducible refine w_gNil ?_
  | with_reducible refine w_gCons ?_
  | with_reducible refine w_forZ ?_
  | with_reducible refine w_forM ?_
  | with_reducible refine w_forE ?_
  | with_reducible refine w_forV ?_
  | with_reducible refine w_lcZ ?_
  | with_reducible refine w_lcE ?_
  | ((with_reducible refine' w_isi (b := true) ?vv ?ww ?_); (case vv => walk_at "ty"); (case ww => decide +kernel))
  | ((with_reducible refine' w_isi (b := false) ?vv ?ww ?_); (case vv => walk_at "ty"); (case ww => decide +kernel))
  | with_reducible refine w_revL ?_
  | with_reducible refine w_pairN ?_
  | with_reducible refine w_pairC ?_
  | with_reducible refine w_dget ?_
  | with_reducible refine w_met ?_
  | ((with_reducible refine' w_metAt ?vv ?ww ?_); (case vv => walk_at "tr"); (case ww => rfl))
  | with_reducible refine w_mkI ?_
  | with_reducible refine w_fld ?_
  | ((with_reducible refine' w_fldAt ?vv ?cc ?nn ?ww ?_); (case vv => walk_at "tr"); (case cc => walk_at "cls"); (case nn => walk_at "na"); (case ww => rfl))
  | with_reducible refine w_sfld ?_
  | ((with_reducible refine' w_sfldAt ?vv ?cc ?nn ?ll ?ee ?_); (case vv => walk_at "tr"); (case cc => walk_at "cls"); (case nn => walk_at "na"); (case ll => simp); (case ee => rfl))
  | ((with_reducible refine' w_tupL ?vv ?_); (case vv => walk_at "tr"))
  | ((with_reducible refine' w_tupT ?vv ?_); (case vv => walk_at "tr"))
  | ((with_reducible refine' w_listL ?vv ?_); (case vv => walk_at "tr"))
  | ((with_reducible refine' w_listT ?vv ?_); (case vv => walk_at "tr"))
  | with_reducible refine w_tyS ?_
  | with_reducible refine w_retN ?_
  | with_reducible refine w_break ?_
  | with_reducible refine w_cont ?_)
local macro_rules | `(tactic| walk_at "w") => `(tactic| first
  | walk_at "v"
  | with_reducible refine w_or ?_
  | with_reducible refine w_and ?_
  | with_reducible refine w_andV ?_
  | with_reducible refine w_orV ?_)
local macro_rules | `(tactic| walk_at "wd") => `(tactic| first
  | walk_at "w"
  | ((with_reducible refine' w_decT ?vv ?_); (case vv => decide +kernel))
  | ((with_reducible refine' w_decF ?vv ?_); (case vv => decide +kernel)))
local macro_rules | `(tactic| walk_at "tz") => `(tactic| (intro S z; (repeat walk_at "w"); exact z))
local macro_rules | `(tactic| walk_at "wf") => `(tactic| first
  | walk_at "wd"
  | ((with_reducible refine' w_decF ?vv ?_); (case vv => with_reducible assumption)))
def needAt (L : List ((Exp × Int) × Nat)) (k : Nat) : Int := match L[k]? with
  | some p => ((p.1.1.need : Nat) : Int)
  | none => 0
def topN (L : List ((Exp × Int) × Nat)) : Nat → Int
  | 0 => 0
  | k + 1 => max (topN L k) ((k : Int) + needAt L k)
theorem topN_att (L : List ((Exp × Int) × Nat)) : ∀ k, k ≤ L.length → topN L k = 0 ∨ ∃ j p, j < k ∧ L[j]? = some p ∧ topN L k = (j : Int) + (p.1.1.need : Nat)
  | 0, _ => .inl rfl
  | k + 1, h => by
    have ih := topN_att L k (by omega)
    obtain ⟨p, hp⟩ : ∃ p, L[k]? = some p := ⟨_, List.getElem?_eq_getElem h⟩
    have e : needAt L k = (p.1.1.need : Nat) := by unfold needAt; rw [hp]
    rw [topN, e]
    by_cases z : topN L k ≤ (k : Int) + (p.1.1.need : Nat)
    · exact .inr ⟨k, p, by omega, hp, by omega⟩
    · rcases ih with g | ⟨j, p', h1, h2, h3⟩
      · omega
      · exact .inr ⟨j, p', by omega, h2, by omega⟩
theorem lex_need {a b : (Exp × Int) × Nat} (h : lexI (entI b) (entI a) = false) : b.1.1.need ≤ a.1.1.need := by
  unfold entI lexI at h
  by_cases z : (0 : Int) - (b.1.1.need : Nat) = 0 - (a.1.1.need : Nat)
  · omega
  · rw [if_neg z, decide_eq_false_iff_not] at h
    omega
theorem mem_of_mem_offs {es : List Exp} {b : Int} {p : Exp × Int} (h : p ∈ pos es b) : p ∈ offs es b ∧ 0 < p.1.need := by
  unfold pos at h
  have := List.mem_filter.mp h
  exact ⟨this.1, by simpa using this.2⟩
theorem apart_of {L : List (Exp × Int)} {p r : Exp × Int} (hp : L.Pairwise Apart) (h1 : p ∈ L) (h2 : r ∈ L) (ne : p ≠ r) : Apart p r := by
  induction L with
  | nil => exact (List.not_mem_nil h1).elim
  | cons q L ih =>
    obtain ⟨a, b⟩ := List.pairwise_cons.mp hp
    rcases List.mem_cons.mp h1 with e1 | h1
    · rcases List.mem_cons.mp h2 with e2 | h2
      · exact (ne (e1.trans e2.symm)).elim
      · rw [e1]; exact a _ h2
    · rcases List.mem_cons.mp h2 with e2 | h2
      · rw [e2]; exact (a _ h1).symm
      · exact ih b h1 h2
theorem low_top {ss : List SetE} {o : List Int} (hf : Full (ownF ss) (nOf ss) o) {L : List ((Exp × Int) × Nat)} (hL : L.Perm (pos (restsL ss) 0).zipIdx) (hw : L.Pairwise fun a b => lexI (entI b) (entI a) = false) :
    ∃ S, S <:+ o.reverse ∧ topN L L.length ≤ ((held (ownF ss) S).length : Int) := by
  rcases topN_att L L.length (Nat.le_refl _) with h | ⟨j, p, hj, hp, h⟩
  · exact ⟨[], List.nil_suffix, by rw [h]; omega⟩
  · have key := low_all (own := ownF ss) hf.val p.1.1.need
    have sub : ∀ q ∈ L, q.1 ∈ pos (restsL ss) 0 := fun q hq => by
      have := hL.mem_iff.mp hq
      exact List.fst_mem_of_mem_zipIdx (x := q) this
    have hm : 1 ≤ p.1.1.need := (mem_of_mem_offs (sub p (List.mem_of_getElem? hp))).2
    have ap : ((L.take (j + 1)).map Prod.fst).Pairwise Apart := by
      have h1 : (pos (restsL ss) 0).Pairwise Apart := offs_apart.sublist List.filter_sublist
      have h2 : (L.map Prod.fst).Perm (pos (restsL ss) 0) := by
        have := hL.map Prod.fst
        rw [List.zipIdx_map_fst] at this
        exact this
      have h3 : (L.map Prod.fst).Pairwise Apart := (h2.pairwise_iff (fun {x y} h => Apart.symm h)).mpr h1
      exact h3.sublist ((List.take_sublist _ _).map _)
    obtain ⟨S, s, l⟩ := key hm ((L.take (j + 1)).map Prod.fst) (by
      intro z
      have := congrArg List.length z
      rw [List.length_map, List.length_take, List.length_nil] at this
      omega) ap (fun q hq => by
      obtain ⟨t, ht, rfl⟩ := List.mem_map.mp hq
      have htL := List.mem_of_mem_take ht
      have hq0 := mem_of_mem_offs (sub t htL)
      have tr := ownF_tr ss _ hq0.1
      have ge := offs_ge hq0.1
      refine ⟨?_, tr, fun x hx => List.mem_reverse.mpr ((hf.mem x).mpr ?_), ?_⟩
      · -- those ahead need as many
        obtain ⟨i, hi, e⟩ := List.getElem_of_mem ht
        rw [List.length_take] at hi
        rw [List.getElem_take] at e
        by_cases z : i = j
        · subst z
          obtain ⟨_, e2⟩ := List.getElem?_eq_some_iff.mp hp
          rw [e2] at e; rw [e]; exact Nat.le_refl _
        · obtain ⟨h5, e2⟩ := List.getElem?_eq_some_iff.mp hp
          have := List.pairwise_iff_getElem.mp hw i j (by omega) h5 (by omega)
          rw [e, e2] at this
          exact lex_need this
      · unfold nOf
        omega
      · have cl : ∀ x ∈ o.reverse, inT t.1.2 t.1.1.cnt x = true → ∀ y ∈ ownF ss x, inT t.1.2 t.1.1.cnt y = true := fun x _ hT y hy => by
          have := inT_iff.mp hT
          have := own_sub t.1.1 t.1.2 tr x this.1 this.2 y hy
          exact inT_iff.mpr (by omega)
        refine ⟨cl, fun x hx hT y hy => ?_⟩
        have bx := (hf.mem x).mp (List.mem_reverse.mp hx)
        obtain ⟨r, hr, q1, q2⟩ := offs_in (es := restsL ss) (b := 0) bx.1 (by have := bx.2; unfold nOf at this; omega)
        have ne : t.1 ≠ r := fun z => by
          rw [← z] at q1 q2
          exact inT_no.mp hT ⟨q1, q2⟩
        have := own_sub r.1 r.2 (ownF_tr ss r hr) x q1 q2 y hy
        refine inT_no.mpr ?_
        rcases apart_of offs_apart hq0.1 hr ne with z | z <;> omega)
    refine ⟨S, s, ?_⟩
    rw [List.length_map, List.length_take] at l
    rw [h]
    omega
def spNeedS (K : PySem.W.Frag) : Sp := fun vs H Q _ => ∃ v ss, vs = [v] ∧ Dp K H v (setsD ss) ∧ ss.length ≤ 4 ∧ (∀ x ∈ ss, OkS 4 x) ∧
  ∀ (L : List ((Exp × Int) × Nat)) H', L.Perm (pos (restsL ss) 0).zipIdx → L.Pairwise (fun a b => lexI (entI b) (entI a) = false) → Same H H' → Q (.int (topN L L.length)) H'
theorem len_needs_of_sets {K : PySem.W.Frag} {vs H Q E} (h : spNeedS K vs H Q E) : vs.length = 1 := by obtain ⟨_, _, rfl, _⟩ := h; rfl
section
variable {P : Program} {w : World} {K : PySem.W.Frag} {mg : Str → Option Value}
theorem ok_needs_of_sets [c : Facts K mg] (G_falling : Fn P w K mg "falling" 8 ["sets"] ((spFall K))) : Fn P w K mg "needs_of_sets" 9 ["sets"] ((spNeedS K)) := by
  obtain ⟨fd, F⟩ := c.d_needs_of_sets
  refine Fn.mk' F c.g_needs_of_sets sc_needs_of_sets (k := 8) (fun vs H Q E h => ?_) (fun _ _ _ _ _ _ us hl => match us, hl with | [_], _ => rfl) (fun base cdv A outer s H vs Q E hr h => ?_)
  · exact len_needs_of_sets h
  · have nd := sc_needs_of_sets.nd
    have hu := hu_of hr
    have hr_falling : Room 8 _ := hr.mono (by omega)
    refine ⟨_, (pss_cons (ps_set (i := 1) nd rfl (Or.inl rfl) pe_int)
      (pss_cons (ps_for PassesOwn.never rfl (pi_enum (by rfl) c.f_enumerate (pa_cons (pe_fn G_falling hr_falling (by rfl) (pa_cons (pv 0) pa_nil)) pa_nil)) (pg_seq 2 (K := K) rfl rfl (pgs_cons (pg_name (i := 2) nd rfl (Or.inl rfl)) (pgs_cons (pg_seq 3 (K := K) rfl rfl (pgs_cons (pg_name (i := 3) nd rfl (Or.inl rfl)) (pgs_cons (pg_name (i := 4) nd rfl (Or.inl rfl)) (pgs_cons (pg_name (i := 5) nd rfl (Or.inl rfl)) pgs_nil)))) pgs_nil))) (pss_one (ps_set (i := 1) nd rfl (Or.inl rfl) (pe_callB (call_max2A rfl) (by rfl) c.f_max boot_max (pa_cons (pv 1) (pa_cons (pe_op op_sub (pv 2) (pv 3)) pa_nil))))))
      (pss_one (ps_ret (pv 1))))), ?_⟩
    try dsimp only [cxOf, Cx.nox, Cx.wish]
    obtain ⟨v, ss, rfl, hv, hl, ho, q⟩ := h
    repeat walk_at "w"
    refine ⟨v, ss, rfl, hv, hl, ho, fun f H1 Z hf hZ hw ht s1 nf => ?_⟩
    repeat walk_at "w"
    have hat : ∀ {i : Nat} {x : V}, (Z.map Prod.fst)[i]? = some x → ∃ z, (Z.map Prod.snd)[i]? = some z ∧ TupH H1 x (entI z) := fun {i x} hx => by
      rw [List.getElem?_map] at hx
      obtain ⟨z, hz, rfl⟩ := Option.map_eq_some_iff.mp hx
      exact ⟨z.2, by rw [List.getElem?_map, hz]; rfl, ht z (List.mem_of_getElem? hz)⟩
    refine fl_enum (xs := Z.map Prod.fst) (fun i σ H' => ∃ o2 o3 o4 o5, σ = [some v, some (.int (topN (Z.map Prod.snd) i)), o2, o3, o4, o5] ∧ Same H1 H') (SqL.of hf) ⟨_, _, _, _, rfl, Same.refl _⟩ (fun i σ H' hi hp => ?_) (fun i x T σ H' H2 hx hp nT s2 hT => ?_) (fun σ H' hp => ?_)
    · obtain ⟨_, _, _, _, _, e⟩ := hp
      exact SqL.of (e _ _ hf)
    · obtain ⟨o2, o3, o4, o5, rfl, e⟩ := hp
      obtain ⟨z, hz, t, rfl, ht2⟩ := hat hx
      have ht3 := (e.trans s2) _ _ ht2
      repeat walk_at "w"
      rw [show List.map V.int (entI z) = [.int (0 - (z.1.1.need : Nat)), .int ((z.2 : Nat) : Int), .int (z.1.2 + z.1.1.cnt - 1)] from rfl]
      repeat walk_at "w"
      have en : needAt (Z.map Prod.snd) i = ((z.1.1.need : Nat) : Int) := by unfold needAt; rw [hz]
      have et : topN (Z.map Prod.snd) (i + 1) = max (topN (Z.map Prod.snd) i) (((i : Nat) : Int) - (0 - ((z.1.1.need : Nat) : Int))) := by
        rw [topN, en, show ((i : Nat) : Int) - (0 - ((z.1.1.need : Nat) : Int)) = (i : Int) + ((z.1.1.need : Nat) : Int) by omega]
      rw [et]
      exact ⟨_, _, _, _, rfl, e.trans s2⟩
    · obtain ⟨o2, o3, o4, o5, rfl, e⟩ := hp
      repeat walk_at "w"
      rw [List.length_map] at *
      have := q (Z.map Prod.snd) H' hZ (by rw [List.pairwise_map]; exact hw) (s1.trans e)
      rw [List.length_map] at this
      exact this
end

end J
namespace J
open PySem PySem.Spec PyProof.Rows L2
--plain
/-! ### the best order of all -/
def ordL (L : List ((Exp × Int) × Nat)) : List Int := L.flatMap fun p => p.1.1.ord p.1.2
theorem topN_app (L M : List ((Exp × Int) × Nat)) : ∀ k, k ≤ L.length → topN (L ++ M) k = topN L k
  | 0, _ => rfl
  | k + 1, h => by
    have e : needAt (L ++ M) k = needAt L k := by unfold needAt; rw [List.getElem?_append_left h]
    rw [topN, topN, topN_app L M k (by omega), e]
theorem topN_ge0 (L : List ((Exp × Int) × Nat)) : ∀ k, 0 ≤ topN L k
  | 0 => Int.le_refl _
  | k + 1 => by rw [topN]; have := topN_ge0 L k; omega
theorem ordL_snoc (L : List ((Exp × Int) × Nat)) (p : (Exp × Int) × Nat) : ordL (L ++ [p]) = ordL L ++ p.1.1.ord p.1.2 := by
  unfold ordL; rw [List.flatMap_append]; simp
theorem snoc_cases {α : Type} (l : List α) : l = [] ∨ ∃ m x, l = m ++ [x] := by
  cases h : l.reverse with
  | nil => exact .inl (List.reverse_eq_nil_iff.mp h)
  | cons x r => exact .inr ⟨r.reverse, x, by have := congrArg List.reverse h; rw [List.reverse_reverse, List.reverse_cons] at this; exact this⟩
theorem ordL_up {own : Int → List Int} : ∀ (n : Nat) (L : List ((Exp × Int) × Nat)), L.length = n → (∀ p ∈ L, 0 < p.1.1.cnt ∧ Tr own p.1.1 p.1.2) → (∀ k, sumO own ((ordL L).take k) ≤ topN L L.length) ∧ sumO own (ordL L) = L.length
  | 0, L, h, _ => by
    cases List.length_eq_zero_iff.mp h
    exact ⟨fun k => by simp [ordL, sumO, topN], by simp [ordL, sumO]⟩
  | n + 1, L, h, hp => by
    rcases snoc_cases L with rfl | ⟨M, p, rfl⟩
    · cases h
    · have hM : M.length = n := by rw [List.length_append, List.length_singleton] at h; omega
      obtain ⟨u1, u2⟩ := ordL_up n M hM (fun q hq => hp q (List.mem_append_left _ hq))
      obtain ⟨hc, ht⟩ := hp p (List.mem_append_right _ List.mem_cons_self)
      obtain ⟨v1, v2⟩ := ord_up p.1.1 p.1.2 ht
      have e1 : topN (M ++ [p]) (M ++ [p]).length = max (topN M M.length) ((M.length : Int) + (p.1.1.need : Nat)) := by
        rw [List.length_append, List.length_singleton, topN, topN_app _ _ _ (Nat.le_refl _)]
        congr 2
        unfold needAt
        rw [List.getElem?_append_right (Nat.le_refl _), Nat.sub_self]; rfl
      refine ⟨fun k => ?_, ?_⟩
      · rw [e1, ordL_snoc, List.take_append, sumO_app]
        by_cases z : k ≤ (ordL M).length
        · rw [show k - (ordL M).length = 0 by omega, List.take_zero]
          have := u1 k
          show _ + 0 ≤ _
          omega
        · rw [List.take_of_length_le (by omega), u2]
          have := v1 (k - (ordL M).length)
          omega
      · rw [ordL_snoc, sumO_app, u2, v2, if_neg (by omega), List.length_append, List.length_singleton]; omega
theorem ordL_mem (L : List ((Exp × Int) × Nat)) (x : Int) : x ∈ ordL L ↔ ∃ p ∈ L, p.1.2 ≤ x ∧ x < p.1.2 + p.1.1.cnt := by
  unfold ordL
  rw [List.mem_flatMap]
  constructor
  · rintro ⟨p, hp, h⟩; exact ⟨p, hp, (ord_mem _ _ _).mp h⟩
  · rintro ⟨p, hp, h⟩; exact ⟨p, hp, (ord_mem _ _ _).mpr h⟩
theorem ordL_val {own : Int → List Int} : ∀ (L : List ((Exp × Int) × Nat)), (∀ p ∈ L, Tr own p.1.1 p.1.2) → (L.map Prod.fst).Pairwise Apart → Val own (ordL L).reverse
  | [], _, _ => trivial
  | p :: L, ht, ha => by
    have e : ordL (p :: L) = p.1.1.ord p.1.2 ++ ordL L := by unfold ordL; rw [List.flatMap_cons]
    rw [List.map_cons] at ha
    obtain ⟨a1, a2⟩ := List.pairwise_cons.mp ha
    rw [e, List.reverse_append]
    refine val_cat (ord_val _ _ (ht p List.mem_cons_self)) (ordL_val L (fun q hq => ht q (List.mem_cons_of_mem _ hq)) a2) fun x hx hx' => ?_
    obtain ⟨q, hq, h1, h2⟩ := (ordL_mem L x).mp (List.mem_reverse.mp hx)
    have := (ord_mem _ _ _).mp (List.mem_reverse.mp hx')
    rcases a1 q.1 (List.mem_map.mpr ⟨q, hq, rfl⟩) with z | z <;> omega
theorem len_of_mem {l : List Int} {n : Nat} (nd : l.Nodup) (m : ∀ x, x ∈ l ↔ 0 ≤ x ∧ x < (n : Int)) : l.length = n := by
  have nr : ((List.range n).map (fun i : Nat => (i : Int))).Nodup := List.pairwise_map.mpr (List.nodup_range.imp fun h z => h (by omega))
  have mr : ∀ x, x ∈ (List.range n).map (fun i : Nat => (i : Int)) ↔ 0 ≤ x ∧ x < (n : Int) := fun x => by
    rw [List.mem_map]
    simp only [List.mem_range]
    constructor
    · rintro ⟨a, ha, rfl⟩; omega
    · rintro ⟨a, b⟩; exact ⟨x.toNat, by omega, by omega⟩
  have h := filter_cnt l ((List.range n).map (fun i : Nat => (i : Int))) nd nr (fun y hy => (mr y).mpr ((m y).mp hy))
  have e : ((List.range n).map (fun i : Nat => (i : Int))).filter (fun y => !decide (y ∈ l)) = [] := List.filter_eq_nil_iff.mpr fun x hx => by
    have := (m x).mpr ((mr x).mp hx)
    simp [this]
  rw [e, List.length_map, List.length_range] at h
  simpa using h
/-- the sorted entries -/
structure Srt (ss : List SetE) (L : List ((Exp × Int) × Nat)) : Prop where
  perm : L.Perm (pos (restsL ss) 0).zipIdx
  pw : L.Pairwise fun a b => lexI (entI b) (entI a) = false
theorem Srt.at {ss : List SetE} {L : List ((Exp × Int) × Nat)} (h : Srt ss L) {p : (Exp × Int) × Nat} (hp : p ∈ L) : p.1 ∈ offs (restsL ss) 0 ∧ 0 < p.1.1.cnt := by
  have := mem_of_mem_offs (List.fst_mem_of_mem_zipIdx (x := p) (h.perm.mem_iff.mp hp))
  exact ⟨this.1, (need_cnt _).mp this.2⟩
theorem Srt.apart {ss : List SetE} {L : List ((Exp × Int) × Nat)} (h : Srt ss L) : (L.map Prod.fst).Pairwise Apart := by
  have h1 : (pos (restsL ss) 0).Pairwise Apart := offs_apart.sublist List.filter_sublist
  have h2 : (L.map Prod.fst).Perm (pos (restsL ss) 0) := by
    have := h.perm.map Prod.fst
    rw [List.zipIdx_map_fst] at this
    exact this
  exact (h2.pairwise_iff (fun {x y} h => Apart.symm h)).mpr h1
theorem Srt.full {ss : List SetE} {L : List ((Exp × Int) × Nat)} (h : Srt ss L) : Full (ownF ss) (nOf ss) (ordL L) := by
  have v := ordL_val L (fun p hp => ownF_tr ss _ (h.at hp).1) h.apart
  have m : ∀ x, x ∈ ordL L ↔ 0 ≤ x ∧ x < nOf ss := fun x => by
    rw [ordL_mem]
    constructor
    · rintro ⟨p, hp, h1, h2⟩
      have := offs_ge (h.at hp).1
      unfold nOf; omega
    · rintro ⟨h1, h2⟩
      obtain ⟨p, hp, q1, q2⟩ := offs_in (es := restsL ss) (b := 0) h1 (by unfold nOf at h2; omega)
      have hpp : p ∈ pos (restsL ss) 0 := List.mem_filter.mpr ⟨hp, by have := (need_cnt p.1).mpr (by omega); simpa using this⟩
      obtain ⟨i, hi⟩ := List.getElem?_of_mem hpp
      have hz : (p, i) ∈ (pos (restsL ss) 0).zipIdx := List.mem_zipIdx_iff_getElem?.mpr hi
      exact ⟨(p, i), h.perm.mem_iff.mpr hz, q1, q2⟩
  exact ⟨v, m, by
    have := len_of_mem (rev_nodup (val_nodup v)) m
    unfold nOf; omega⟩
theorem Srt.up {ss : List SetE} {L : List ((Exp × Int) × Nat)} (h : Srt ss L) (k : Nat) : sumO (ownF ss) ((ordL L).take k) ≤ topN L L.length :=
  (ordL_up L.length L rfl fun p hp => ⟨(h.at hp).2, ownF_tr ss _ (h.at hp).1⟩).1 k
theorem sumO_snoc (own : Int → List Int) (l : List Int) (x : Int) : sumO own (l ++ [x]) = sumO own l + 1 - (own x).length := by
  rw [sumO_app]; show _ + (1 - _ + 0) = _; omega
/-! needs, part by part -/
def Exp.nds : Exp → List Nat
  | .num _ => []
  | .fld _ => []
  | .plc _ _ => [1]
  | .mrk _ _ => [1]
  | .cell a => a.nds ++ [(Exp.cell a).need]
  | .two o a c => a.nds ++ c.nds ++ [(Exp.two o a c).need]
theorem nds_len : ∀ e : Exp, e.nds.length = e.cnt
  | .num _ | .fld _ | .plc _ _ | .mrk _ _ => rfl
  | .cell a => by simp [Exp.nds, Exp.cnt, nds_len a]
  | .two _ a c => by simp [Exp.nds, Exp.cnt, nds_len a, nds_len c]; omega
def ndsL (es : List Exp) : List Nat := es.flatMap Exp.nds
theorem ndsL_len : ∀ es : List Exp, (ndsL es).length = cnts es
  | [] => rfl
  | e :: es => by rw [ndsL, List.flatMap_cons, List.length_append, nds_len, cnts, ← ndsL_len es]; rfl
def nedF (ss : List SetE) (x : Int) : Nat := (ndsL (restsL ss)).getD x.toNat 0
/-- nd tells the needs from b on -/
def Nd (nd : Int → Nat) (e : Exp) (b : Int) : Prop := ∀ (i : Nat) (m : Nat), e.nds[i]? = some m → nd (b + i) = m
theorem nd_cell {nd : Int → Nat} {a : Exp} {b : Int} (h : Nd nd (.cell a) b) : Nd nd a b ∧ nd (b + a.cnt) = (Exp.cell a).need := by
  refine ⟨fun i m hi => h i m ?_, h a.cnt _ ?_⟩
  · rw [Exp.nds, List.getElem?_append_left (List.getElem?_eq_some_iff.mp hi).1]; exact hi
  · rw [Exp.nds, List.getElem?_append_right (by rw [nds_len]; exact Nat.le_refl _), nds_len, Nat.sub_self]; rfl
theorem nd_two {nd : Int → Nat} {o : Str} {a c : Exp} {b : Int} (h : Nd nd (.two o a c) b) : Nd nd a b ∧ Nd nd c (b + a.cnt) ∧ nd (b + a.cnt + c.cnt) = (Exp.two o a c).need := by
  refine ⟨fun i m hi => h i m ?_, fun i m hi => ?_, ?_⟩
  · have := (List.getElem?_eq_some_iff.mp hi).1
    rw [Exp.nds, List.append_assoc, List.getElem?_append_left this]; exact hi
  · have hl := (List.getElem?_eq_some_iff.mp hi).1
    have := h (a.cnt + i) m (by
      rw [Exp.nds, List.append_assoc, List.getElem?_append_right (by rw [nds_len]; omega), nds_len, Nat.add_sub_cancel_left, List.getElem?_append_left hl]; exact hi)
    rw [← this]; congr 1; omega
  · have := h (a.cnt + c.cnt) (Exp.two o a c).need (by
      rw [Exp.nds, List.getElem?_append_right (by rw [List.length_append, nds_len, nds_len]; exact Nat.le_refl _), List.length_append, nds_len, nds_len, Nat.sub_self]; rfl)
    rw [← this]; congr 1; omega
theorem nd_root {nd : Int → Nat} {e : Exp} {b : Int} (h : Nd nd e b) (hc : 0 < e.cnt) : nd (b + e.cnt - 1) = e.need := by
  cases e with
  | num => simp [Exp.cnt] at hc
  | fld => simp [Exp.cnt] at hc
  | plc k n =>
    have := h 0 1 rfl
    show nd (b + ((1 : Nat) : Int) - 1) = 1
    rw [show b + ((1 : Nat) : Int) - 1 = b + ((0 : Nat) : Int) by omega]
    exact this
  | mrk k n =>
    have := h 0 1 rfl
    show nd (b + ((1 : Nat) : Int) - 1) = 1
    rw [show b + ((1 : Nat) : Int) - 1 = b + ((0 : Nat) : Int) by omega]
    exact this
  | cell a =>
    have := (nd_cell h).2
    rw [← this]; congr 1; simp [Exp.cnt]; omega
  | two o a c =>
    have := (nd_two h).2.2
    rw [← this]; congr 1; simp [Exp.cnt]; omega
theorem ndsL_nd {es : List Exp} {b : Int} {nd : Int → Nat} (h : ∀ (i m : Nat), (ndsL es)[i]? = some m → nd (b + i) = m) : ∀ p ∈ offs es b, Nd nd p.1 p.2 := by
  induction es generalizing b with
  | nil => intro p hp; exact (List.not_mem_nil hp).elim
  | cons e es ih =>
    have e0 : ndsL (e :: es) = e.nds ++ ndsL es := List.flatMap_cons
    intro p hp
    rcases List.mem_cons.mp hp with rfl | hp
    · intro i m hi
      exact h i m (by rw [e0, List.getElem?_append_left (List.getElem?_eq_some_iff.mp hi).1]; exact hi)
    · refine ih (fun i m hi => ?_) p hp
      have := h (e.cnt + i) m (by rw [e0, List.getElem?_append_right (by rw [nds_len]; omega), nds_len, Nat.add_sub_cancel_left]; exact hi)
      rw [← this]; congr 1; omega
theorem nedF_nd (ss : List SetE) : ∀ p ∈ offs (restsL ss) 0, Nd (nedF ss) p.1 p.2 := by
  refine ndsL_nd fun i m hi => ?_
  unfold nedF
  rw [Int.zero_add, Int.toNat_natCast, List.getD_eq_getElem?_getD, hi]; rfl
/-- what a row needs, by those ahead -/
def valD (nd : Int → Nat) (d : PyData) : Nat := match intD d with
  | some j => nd j
  | none => 0
def rowN (nd : Int → Nat) : PyData → Nat
  | .tuple (_ :: items) => match items.map (valD nd) with
    | [x, y] => if x = y ∧ 0 < x then x + 1 else max 1 (max x y)
    | [x] => max 1 x
    | _ => 1
  | _ => 1
theorem valD_part {nd : Int → Nat} {e : Exp} {ps : List PyData} (h : Nd nd e ps.length) : valD nd (e.part ps).1 = e.need := by
  by_cases c : 0 < e.cnt
  · rw [part_rt c]; exact nd_root h c
  · have := need_cnt e
    cases e with
    | num => rfl
    | fld => rfl
    | plc => simp [Exp.cnt] at c
    | mrk => simp [Exp.cnt] at c
    | cell => simp [Exp.cnt] at c
    | two => simp [Exp.cnt] at c
theorem part_keep : ∀ (e : Exp) (qs : List PyData) (j : Nat), j < qs.length → (e.part qs).2[j]? = qs[j]? := fun e => by
  induction e with
  | num => intro qs j _; rfl
  | fld => intro qs j _; rfl
  | plc k n => intro qs j hj; simp only [Exp.part]; rw [List.getElem?_append_left hj]
  | mrk k n => intro qs j hj; simp only [Exp.part]; rw [List.getElem?_append_left hj]
  | cell a ih => intro qs j hj; simp only [Exp.part]; rw [List.getElem?_append_left (by rw [a.part_len]; omega), ih _ _ hj]
  | two o a c iha ihc => intro qs j hj; simp only [Exp.part]; rw [List.getElem?_append_left (by rw [c.part_len, a.part_len]; omega), ihc _ _ (by rw [a.part_len]; omega), iha _ _ hj]
theorem parts_keep : ∀ (es : List Exp) (qs : List PyData) (j : Nat), j < qs.length → (parts es qs).2[j]? = qs[j]?
  | [], _, _, _ => rfl
  | e :: es, qs, j, h => by rw [parts, parts_keep es _ _ (by rw [e.part_len]; omega), part_keep e _ _ h]
theorem rowN_part {nd : Int → Nat} : ∀ (e : Exp) (ps : List PyData), Nd nd e ps.length → ∀ (i m : Nat) (d : PyData), e.nds[i]? = some m → (e.part ps).2[ps.length + i]? = some d → rowN nd d = m
  | .num _, _, _, i, m, d, h, _ => by simp [Exp.nds] at h
  | .fld _, _, _, i, m, d, h, _ => by simp [Exp.nds] at h
  | .plc k n, ps, _, i, m, d, h, g => by
    cases i with
    | zero =>
      simp only [Exp.part, Nat.add_zero] at g
      rw [List.getElem?_append_right (Nat.le_refl _), Nat.sub_self] at g
      cases Option.some.inj g
      cases Option.some.inj h
      rfl
    | succ i => simp [Exp.nds] at h
  | .mrk k n, ps, _, i, m, d, h, g => by
    cases i with
    | zero =>
      simp only [Exp.part, Nat.add_zero] at g
      rw [List.getElem?_append_right (Nat.le_refl _), Nat.sub_self] at g
      cases Option.some.inj g
      cases Option.some.inj h
      rfl
    | succ i => simp [Exp.nds] at h
  | .cell a, ps, hn, i, m, d, h, g => by
    obtain ⟨na, nr⟩ := nd_cell hn
    have l := a.part_len ps
    rw [Exp.nds] at h
    rw [Exp.part] at g
    by_cases z : i < a.cnt
    · rw [List.getElem?_append_left (by rw [nds_len]; exact z)] at h
      rw [List.getElem?_append_left (by rw [l]; omega)] at g
      exact rowN_part a ps na i m d h g
    · have hi := (List.getElem?_eq_some_iff.mp h).1
      rw [List.length_append, nds_len, List.length_singleton] at hi
      have e : i = a.cnt := by omega
      subst e
      rw [List.getElem?_append_right (by rw [nds_len]; exact Nat.le_refl _), nds_len, Nat.sub_self] at h
      rw [List.getElem?_append_right (by rw [l]; exact Nat.le_refl _), l, Nat.sub_self] at g
      cases Option.some.inj g
      cases Option.some.inj h
      show max 1 (valD nd (a.part ps).1) = _
      rw [valD_part na]; rfl
  | .two o a c, ps, hn, i, m, d, h, g => by
    obtain ⟨na, nc, nr⟩ := nd_two hn
    have l := a.part_len ps
    have l2 := c.part_len (a.part ps).2
    have nc' : Nd nd c (a.part ps).2.length := by rw [l]; have e : ((ps.length + a.cnt : Nat) : Int) = (ps.length : Int) + a.cnt := by omega
                                                  rw [e]; exact nc
    rw [Exp.nds] at h
    rw [Exp.part] at g
    by_cases z : i < a.cnt
    · rw [List.append_assoc, List.getElem?_append_left (by rw [nds_len]; exact z)] at h
      rw [List.getElem?_append_left (by rw [l2, l]; omega)] at g
      rw [part_keep c _ _ (by rw [l]; omega)] at g
      exact rowN_part a ps na i m d h g
    · by_cases z2 : i < a.cnt + c.cnt
      · rw [List.getElem?_append_left (by rw [List.length_append, nds_len, nds_len]; exact z2), List.getElem?_append_right (by rw [nds_len]; omega), nds_len] at h
        rw [List.getElem?_append_left (by rw [l2, l]; omega)] at g
        refine rowN_part c (a.part ps).2 nc' (i - a.cnt) m d h ?_
        rw [l, show ps.length + a.cnt + (i - a.cnt) = ps.length + i by omega]; exact g
      · have hi := (List.getElem?_eq_some_iff.mp h).1
        rw [List.length_append, List.length_append, nds_len, nds_len, List.length_singleton] at hi
        have e : i = a.cnt + c.cnt := by omega
        subst e
        rw [List.getElem?_append_right (by rw [List.length_append, nds_len, nds_len]; exact Nat.le_refl _), List.length_append, nds_len, nds_len, Nat.sub_self] at h
        rw [List.getElem?_append_right (by rw [l2, l]; omega), l2, l, show ps.length + (a.cnt + c.cnt) - (ps.length + a.cnt + c.cnt) = 0 by omega] at g
        cases Option.some.inj g
        cases Option.some.inj h
        show (if valD nd (a.part ps).1 = valD nd (c.part (a.part ps).2).1 ∧ 0 < valD nd (a.part ps).1 then valD nd (a.part ps).1 + 1 else max 1 (max (valD nd (a.part ps).1) (valD nd (c.part (a.part ps).2).1))) = _
        rw [valD_part na, valD_part nc']; rfl
theorem rowN_parts {nd : Int → Nat} : ∀ (es : List Exp) (ps : List PyData), (∀ p ∈ offs es ps.length, Nd nd p.1 p.2) → ∀ (i m : Nat) (d : PyData), (ndsL es)[i]? = some m → (parts es ps).2[ps.length + i]? = some d → rowN nd d = m
  | [], _, _, i, m, d, h, _ => by simp [ndsL] at h
  | e :: es, ps, hn, i, m, d, h, g => by
    have e0 : ndsL (e :: es) = e.nds ++ ndsL es := List.flatMap_cons
    have l := e.part_len ps
    rw [e0] at h
    rw [parts] at g
    by_cases z : i < e.cnt
    · rw [List.getElem?_append_left (by rw [nds_len]; exact z)] at h
      rw [parts_keep es _ _ (by rw [l]; omega)] at g
      exact rowN_part e ps (hn (e, ps.length) List.mem_cons_self) i m d h g
    · rw [List.getElem?_append_right (by rw [nds_len]; omega), nds_len] at h
      refine rowN_parts es (e.part ps).2 (fun p hp => hn p (List.mem_cons_of_mem _ ?_)) (i - e.cnt) m d h ?_
      · rw [l] at hp
        have e : ((ps.length + e.cnt : Nat) : Int) = (ps.length : Int) + e.cnt := by omega
        rw [← e]; exact hp
      · rw [l, show ps.length + e.cnt + (i - e.cnt) = ps.length + i by omega]; exact g
theorem parts_app2 : ∀ (es fs : List Exp) (ps : List PyData), (parts (es ++ fs) ps).2 = (parts fs (parts es ps).2).2
  | [], _, _ => rfl
  | e :: es, fs, ps => by rw [List.cons_append, parts, parts_app2 es fs]; rfl
theorem proots_parts : ∀ (ss : List SetE) (ps : List PyData), (proots ss ps).2 = (parts (restsL ss) ps).2
  | [], _ => rfl
  | s :: ss, ps => by
    have e : restsL (s :: ss) = s.rests ++ restsL ss := List.flatMap_cons
    rw [proots, e, parts_app2, ← proots_parts ss]
theorem rowN_all {ss : List SetE} {i : Nat} {d : PyData} (h : (proots ss []).2[i]? = some d) : rowN (nedF ss) d = nedF ss i := by
  have hl := (List.getElem?_eq_some_iff.mp h).1
  rw [proots_cnt, ← ndsL_len] at hl
  have hm : (ndsL (restsL ss))[i]? = some (nedF ss i) := by
    unfold nedF
    rw [Int.toNat_natCast, List.getD_eq_getElem?_getD, List.getElem?_eq_getElem hl]; rfl
  rw [proots_parts] at h
  exact rowN_parts (restsL ss) [] (nedF_nd ss) i _ d hm (by rw [List.length_nil, Nat.zero_add]; exact h)

end J
namespace J
open PySem PySem.Spec PyProof.Rows L2
local macro_rules | `(tactic| walk_at "cls") => `(tactic| first
  | with_reducible exact Facts.cl_Parts
  | with_reducible exact Facts.cl_Order)
local macro_rules | `(tactic| walk_at "na") => `(tactic| first
  | with_reducible exact Facts.na_Parts_rows
  | with_reducible exact Facts.na_Order_parts
  | with_reducible exact Facts.na_Order_order
  | with_reducible exact Facts.na_Order_needed)
local macro_rules | `(tactic| walk_at "ty") => `(tactic| first
  | with_reducible exact ty_int
  | with_reducible exact ty_bl
  | with_reducible exact ty_str
  | with_reducible exact ty_non
  | ((with_reducible refine' ty_lst ?vv); (case vv => walk_at "tr"))
  | ((with_reducible refine' ty_sqT ?vv); (case vv => walk_at "tr"))
  | ((with_reducible refine' ty_dic ?vv); (case vv => walk_at "tr")))
local macro_rules | `(tactic| walk_at "ix") => `(tactic| first | exact at0 | exact at1 | exact at2 | assumption)
local macro_rules | `(tactic| walk_at "size") => `(tactic| first
  | assumption
  | (show _ < sizeLine; rw [sizeLine_eq]; (try simp only [List.length_cons, List.length_nil, List.length_append, List.length_map]); omega)
  | (show _ ≤ sizeLine; rw [sizeLine_eq]; (try simp only [List.length_cons, List.length_nil, List.length_append, List.length_map]); omega))
local macro_rules | `(tactic| walk_at "side") => `(tactic| first
  | assumption
  | ((with_reducible refine cdw ?_ ?_) <;> omega)
  | omega
  | (exact ⟨by omega, by omega⟩)
  | (exact Or.inl ⟨by omega, by omega⟩)
  | (exact Or.inr ⟨by omega, by omega⟩)
  | decide
  | (simp only [List.length_cons, List.length_nil, List.length_append, List.length_map]; omega)
  | (show _ ≤ _; decide))
local macro_rules | `(tactic| walk_at "as") => `(tactic| with_reducible assumption)
local macro_rules | `(tactic| walk_at "tr") => `(tactic| first
  | with_reducible assumption
  | with_reducible exact upd_same
  | ((with_reducible refine' SqL.of ?hh); (case hh => walk_at "as"))
  | ((with_reducible refine' SqT.of ?hh); (case hh => walk_at "as"))
  | ((with_reducible refine' Same.stm ?ee ?gg); (case ee => walk_at "as"); (case gg => walk_at "tr"))
  | ((with_reducible refine' Same.sqT ?ee ?gg); (case ee => walk_at "as"); (case gg => walk_at "tr"))
  | ((with_reducible refine' Same.sqL ?ee ?gg); (case ee => walk_at "as"); (case gg => walk_at "tr"))
  | ((with_reducible refine' Same.at ?ee ?gg); (case ee => walk_at "as"); (case gg => walk_at "tr"))
  | ((with_reducible refine' But.stm ?ee ?ff ?gg); (case ee => walk_at "as"); (case ff => walk_at "ne"); (case gg => walk_at "tr"))
  | ((with_reducible refine' But.tup ?ee ?ff ?gg); (case ee => walk_at "as"); (case ff => walk_at "tr1"); (case gg => walk_at "tr"))
  | ((with_reducible refine' But.sqT ?ee ?ff ?gg); (case ee => walk_at "as"); (case ff => walk_at "tr1"); (case gg => walk_at "tr"))
  | ((with_reducible refine' But.tupL ?ee ?ff ?gg); (case ee => walk_at "as"); (case ff => walk_at "tr1"); (case gg => walk_at "tr"))
  | ((with_reducible refine' But.sqTL ?ee ?ff ?gg); (case ee => walk_at "as"); (case ff => walk_at "tr1"); (case gg => walk_at "tr"))
  | ((with_reducible refine' But.sqL ?ee ?ff ?gg); (case ee => walk_at "as"); (case ff => walk_at "ne"); (case gg => walk_at "tr"))
  | ((with_reducible refine' But.at ?ee ?ff ?gg); (case ee => walk_at "as"); (case ff => walk_at "ne"); (case gg => walk_at "tr")))
local macro_rules | `(tactic| walk_at "ts") => `(tactic| first
  | with_reducible assumption
  | with_reducible exact TS.refl _
  | ((with_reducible refine' TS.trans ?gg (TS.of ?ee)); (case ee => walk_at "as"); (case gg => walk_at "ts"))
  | ((with_reducible refine' TS.trans ?gg (TS.butS ?ee ?ff)); (case ee => walk_at "as"); (case ff => walk_at "tr1"); (case gg => walk_at "ts"))
  | ((with_reducible refine' TS.trans ?gg (TS.butL ?ee ?ff)); (case ee => walk_at "as"); (case ff => walk_at "tr1"); (case gg => walk_at "ts"))
  | ((with_reducible refine' TS.trans ?gg (TS.butI ?ee ?ff)); (case ee => walk_at "as"); (case ff => walk_at "tr1"); (case gg => walk_at "ts")))
local macro_rules | `(tactic| walk_at "sm") => `(tactic| first
  | with_reducible assumption
  | with_reducible exact Same.refl _
  | ((with_reducible refine' Same.trans ?gg ?ee); (case ee => walk_at "as"); (case gg => walk_at "sm"))
  | ((with_reducible refine' But.new ?gg ?nn ?ee); (case ee => walk_at "as"); (case nn => walk_at "fr"); (case gg => walk_at "sm")))
local macro_rules | `(tactic| walk_at "fr") => `(tactic| first
  | with_reducible assumption
  | ((with_reducible refine' Same.back ?ee ?nn); (case nn => walk_at "as"); (case ee => walk_at "sm"))
  | ((with_reducible refine' But.back ?ee ?ff ?nn); (case nn => walk_at "as"); (case ff => walk_at "ne0"); (case ee => walk_at "bu")))
local macro_rules | `(tactic| walk_at "bu") => `(tactic| first
  | with_reducible assumption
  | with_reducible exact But.refl _ _
  | ((with_reducible refine' But.trans ?gg ?ee); (case ee => walk_at "as"); (case gg => walk_at "bu"))
  | ((with_reducible refine' But.trans ?gg (But.of ?ee)); (case ee => walk_at "as"); (case gg => walk_at "bu"))
  | ((with_reducible refine' But.new2 ?gg ?nn ?ee); (case ee => walk_at "as"); (case nn => walk_at "frB"); (case gg => walk_at "bu")))
local macro_rules | `(tactic| walk_at "frB") => `(tactic| first
  | with_reducible assumption
  | ((with_reducible refine' Same.back ?ee ?nn); (case nn => walk_at "as"); (case ee => walk_at "sm"))
  | ((with_reducible refine' But.back' ?ee ?ff ?nn); (case nn => walk_at "as"); (case ee => walk_at "bu"); (case ff => walk_at "tr1")))
local macro_rules | `(tactic| walk_at "tr1") => `(tactic| first
  | with_reducible assumption
  | ((with_reducible refine' Same.stm ?ee ?gg); (case ee => walk_at "as"); (case gg => walk_at "tr1"))
  | ((with_reducible refine' Same.at ?ee ?gg); (case ee => walk_at "as"); (case gg => walk_at "tr1"))
  | ((with_reducible refine' But.at ?ee ?ff ?gg); (case ee => walk_at "as"); (case ff => walk_at "ne0"); (case gg => walk_at "tr1"))
  | ((with_reducible refine' But.stm ?ee ?ff ?gg); (case ee => walk_at "as"); (case ff => walk_at "ne0"); (case gg => walk_at "tr1")))
local macro_rules | `(tactic| walk_at "ne0") => `(tactic| first
  | with_reducible assumption
  | (with_reducible apply Ne.symm; with_reducible assumption))
local macro_rules | `(tactic| walk_at "ne") => `(tactic| first
  | with_reducible assumption
  | (with_reducible apply Ne.symm; with_reducible assumption)
  | ((with_reducible refine' stm_ne ?hh ?nn); (case nn => walk_at "as"); (case hh => walk_at "tr1"))
  | ((with_reducible refine' ne_of_none ?hh ?nn); (case nn => walk_at "as"); (case hh => walk_at "tr1"))
  | ((with_reducible apply Ne.symm); (with_reducible refine' ne_of_none ?hh ?nn); (case nn => walk_at "as"); (case hh => walk_at "tr1")))
local macro_rules | `(tactic| walk_at "v") => `(tactic| first
  | with_reducible refine w_seq ?_
  | ((with_reducible refine' w_var ?vv ?_); (case vv => exact rfl))
  | with_reducible refine w_c ?_
  | with_reducible refine w_op ?_
  | with_reducible refine w_asg ?_
  | with_reducible refine w_gName ?_
  | with_reducible refine w_ret ?_
  | with_reducible refine w_ifS ?_
  | with_reducible refine w_drop ?_
  | with_reducible refine w_next ?_
  | with_reducible refine w_cons ?_
  | with_reducible refine w_nil ?_
  | with_reducible refine w_call ?_
  | with_reducible refine w_cb ?_
  | with_reducible refine w_rI0 ?_
  | with_reducible refine w_addI ?_
  | with_reducible refine w_eqI ?_
  | with_reducible refine w_neI ?_
  | with_reducible refine w_eqS ?_
  | with_reducible refine w_neS ?_
  | with_reducible refine w_eqB ?_
  | with_reducible refine w_neB ?_
  | with_reducible refine w_chain ?_
  | with_reducible refine w_test ?_
  | with_reducible refine w_tB ?_
  | with_reducible refine w_bl ?_
  | ((with_reducible refine' w_mulI ?vv ?_); (case vv => walk_at "side"))
  | ((with_reducible refine' w_rI ?vv ?_); (case vv => walk_at "side"))
  | with_reducible refine w_int1 ?_
  | with_reducible refine w_int1b ?_
  | with_reducible refine w_tup ?_
  | with_reducible refine w_lst ?_
  | with_reducible refine w_un ?_
  | with_reducible refine w_rU ?_
  | with_reducible refine w_not ?_
  | with_reducible refine w_notV ?_
  | with_reducible refine w_ifE ?_
  | with_reducible refine w_nT ?_
  | with_reducible refine w_nF ?_
  | with_reducible refine iteT ?_
  | with_reducible refine iteF ?_
  | ((with_reducible refine' w_ixT ?vv ?ww ?_); (case vv => walk_at "tr"); (case ww => walk_at "ix"))
  | ((with_reducible refine' w_ixL ?vv ?ww ?_); (case vv => walk_at "tr"); (case ww => walk_at "ix"))
  | with_reducible refine w_gSub ?_
  | ((with_reducible refine' w_setL ?vv ?ww ?_); (case vv => walk_at "tr"); (case ww => first | rfl | decide | assumption))
  | ((with_reducible refine' w_lenL ?vv ?_); (case vv => walk_at "tr"))
  | ((with_reducible refine' w_lenT ?vv ?_); (case vv => walk_at "tr"))
  | with_reducible refine w_max2 ?_
  | with_reducible refine w_max3 ?_
  | with_reducible refine w_din ?_
  | with_reducible refine w_dnotin ?_
  | with_reducible refine w_dput ?_
  | with_reducible refine w_min2 ?_
  | with_reducible refine w_bm ?_
  | with_reducible refine w_bm0 ?_
  | ((with_reducible refine' w_tyL ?vv ?_); (case vv => walk_at "tr"))
  | ((with_reducible refine' w_append ?vv ?ww ?_); (case vv => walk_at "tr"); (case ww => walk_at "size"))
  | ((with_reducible refine' w_size ?vv ?_); (case vv => walk_at "size"))
  | with_reducible refine w_forL ?_
  | with_reducible refine w_forT ?_
  | with_reducible refine w_forR1 ?_
  | with_reducible refine w_forR2 ?_
  | with_reducible refine w_lcL ?_
  | with_reducible refine w_lcT ?_
  | with_reducible refine w_lcR1 ?_
  | with_reducible refine w_yes ?_
  | with_reducible refine w_sl ?_
  | with_reducible refine w_noPart ?_
  | with_reducible refine w_part ?_
  | with_reducible refine w_int ?_
  | ((with_reducible refine' w_slL ?vv ?_); (case vv => walk_at "tr"))
  | ((with_reducible refine' w_seqL ?vv ?ww ?_); (case vv => walk_at "tr"); (case ww => rfl))
  | ((with_reducible refine' w_seqT ?vv ?ww ?_); (case vv => walk_at "tr"); (case ww => rfl))
  | with_reducible refine w_gNil ?_
  | with_reducible refine w_gCons ?_
  | with_reducible refine w_forZ ?_
  | with_reducible refine w_forM ?_
  | with_reducible refine w_forE ?_
  | with_reducible refine w_forV ?_
  | with_reducible refine w_lcZ ?_
  | with_reducible refine w_lcE ?_
  | ((with_reducible refine' w_isi (b := true) ?vv ?ww ?_); (case vv => walk_at "ty"); (case ww => decide +kernel))
  | ((with_reducible refine' w_isi (b := false) ?vv ?ww ?_); (case vv => walk_at "ty"); (case ww => decide +kernel))
  | with_reducible refine w_revL ?_
  | with_reducible refine w_pairN ?_
  | with_reducible refine w_pairC ?_
  | with_reducible refine w_dget ?_
  | with_reducible refine w_met ?_
  | ((with_reducible refine' w_metAt ?vv ?ww ?_); (case vv => walk_at "tr"); (case ww => rfl))
  | with_reducible refine w_mkI ?_
  | with_reducible refine w_fld ?_
  | ((with_reducible refine' w_fldAt ?vv ?cc ?nn ?ww ?_); (case vv => walk_at "tr"); (case cc => walk_at "cls"); (case nn => walk_at "na"); (case ww => rfl))
  | with_reducible refine w_sfld ?_
  | ((with_reducible refine' w_sfldAt ?vv ?cc ?nn ?ll ?ee ?_); (case vv => walk_at "tr"); (case cc => walk_at "cls"); (case nn => walk_at "na"); (case ll => simp); (case ee => rfl))
  | ((with_reducible refine' w_tupL ?vv ?_); (case vv => walk_at "tr"))
  | ((with_reducible refine' w_tupT ?vv ?_); (case vv => walk_at "tr"))
  | ((with_reducible refine' w_listL ?vv ?_); (case vv => walk_at "tr"))
  | ((with_reducible refine' w_listT ?vv ?_); (case vv => walk_at "tr"))
  | with_reducible refine w_tyS ?_
  | with_reducible refine w_retN ?_
  | with_reducible refine w_break ?_
  | with_reducible refine w_cont ?_)
local macro_rules | `(tactic| walk_at "w") => `(tactic| first
  | walk_at "v"
  | with_reducible refine w_or ?_
  | with_reducible refine w_and ?_
  | with_reducible refine w_andV ?_
  | with_reducible refine w_orV ?_)
local macro_rules | `(tactic| walk_at "wd") => `(tactic| first
  | walk_at "w"
  | ((with_reducible refine' w_decT ?vv ?_); (case vv => decide +kernel))
  | ((with_reducible refine' w_decF ?vv ?_); (case vv => decide +kernel)))
local macro_rules | `(tactic| walk_at "tz") => `(tactic| (intro S z; (repeat walk_at "w"); exact z))
local macro_rules | `(tactic| walk_at "wf") => `(tactic| first
  | walk_at "wd"
  | ((with_reducible refine' w_decF ?vv ?_); (case vv => with_reducible assumption)))
/-! ### the class Order -/
def flds (l ol nl : Addr) : List (Str × V) := [("parts", .ref l), ("order", .ref ol), ("needed", .ref nl)]
def natV (xs : List Nat) : List V := xs.map fun m : Nat => V.int (m : Int)
theorem natV_at {xs : List Nat} {j : Int} {m : Nat} (h0 : 0 ≤ j) (h : xs[j.toNat]? = some m) : atI (natV xs) j = some (.int (m : Int)) := atI_of h0 (by unfold natV; rw [List.getElem?_map, h]; rfl)
theorem natV_len (xs : List Nat) : (natV xs).length = xs.length := by unfold natV; rw [List.length_map]
def spNeedAt (K : PySem.W.Frag) (C : Addr) : Sp := fun vs H Q _ => ∃ p dx l ol nl xs v, vs = [.ref p, v] ∧ H p = some (.ins C dx (flds l ol nl)) ∧ H nl = some (.lst (natV xs)) ∧
  ((∃ j m, v = .int j ∧ 0 ≤ j ∧ xs[j.toNat]? = some m ∧ Q (.int (m : Nat)) H) ∨ ((∃ z, v = .str z) ∨ ∃ a us, v = .ref a ∧ SqT K H a us) ∧ Q (.int 0) H)
theorem len_Order_need_at {K : PySem.W.Frag} {C : Addr} {vs H Q E} (h : spNeedAt K C vs H Q E) : vs.length = 2 := by obtain ⟨_, _, _, _, _, _, _, rfl, _⟩ := h; rfl
def spNeedOf (K : PySem.W.Frag) (C : Addr) : Sp := fun vs H Q _ => ∃ p dx l ol nl xs v d nd, vs = [.ref p, v] ∧ H p = some (.ins C dx (flds l ol nl)) ∧ H nl = some (.lst (natV xs)) ∧ Dp K H v d ∧ PRow d ∧ (∀ j ∈ ownD d, 0 ≤ j ∧ xs[j.toNat]? = some (nd j)) ∧ ∀ H', Same H H' → Q (.int (rowN nd d : Nat)) H'
theorem len_Order_need_of {K : PySem.W.Frag} {C : Addr} {vs H Q E} (h : spNeedOf K C vs H Q E) : vs.length = 2 := by obtain ⟨_, _, _, _, _, _, _, _, _, rfl, _⟩ := h; rfl
section
variable {P : Program} {w : World} {K : PySem.W.Frag} {mg : Str → Option Value}
theorem ok_Order_need_at [c : Facts K mg] {f : Addr} {fd : FuncData} (F : FunD K "need_at" "Order.need_at" (defArgs s_Order_need_at) (defBody s_Order_need_at) (defScope s_Order_need_at) [] [] f fd) : FnA P w K mg f 1 ["self", "one"] ((spNeedAt K (He.ga K "Order"))) := by
  refine FnA.mk' F sc_Order_need_at (k := 0) (fun vs H Q E h => ?_) (fun _ _ _ _ _ _ us hl => match us, hl with | [_, _], _ => rfl) (fun base cdv A outer s H vs Q E hr h => ?_)
  · exact len_Order_need_at h
  · have nd := sc_Order_need_at.nd
    have hu := hu_of hr
    refine ⟨_, (pss_cons (ps_if (pt_val (pe_callB (call_isiA (K := K) rfl) (by rfl) c.f_isinstance boot_isinstance (pa_cons (pv 1) (pa_cons (pe_bltn (v := .ty "int") (by rfl) c.f_int boot_int rfl) pa_nil)))) (pss_one (ps_ret (pe_ix (ix_any (K := K) rfl) (pe_fldK (K := K) rfl (pv 0)) (pv 1) (fun _ _ => rfl)))) pss_nil)
      (pss_one (ps_ret pe_int))), ?_⟩
    try dsimp only [cxOf, Cx.nox, Cx.wish]
    obtain ⟨p, dx, l, ol, nl, xs, v, rfl, hp, hn, hv⟩ := h
    rcases hv with ⟨j, m, rfl, h0, hm, q⟩ | ⟨⟨z, rfl⟩ | ⟨a, us, rfl, ha⟩, q⟩
    · have hat := natV_at h0 hm
      repeat walk_at "w"
      exact q
    · repeat walk_at "w"
      exact q
    · repeat walk_at "w"
      exact q
theorem ok_Order_need_of [c : Facts K mg] {f : Addr} {fd : FuncData} (F : FunD K "need_of" "Order.need_of" (defArgs s_Order_need_of) (defBody s_Order_need_of) (defScope s_Order_need_of) [] [] f fd) (GM_Order_need_at : FnA P w K mg (He.ma K (He.ga K "Order") "need_at") 1 ["self", "one"] ((spNeedAt K (He.ga K "Order")))) : FnA P w K mg f 2 ["self", "part"] ((spNeedOf K (He.ga K "Order"))) := by
  refine FnA.mk' F sc_Order_need_of (k := 1) (fun vs H Q E h => ?_) (fun _ _ _ _ _ _ us hl => match us, hl with | [_, _], _ => rfl) (fun base cdv A outer s H vs Q E hr h => ?_)
  · exact len_Order_need_of h
  · have nd := sc_Order_need_of.nd
    have hu := hu_of hr
    have hrM_Order_need_at : Room 1 _ := hr.mono (by omega)
    refine ⟨_, (pss_cons (ps_if (PW.pt (pw_or (pt_cmpR (op_eqA (K := K) rfl hr.units) (pe_ix (ix_any (K := K) rfl) (pv 1) pe_int (fun _ _ => rfl)) pe_str (nomark _)) (pw_or1 (pt_cmpR (op_eqA (K := K) rfl hr.units) (pe_ix (ix_any (K := K) rfl) (pv 1) pe_int (fun _ _ => rfl)) pe_str (nomark _))))) (pss_one (ps_ret pe_int)) pss_nil)
      (pss_cons (ps_setLc (i := 2) (own := [("one", 3)]) rfl nd rfl rfl (sw_true rfl rfl rfl (by decide +kernel)) (pi_tup (pe_slice (sl_any (K := K) rfl) (pv 1) (po_some pe_int) po_none)) (blkOk_by (N := N_Order_need_of) (sc := defScope s_Order_need_of) (by decide +kernel)) (fun _ _ _ _ _ => (pg_name (i := 3) nd rfl (Or.inl rfl))) (fun _ _ _ _ _ => pts_nil) (fun _ _ _ _ _ => (pe_met GM_Order_need_at rfl c.cl_Order c.me_Order_need_at hrM_Order_need_at (pv 0) (pa_cons (pv 3) pa_nil))))
      (pss_cons (ps_if (PW.pt (pw_and (pt_cmpR (op_eqA (K := K) rfl hr.units) (pe_callB (call_lenA (K := K) rfl) (by rfl) c.f_len boot_len (pa_cons (pv 2) pa_nil)) pe_int (nomark _)) (pw_and (pt_cmpR (op_eqA (K := K) rfl hr.units) (pe_ix (ix_any (K := K) rfl) (pv 2) pe_int (fun _ _ => rfl)) (pe_ix (ix_any (K := K) rfl) (pv 2) pe_int (fun _ _ => rfl)) (nomark _)) (pw_and1 (pt_cmpR op_gt (pe_ix (ix_any (K := K) rfl) (pv 2) pe_int (fun _ _ => rfl)) pe_int (nomark _)))))) (pss_one (ps_ret (pe_op (op_addA (K := K) rfl) (pe_ix (ix_any (K := K) rfl) (pv 2) pe_int (fun _ _ => rfl)) pe_int))) pss_nil)
      (pss_one (ps_ret (pe_callB (call_maxL (K := K) rfl rfl) (by rfl) c.f_max boot_max (pa_cons (pe_op (op_addA (K := K) rfl) (pe_lst (pa_cons pe_int pa_nil)) (pv 2)) pa_nil))))))), ?_⟩
    try dsimp only [cxOf, Cx.nox, Cx.wish]
    obtain ⟨p, dx, l, ol, nl, xs, v, d, nd, rfl, hp, hn, hd, ⟨s, items, rfl, so, hi, l1, l2, hg⟩, hj, q⟩ := h
    obtain ⟨a, us, rfl, ha, hus⟩ := exp_n hd
    have hul : us.length = items.length := dpa_len hus
    have gone : (s = "get" ∨ s = "ask") → rowN nd (.tuple (.str s :: items)) = 1 := fun g => by
      have : ∀ x ∈ items, valD nd x = 0 := fun x hx => by
        unfold valD
        cases h : intD x with
        | none => rfl
        | some j =>
          have : j ∈ intsD items := List.mem_filterMap.mpr ⟨x, hx, h⟩
          rw [hg g] at this
          exact (List.not_mem_nil this).elim
      match items, l1, l2, this with
      | [x], _, _, t => show max 1 (valD nd x) = 1; rw [t x List.mem_cons_self]; rfl
      | [x, y], _, _, t =>
        show (if valD nd x = valD nd y ∧ 0 < valD nd x then valD nd x + 1 else max 1 (max (valD nd x) (valD nd y))) = 1
        rw [t x List.mem_cons_self, t y (List.mem_cons_of_mem _ List.mem_cons_self)]; rfl
    repeat walk_at "w"
    refine ite2 (fun h1 => ?_) (fun h1 => ?_)
    · rw [decide_eq_true_eq] at h1
      repeat walk_at "w"
      rw [gone (.inl h1)] at q
      exact q _ (Same.refl _)
    · repeat walk_at "w"
      refine ite2 (fun h2 => ?_) (fun h2 => ?_)
      · rw [decide_eq_true_eq] at h2
        repeat walk_at "w"
        rw [gone (.inr h2)] at q
        exact q _ (Same.refl _)
      · repeat walk_at "w"
        refine w_slT1 (σ := []) ha ?_
        refine w_new fun p1 H1 n1 s1 f1 => ?_
        have hus1 := dpAll_ts (TS.of s1) _ _ (items_all hi).1 hus
        repeat walk_at "w"
        have hp1 := s1 _ _ hp
        have hn1 := s1 _ _ hn
        refine lc_T us (fun D i ys H' => Same H1 H' ∧ ys = natV ((items.take i).map (valD nd))) (SqT.of f1) (fun D H' hD e f => ⟨e, rfl⟩) (fun D hD i ys H' hi hy hp => SqT.of (hp.1 _ _ f1)) (fun D hD i x ys H' hx hll hy hp' => ?_) (fun D hD ys H' hll hy hp' => ?_)
        · obtain ⟨e, rfl⟩ := hp'
          obtain ⟨dx', hdx, hdp⟩ := dpa_at' (dpAll_ts (TS.of e) _ _ (items_all hi).1 hus1) hx
          have it := hi dx' (List.mem_of_getElem? hdx)
          have hp2 := e _ _ hp1
          have hn2 := e _ _ hn1
          have hil := (List.getElem?_eq_some_iff.mp hdx).1
          have fin : LcEnd D (fun i ys H' => Same H1 H' ∧ ys = natV ((items.take i).map (valD nd))) i (.int (valD nd dx' : Nat)) H' :=
            lc_end hy hll (by rw [sizeLine_eq]; omega) fun H3 e3 f3 => ⟨But.new e hD e3, by rw [take_snoc hdx, List.map_append]; unfold natV; rw [List.map_append]; rfl⟩
          repeat walk_at "w"
          cases it with
          | int n =>
            cases dp_int hdp
            have hn0 := hj n (show n ∈ intsD items from List.mem_filterMap.mpr ⟨.int n, List.mem_of_getElem? hdx, rfl⟩)
            exact ⟨p, dx, l, ol, nl, xs, .int n, rfl, hp2, hn2, .inl ⟨n, nd n, rfl, hn0.1, hn0.2, fin⟩⟩
          | str hs' =>
            cases dp_str hdp
            exact ⟨p, dx, l, ol, nl, xs, _, rfl, hp2, hn2, .inr ⟨.inl ⟨_, rfl⟩, fin⟩⟩
          | pair hs' n =>
            obtain ⟨a2, us2, rfl, ha2, _⟩ := dp_tup hdp
            exact ⟨p, dx, l, ol, nl, xs, .ref a2, rfl, hp2, hn2, .inr ⟨.inr ⟨a2, us2, rfl, ha2⟩, fin⟩⟩
        · obtain ⟨e, rfl⟩ := hp'
          rw [hul, List.take_length] at hy
          match items, l1, l2, hy, q with
          | [x], _, _, hy, q =>
            have hy' : H' D = some (.lst [.int (valD nd x : Nat)]) := hy
            repeat walk_at "w"
            refine ite2 (fun h => absurd h (by simp)) (fun _ => ?_)
            repeat walk_at "w"
            refine w_new fun p2 H2 n2 s2 f2 => ?_
            repeat walk_at "w"
            refine w_addL f2 (s2 _ _ hy') (by rw [sizeLine_eq]; simp) ?_
            refine w_new fun p3 H3 n3 s3 f3 => ?_
            repeat walk_at "w"
            refine w_maxL (ns := [1, ((valD nd x : Nat) : Int)]) (SqL.of f3) (by simp) fun m hm hle => ?_
            have e1 := hle 1 (by simp)
            have e2 := hle ((valD nd x : Nat) : Int) (by simp)
            have e3 : m = ((max 1 (valD nd x) : Nat) : Int) := by
              simp only [List.mem_cons, List.not_mem_nil, or_false] at hm
              omega
            rw [e3]
            exact q _ (s1.trans (e.trans (s2.trans s3)))
          | [x, y], _, _, hy, q =>
            have hy' : H' D = some (.lst [.int (valD nd x : Nat), .int (valD nd y : Nat)]) := hy
            repeat walk_at "w"
            refine ite2 (fun _ => ?_) (fun h => (h (by simp)).elim)
            refine w_andP (((valD nd x : Nat) : Int) = (valD nd y : Nat)) ((0 : Int) < (valD nd x : Nat)) (by walk_at "tz") (by walk_at "tz") (fun b hb => ?_)
            refine ite2 (fun h3 => ?_) (fun h3 => ?_)
            · have g := hb.mp h3
              repeat walk_at "w"
              have := q _ (s1.trans e)
              rw [show rowN nd (.tuple [.str s, x, y]) = valD nd x + 1 from if_pos ⟨by omega, by omega⟩] at this
              exact this
            · have no : ¬ (valD nd x = valD nd y ∧ 0 < valD nd x) := fun z => h3 (hb.mpr ⟨by omega, by omega⟩)
              repeat walk_at "w"
              refine w_new fun p2 H2 n2 s2 f2 => ?_
              repeat walk_at "w"
              refine w_addL f2 (s2 _ _ hy') (by rw [sizeLine_eq]; simp) ?_
              refine w_new fun p3 H3 n3 s3 f3 => ?_
              repeat walk_at "w"
              refine w_maxL (ns := [1, ((valD nd x : Nat) : Int), ((valD nd y : Nat) : Int)]) (SqL.of f3) (by simp) fun m hm hle => ?_
              have e1 := hle 1 (by simp)
              have e2 := hle ((valD nd x : Nat) : Int) (by simp)
              have e4 := hle ((valD nd y : Nat) : Int) (by simp)
              have e3 : m = ((max 1 (max (valD nd x) (valD nd y)) : Nat) : Int) := by
                simp only [List.mem_cons, List.not_mem_nil, or_false] at hm
                omega
              rw [e3]
              have := q _ (s1.trans (e.trans (s2.trans s3)))
              rw [show rowN nd (.tuple [.str s, x, y]) = max 1 (max (valD nd x) (valD nd y)) from if_neg no] at this
              exact this
end

end J
namespace J
open PySem PySem.Spec PyProof.Rows L2
local macro_rules | `(tactic| walk_at "cls") => `(tactic| first
  | with_reducible exact Facts.cl_Parts
  | with_reducible exact Facts.cl_Order)
local macro_rules | `(tactic| walk_at "na") => `(tactic| first
  | with_reducible exact Facts.na_Parts_rows
  | with_reducible exact Facts.na_Order_parts
  | with_reducible exact Facts.na_Order_order
  | with_reducible exact Facts.na_Order_needed)
local macro_rules | `(tactic| walk_at "ty") => `(tactic| first
  | with_reducible exact ty_int
  | with_reducible exact ty_bl
  | with_reducible exact ty_str
  | with_reducible exact ty_non
  | ((with_reducible refine' ty_lst ?vv); (case vv => walk_at "tr"))
  | ((with_reducible refine' ty_sqT ?vv); (case vv => walk_at "tr"))
  | ((with_reducible refine' ty_dic ?vv); (case vv => walk_at "tr")))
local macro_rules | `(tactic| walk_at "ix") => `(tactic| first | exact at0 | exact at1 | exact at2 | assumption)
local macro_rules | `(tactic| walk_at "size") => `(tactic| first
  | assumption
  | (show _ < sizeLine; rw [sizeLine_eq]; (try simp only [List.length_cons, List.length_nil, List.length_append, List.length_map]); omega)
  | (show _ ≤ sizeLine; rw [sizeLine_eq]; (try simp only [List.length_cons, List.length_nil, List.length_append, List.length_map]); omega))
local macro_rules | `(tactic| walk_at "side") => `(tactic| first
  | assumption
  | ((with_reducible refine cdw ?_ ?_) <;> omega)
  | omega
  | (exact ⟨by omega, by omega⟩)
  | (exact Or.inl ⟨by omega, by omega⟩)
  | (exact Or.inr ⟨by omega, by omega⟩)
  | decide
  | (simp only [List.length_cons, List.length_nil, List.length_append, List.length_map]; omega)
  | (show _ ≤ _; decide))
local macro_rules | `(tactic| walk_at "as") => `(tactic| with_reducible assumption)
local macro_rules | `(tactic| walk_at "tr") => `(tactic| first
  | with_reducible assumption
  | with_reducible exact upd_same
  | ((with_reducible refine' SqL.of ?hh); (case hh => walk_at "as"))
  | ((with_reducible refine' SqT.of ?hh); (case hh => walk_at "as"))
  | ((with_reducible refine' Same.stm ?ee ?gg); (case ee => walk_at "as"); (case gg => walk_at "tr"))
  | ((with_reducible refine' Same.sqT ?ee ?gg); (case ee => walk_at "as"); (case gg => walk_at "tr"))
  | ((with_reducible refine' Same.sqL ?ee ?gg); (case ee => walk_at "as"); (case gg => walk_at "tr"))
  | ((with_reducible refine' Same.at ?ee ?gg); (case ee => walk_at "as"); (case gg => walk_at "tr"))
  | ((with_reducible refine' But.stm ?ee ?ff ?gg); (case ee => walk_at "as"); (case ff => walk_at "ne"); (case gg => walk_at "tr"))
  | ((with_reducible refine' But.tup ?ee ?ff ?gg); (case ee => walk_at "as"); (case ff => walk_at "tr1"); (case gg => walk_at "tr"))
  | ((with_reducible refine' But.sqT ?ee ?ff ?gg); (case ee => walk_at "as"); (case ff => walk_at "tr1"); (case gg => walk_at "tr"))
  | ((with_reducible refine' But.tupL ?ee ?ff ?gg); (case ee => walk_at "as"); (case ff => walk_at "tr1"); (case gg => walk_at "tr"))
  | ((with_reducible refine' But.sqTL ?ee ?ff ?gg); (case ee => walk_at "as"); (case ff => walk_at "tr1"); (case gg => walk_at "tr"))
  | ((with_reducible refine' But.sqL ?ee ?ff ?gg); (case ee => walk_at "as"); (case ff => walk_at "ne"); (case gg => walk_at "tr"))
  | ((with_reducible refine' But.at ?ee ?ff ?gg); (case ee => walk_at "as"); (case ff => walk_at "ne"); (case gg => walk_at "tr")))
local macro_rules | `(tactic| walk_at "ts") => `(tactic| first
  | with_reducible assumption
  | with_reducible exact TS.refl _
  | ((with_reducible refine' TS.trans ?gg (TS.of ?ee)); (case ee => walk_at "as"); (case gg => walk_at "ts"))
  | ((with_reducible refine' TS.trans ?gg (TS.butS ?ee ?ff)); (case ee => walk_at "as"); (case ff => walk_at "tr1"); (case gg => walk_at "ts"))
  | ((with_reducible refine' TS.trans ?gg (TS.butL ?ee ?ff)); (case ee => walk_at "as"); (case ff => walk_at "tr1"); (case gg => walk_at "ts"))
  | ((with_reducible refine' TS.trans ?gg (TS.butI ?ee ?ff)); (case ee => walk_at "as"); (case ff => walk_at "tr1"); (case gg => walk_at "ts")))
local macro_rules | `(tactic| walk_at "sm") => `(tactic| first
  | with_reducible assumption
  | with_reducible exact Same.refl _
  | ((with_reducible refine' Same.trans ?gg ?ee); (case ee => walk_at "as"); (case gg => walk_at "sm"))
  | ((with_reducible refine' But.new ?gg ?nn ?ee); (case ee => walk_at "as"); (case nn => walk_at "fr"); (case gg => walk_at "sm")))
local macro_rules | `(tactic| walk_at "fr") => `(tactic| first
  | with_reducible assumption
  | ((with_reducible refine' Same.back ?ee ?nn); (case nn => walk_at "as"); (case ee => walk_at "sm"))
  | ((with_reducible refine' But.back ?ee ?ff ?nn); (case nn => walk_at "as"); (case ff => walk_at "ne0"); (case ee => walk_at "bu")))
local macro_rules | `(tactic| walk_at "bu") => `(tactic| first
  | with_reducible assumption
  | with_reducible exact But.refl _ _
  | ((with_reducible refine' But.trans ?gg ?ee); (case ee => walk_at "as"); (case gg => walk_at "bu"))
  | ((with_reducible refine' But.trans ?gg (But.of ?ee)); (case ee => walk_at "as"); (case gg => walk_at "bu"))
  | ((with_reducible refine' But.new2 ?gg ?nn ?ee); (case ee => walk_at "as"); (case nn => walk_at "frB"); (case gg => walk_at "bu")))
local macro_rules | `(tactic| walk_at "frB") => `(tactic| first
  | with_reducible assumption
  | ((with_reducible refine' Same.back ?ee ?nn); (case nn => walk_at "as"); (case ee => walk_at "sm"))
  | ((with_reducible refine' But.back' ?ee ?ff ?nn); (case nn => walk_at "as"); (case ee => walk_at "bu"); (case ff => walk_at "tr1")))
local macro_rules | `(tactic| walk_at "tr1") => `(tactic| first
  | with_reducible assumption
  | ((with_reducible refine' Same.stm ?ee ?gg); (case ee => walk_at "as"); (case gg => walk_at "tr1"))
  | ((with_reducible refine' Same.at ?ee ?gg); (case ee => walk_at "as"); (case gg => walk_at "tr1"))
  | ((with_reducible refine' But.at ?ee ?ff ?gg); (case ee => walk_at "as"); (case ff => walk_at "ne0"); (case gg => walk_at "tr1"))
  | ((with_reducible refine' But.stm ?ee ?ff ?gg); (case ee => walk_at "as"); (case ff => walk_at "ne0"); (case gg => walk_at "tr1")))
local macro_rules | `(tactic| walk_at "ne0") => `(tactic| first
  | with_reducible assumption
  | (with_reducible apply Ne.symm; with_reducible assumption))
local macro_rules | `(tactic| walk_at "ne") => `(tactic| first
  | with_reducible assumption
  | (with_reducible apply Ne.symm; with_reducible assumption)
  | ((with_reducible refine' stm_ne ?hh ?nn); (case nn => walk_at "as"); (case hh => walk_at "tr1"))
  | ((with_reducible refine' ne_of_none ?hh ?nn); (case nn => walk_at "as"); (case hh => walk_at "tr1"))
  | ((with_reducible apply Ne.symm); (with_reducible refine' ne_of_none ?hh ?nn); (case nn => walk_at "as"); (case hh => walk_at "tr1")))
local macro_rules | `(tactic| walk_at "v") => `(tactic| first
  | with_reducible refine w_seq ?_
  | ((with_reducible refine' w_var ?vv ?_); (case vv => exact rfl))
  | with_reducible refine w_c ?_
  | with_reducible refine w_op ?_
  | with_reducible refine w_asg ?_
  | with_reducible refine w_gName ?_
  | with_reducible refine w_ret ?_
  | with_reducible refine w_ifS ?_
  | with_reducible refine w_drop ?_
  | with_reducible refine w_next ?_
  | with_reducible refine w_cons ?_
  | with_reducible refine w_nil ?_
  | with_reducible refine w_call ?_
  | with_reducible refine w_cb ?_
  | with_reducible refine w_rI0 ?_
  | with_reducible refine w_addI ?_
  | with_reducible refine w_eqI ?_
  | with_reducible refine w_neI ?_
  | with_reducible refine w_eqS ?_
  | with_reducible refine w_neS ?_
  | with_reducible refine w_eqB ?_
  | with_reducible refine w_neB ?_
  | with_reducible refine w_chain ?_
  | with_reducible refine w_test ?_
  | with_reducible refine w_tB ?_
  | with_reducible refine w_bl ?_
  | ((with_reducible refine' w_mulI ?vv ?_); (case vv => walk_at "side"))
  | ((with_reducible refine' w_rI ?vv ?_); (case vv => walk_at "side"))
  | with_reducible refine w_int1 ?_
  | with_reducible refine w_int1b ?_
  | with_reducible refine w_tup ?_
  | with_reducible refine w_lst ?_
  | with_reducible refine w_un ?_
  | with_reducible refine w_rU ?_
  | with_reducible refine w_not ?_
  | with_reducible refine w_notV ?_
  | with_reducible refine w_ifE ?_
  | with_reducible refine w_nT ?_
  | with_reducible refine w_nF ?_
  | with_reducible refine iteT ?_
  | with_reducible refine iteF ?_
  | ((with_reducible refine' w_ixT ?vv ?ww ?_); (case vv => walk_at "tr"); (case ww => walk_at "ix"))
  | ((with_reducible refine' w_ixL ?vv ?ww ?_); (case vv => walk_at "tr"); (case ww => walk_at "ix"))
  | with_reducible refine w_gSub ?_
  | ((with_reducible refine' w_setL ?vv ?ww ?_); (case vv => walk_at "tr"); (case ww => first | rfl | decide | assumption))
  | ((with_reducible refine' w_lenL ?vv ?_); (case vv => walk_at "tr"))
  | ((with_reducible refine' w_lenT ?vv ?_); (case vv => walk_at "tr"))
  | with_reducible refine w_max2 ?_
  | with_reducible refine w_max3 ?_
  | with_reducible refine w_din ?_
  | with_reducible refine w_dnotin ?_
  | with_reducible refine w_dput ?_
  | with_reducible refine w_min2 ?_
  | with_reducible refine w_bm ?_
  | with_reducible refine w_bm0 ?_
  | ((with_reducible refine' w_tyL ?vv ?_); (case vv => walk_at "tr"))
  | ((with_reducible refine' w_append ?vv ?ww ?_); (case vv => walk_at "tr"); (case ww => walk_at "size"))
  | ((with_reducible refine' w_size ?vv ?_); (case vv => walk_at "size"))
  | with_reducible refine w_forL ?_
  | with_reducible refine w_forT ?_
  | with_reducible refine w_forR1 ?_
  | with_reducible refine w_forR2 ?_
  | with_reducible refine w_lcL ?_
  | with_reducible refine w_lcT ?_
  | with_reducible refine w_lcR1 ?_
  | with_reducible refine w_yes ?_
  | with_reducible refine w_sl ?_
  | with_reducible refine w_noPart ?_
  | with_reducible refine w_part ?_
  | with_reducible refine w_int ?_
  | ((with_reducible refine' w_slL ?vv ?_); (case vv => walk_at "tr"))
  | ((with_reducible refine' w_seqL ?vv ?ww ?_); (case vv => walk_at "tr"); (case ww => rfl))
  | ((with_reducible refine' w_seqT ?vv ?ww ?_); (case vv => walk_at "tr"); (case ww => rfl))
  | with_reducible refine w_gNil ?_
  | with_reducible refine w_gCons ?_
  | with_reducible refine w_forZ ?_
  | with_reducible refine w_forM ?_
  | with_reducible refine w_forE ?_
  | with_reducible refine w_forV ?_
  | with_reducible refine w_lcZ ?_
  | with_reducible refine w_lcE ?_
  | ((with_reducible refine' w_isi (b := true) ?vv ?ww ?_); (case vv => walk_at "ty"); (case ww => decide +kernel))
  | ((with_reducible refine' w_isi (b := false) ?vv ?ww ?_); (case vv => walk_at "ty"); (case ww => decide +kernel))
  | with_reducible refine w_revL ?_
  | with_reducible refine w_pairN ?_
  | with_reducible refine w_pairC ?_
  | with_reducible refine w_dget ?_
  | with_reducible refine w_met ?_
  | ((with_reducible refine' w_metAt ?vv ?ww ?_); (case vv => walk_at "tr"); (case ww => rfl))
  | with_reducible refine w_mkI ?_
  | with_reducible refine w_fld ?_
  | ((with_reducible refine' w_fldAt ?vv ?cc ?nn ?ww ?_); (case vv => walk_at "tr"); (case cc => walk_at "cls"); (case nn => walk_at "na"); (case ww => rfl))
  | with_reducible refine w_sfld ?_
  | ((with_reducible refine' w_sfldAt ?vv ?cc ?nn ?ll ?ee ?_); (case vv => walk_at "tr"); (case cc => walk_at "cls"); (case nn => walk_at "na"); (case ll => simp); (case ee => rfl))
  | ((with_reducible refine' w_tupL ?vv ?_); (case vv => walk_at "tr"))
  | ((with_reducible refine' w_tupT ?vv ?_); (case vv => walk_at "tr"))
  | ((with_reducible refine' w_listL ?vv ?_); (case vv => walk_at "tr"))
  | ((with_reducible refine' w_listT ?vv ?_); (case vv => walk_at "tr"))
  | with_reducible refine w_tyS ?_
  | with_reducible refine w_retN ?_
  | with_reducible refine w_break ?_
  | with_reducible refine w_cont ?_)
local macro_rules | `(tactic| walk_at "w") => `(tactic| first
  | walk_at "v"
  | with_reducible refine w_or ?_
  | with_reducible refine w_and ?_
  | with_reducible refine w_andV ?_
  | with_reducible refine w_orV ?_)
local macro_rules | `(tactic| walk_at "wd") => `(tactic| first
  | walk_at "w"
  | ((with_reducible refine' w_decT ?vv ?_); (case vv => decide +kernel))
  | ((with_reducible refine' w_decF ?vv ?_); (case vv => decide +kernel)))
local macro_rules | `(tactic| walk_at "tz") => `(tactic| (intro S z; (repeat walk_at "w"); exact z))
local macro_rules | `(tactic| walk_at "wf") => `(tactic| first
  | walk_at "wd"
  | ((with_reducible refine' w_decF ?vv ?_); (case vv => with_reducible assumption)))
def spOrdInit (K : PySem.W.Frag) (C : Addr) : Sp := fun vs H Q _ => ∃ p dx l ss, vs = [.ref p, .ref l] ∧ H p = some (.ins C dx []) ∧ PK K H l ss ∧
  ∀ ol nl H', H' p = some (.ins C dx (flds l ol nl)) → H' ol = some (.lst []) → H' nl = some (.lst (natV (ndsL (restsL ss)))) → H ol = none → H nl = none → ol ≠ nl → But p H H' → Q .non H'
theorem len_Order_uinitu {K : PySem.W.Frag} {C : Addr} {vs H Q E} (h : spOrdInit K C vs H Q E) : vs.length = 2 := by obtain ⟨_, _, _, _, rfl, _⟩ := h; rfl
theorem len_Orderu_initu {K : PySem.W.Frag} {C : Addr} {vs H Q E} (h : spOrdInit K C vs H Q E) : vs.length = 2 := by obtain ⟨_, _, _, _, rfl, _⟩ := h; rfl
theorem PK.bp {K : PySem.W.Frag} {H H' : Hp} {l p : Addr} {ss : List SetE} {C dx : Addr} {fs : List (Str × V)} (h : PK K H l ss) (hp : H p = some (.ins C dx fs)) (e : But p H H') : PK K H' l ss := by
  obtain ⟨xs, hx, _⟩ := id h.pl
  exact ⟨h.pl.ts (TS.butI e hp) fun _ g => e _ _ (ne_of hx hp (by intro z; cases z)) g, h.ok, h.few⟩
theorem PK.bl {K : PySem.W.Frag} {H H' : Hp} {l p : Addr} {ss : List SetE} {ys : List V} (h : PK K H l ss) (hp : H p = some (.lst ys)) (n : l ≠ p) (e : But p H H') : PK K H' l ss := ⟨h.pl.ts (TS.butL e hp) fun _ g => e _ _ n g, h.ok, h.few⟩
section
variable {P : Program} {w : World} {K : PySem.W.Frag} {mg : Str → Option Value}
theorem ok_Orderu_initu [c : Facts K mg] {f : Addr} {fd : FuncData} (F : FunD K "__init__" "Order.__init__" (defArgs s_Orderu_initu) (defBody s_Orderu_initu) (defScope s_Orderu_initu) [] [] f fd) (GM_Order_need_of : FnA P w K mg (He.ma K (He.ga K "Order") "need_of") 2 ["self", "part"] ((spNeedOf K (He.ga K "Order")))) : FnA P w K mg f 3 ["self", "parts"] ((spOrdInit K (He.ga K "Order"))) := by
  refine FnA.mk' F sc_Orderu_initu (k := 2) (fun vs H Q E h => ?_) (fun _ _ _ _ _ _ us hl => match us, hl with | [_, _], _ => rfl) (fun base cdv A outer s H vs Q E hr h => ?_)
  · exact len_Orderu_initu h
  · have nd := sc_Orderu_initu.nd
    have hu := hu_of hr
    have hrM_Order_need_of : Room 2 _ := hr.mono (by omega)
    refine ⟨_, (pss_cons (ps_fld (pv 0) (pv 1) rfl)
      (pss_cons (ps_fld (pv 0) (pe_lst pa_nil) rfl)
      (pss_cons (ps_fld (pv 0) (pe_lst pa_nil) rfl)
      (pss_one (ps_for PassesOwn.never rfl (pi_list (pv 1)) (pg_name (i := 2) nd rfl (Or.inl rfl)) (pss_one (ps_expr (pe_bm PySem.F.plainAttrs_list PySem.F.slot_list_append PySem.F.type_list_append mt_append (pe_fldK (K := K) rfl (pv 0)) (pa_cons (pe_met GM_Order_need_of rfl c.cl_Order c.me_Order_need_of hrM_Order_need_of (pv 0) (pa_cons (pv 2) pa_nil)) pa_nil))))))))), ?_⟩
    try dsimp only [cxOf, Cx.nox, Cx.wish]
    obtain ⟨p, dx, l, ss, rfl, hp, pk, q⟩ := h
    obtain ⟨us, hus, hun, hul⟩ := pk.len
    have npl : l ≠ p := ne_of hus hp (by intro z; cases z)
    repeat walk_at "w"
    refine w_chg fun H1 e1 f1 => ?_
    have f1' : H1 p = some (.ins (He.ga K "Order") dx [("parts", .ref l)]) := f1
    repeat walk_at "w"
    refine w_new fun ol H2 n2 s2 f2 => ?_
    have f2' := s2 _ _ f1'
    repeat walk_at "w"
    refine w_chg fun H3 e3 f3 => ?_
    have f3' : H3 p = some (.ins (He.ga K "Order") dx [("parts", .ref l), ("order", .ref ol)]) := f3
    repeat walk_at "w"
    refine w_new fun nl H4 n4 s4 f4 => ?_
    have f4' := s4 _ _ f3'
    repeat walk_at "w"
    refine w_chg fun H5 e5 f5 => ?_
    have f5' : H5 p = some (.ins (He.ga K "Order") dx (flds l ol nl)) := f5
    have pol : ol ≠ p := (ne_of_none f1 n2).symm
    have pnl : nl ≠ p := (ne_of_none f3 n4).symm
    have fo3 : H3 ol = some (.lst []) := e3 _ _ pol f2
    have oln : ol ≠ nl := ne_of_none fo3 n4
    have fo5 : H5 ol = some (.lst []) := e5 _ _ pol (s4 _ _ fo3)
    have fn5 : H5 nl = some (.lst []) := e5 _ _ pnl f4
    have b5 : But p H H5 := ((e1.trans (But.of s2)).trans e3).trans ((But.of s4).trans e5)
    have pk5 : PK K H5 l ss := pk.bp hp b5
    have hus5 := b5 _ _ npl hus
    have nolH : H ol = none := e1.back pol n2
    have nnlH : H nl = none := ((e1.trans (But.of s2)).trans e3).back pnl n4
    have nll : l ≠ nl := fun z => by rw [z, nnlH] at hus; cases hus
    repeat walk_at "w"
    refine fl_list us (fun i σ H' => ∃ o2, σ = [some (.ref p), some (.ref l), o2] ∧ H' p = some (.ins (He.ga K "Order") dx (flds l ol nl)) ∧ H' ol = some (.lst []) ∧ H' nl = some (.lst (natV ((ndsL (restsL ss)).take i))) ∧ But p H H' ∧ PK K H' l ss ∧ H' l = some (.lst us)) (SqL.of hus5)
      ⟨_, rfl, f5', fo5, fn5, b5, pk5, hus5⟩ (fun i σ H' hi hp' => ?_) (fun i x σ H' hx hp' => ?_) (fun σ H' hp' => ?_)
    · obtain ⟨_, _, _, _, _, _, _, g⟩ := hp'
      exact SqL.of g
    · obtain ⟨o2, rfl, hpp, hol, hnl, b, pk', hul'⟩ := hp'
      have hil := (List.getElem?_eq_some_iff.mp hx).1
      obtain ⟨xs2, v2, d2, hx2, ha2, hd2, hr2, ho2⟩ := pk'.at (x := (i : Int)) (by omega) (by omega)
      cases Option.some.inj (hx2.symm.trans hul')
      have ev : v2 = x := by
        have := atI_of (show (0 : Int) ≤ (i : Int) by omega) (show us[((i : Nat) : Int).toNat]? = some x by rw [Int.toNat_natCast]; exact hx)
        exact Option.some.inj (ha2.symm.trans this)
      subst ev
      have own := ownF_ok ss
      have hlen : (ndsL (restsL ss)).length = us.length := by rw [ndsL_len]; unfold nOf at hun; omega
      obtain ⟨us3, hu3, hdu, _⟩ := id pk'.pl
      cases Option.some.inj (hu3.symm.trans hul')
      obtain ⟨d3, hd3, hdp3⟩ := dpa_at' hdu hx
      have ed : rowN (nedF ss) d3 = nedF ss i := rowN_all hd3
      have hr3 := proots_prow ss pk.ok rows_nil (fun _ q => (List.not_mem_nil q).elim) d3 (List.mem_of_getElem? hd3)
      have ho3 := ownF_at hd3
      repeat walk_at "w"
      refine ⟨p, dx, l, ol, nl, _, v2, d3, nedF ss, rfl, hpp, hnl, hdp3, hr3, fun j hj => ?_, fun H6 s6 => ?_⟩
      · rw [← ho3] at hj
        have bj := own.lt i (by omega) (by unfold nOf at hun; omega) j hj
        refine ⟨bj.1, ?_⟩
        rw [List.getElem?_take, if_pos (by omega)]
        unfold nedF
        rw [List.getD_eq_getElem?_getD, List.getElem?_eq_getElem (by omega)]; rfl
      · rw [ed]
        repeat walk_at "w"
        refine w_append (s6 _ _ hnl) (by rw [sizeLine_eq, natV_len, List.length_take]; omega) ?_
        refine w_chg fun H7 e7 f7 => ?_
        repeat walk_at "w"
        have t7 : But nl H' H7 := (But.of s6).trans e7
        refine ⟨_, rfl, t7 _ _ pnl.symm hpp, t7 _ _ oln hol, ?_, But.new2 (b.trans (But.of s6)) nnlH e7, pk'.bl hnl nll t7, t7 _ _ nll hul'⟩
        have e8 : (ndsL (restsL ss))[i]? = some (nedF ss i) := by
          unfold nedF
          rw [Int.toNat_natCast, List.getD_eq_getElem?_getD, List.getElem?_eq_getElem (by omega)]; rfl
        rw [take_snoc e8]
        unfold natV at f7 ⊢
        rw [List.map_append]
        exact f7
    · obtain ⟨o2, rfl, hpp, hol, hnl, b, pk', hul'⟩ := hp'
      have hlen : (ndsL (restsL ss)).length = us.length := by rw [ndsL_len]; unfold nOf at hun; omega
      rw [List.take_of_length_le (by omega)] at hnl
      repeat walk_at "w"
      exact q ol nl H' hpp hol hnl nolH nnlH oln b
end
/-! ### go_through, best_order -/
/-- a tree among the parts -/
structure TreeAt (ss : List SetE) (e : Exp) (b : Int) : Prop where
  tr : Tr (ownF ss) e b
  nd : Nd (nedF ss) e b
  lo : 0 ≤ b
  hi : b + e.cnt ≤ nOf ss
/-- the trees right below a root -/
def rootO (q : Exp × Int) : Int := q.2 + q.1.cnt - 1
structure Kids (ss : List SetE) (n : Nat) (e : Exp) (b : Int) (ks : List (Exp × Int)) : Prop where
  own : ownF ss (b + e.cnt - 1) = ks.map rootO
  few : ks.length ≤ 2
  ok : ∀ q ∈ ks, OkE n q.1 ∧ 0 < q.1.cnt ∧ TreeAt ss q.1 q.2
  cnt : (ks.map fun q => q.1.cnt).sum + 1 = e.cnt
  ord0 : ks = [] → e.ord b = [b + e.cnt - 1]
  ord1 : ∀ x, ks = [x] → e.ord b = x.1.ord x.2 ++ [b + e.cnt - 1]
  ord2 : ∀ x y, ks = [x, y] → e.ord b = (if x.1.need < y.1.need then y.1.ord y.2 ++ x.1.ord x.2 else x.1.ord x.2 ++ y.1.ord y.2) ++ [b + e.cnt - 1]
theorem kids_of {ss : List SetE} {n : Nat} {e : Exp} {b : Int} (t : TreeAt ss e b) (oe : OkE (n + 1) e) (hc : 0 < e.cnt) : ∃ ks, Kids ss n e b ks := by
  cases e with
  | num => simp [Exp.cnt] at hc
  | fld => simp [Exp.cnt] at hc
  | plc k j =>
    have e0 : ownF ss (b + ((Exp.plc k j).cnt : Int) - 1) = [] := by
      have := t.tr 0 [] rfl
      rw [show b + ((Exp.plc k j).cnt : Int) - 1 = b + ((0 : Nat) : Int) by simp [Exp.cnt]]; exact this
    exact ⟨[], e0, by simp, fun q hq => (List.not_mem_nil hq).elim, rfl, fun _ => by simp [Exp.ord, Exp.cnt], fun x h => (by cases h), fun x y h => (by cases h)⟩
  | mrk k j =>
    have e0 : ownF ss (b + ((Exp.mrk k j).cnt : Int) - 1) = [] := by
      have := t.tr 0 [] rfl
      rw [show b + ((Exp.mrk k j).cnt : Int) - 1 = b + ((0 : Nat) : Int) by simp [Exp.cnt]]; exact this
    exact ⟨[], e0, by simp, fun q hq => (List.not_mem_nil hq).elim, rfl, fun _ => by simp [Exp.ord, Exp.cnt], fun x h => (by cases h), fun x y h => (by cases h)⟩
  | cell a =>
    obtain ⟨ta, tr⟩ := tr_cell t.tr
    obtain ⟨na, _⟩ := nd_cell t.nd
    have hi := t.hi
    have lo := t.lo
    have c0 : ((Exp.cell a).cnt : Int) = a.cnt + 1 := by simp [Exp.cnt]
    have er : b + ((Exp.cell a).cnt : Int) - 1 = b + a.cnt := by omega
    rw [c0] at hi
    by_cases z : a.cnt = 0
    · have eo : a.ord b = [] := by
        cases h : a.ord b with
        | nil => rfl
        | cons x r =>
          have := (ord_mem a b x).mp (by rw [h]; exact List.mem_cons_self)
          omega
      refine ⟨[], by rw [er, tr]; unfold Exp.rt; rw [if_pos z]; rfl, by simp, fun q hq => (List.not_mem_nil hq).elim, by simp [Exp.cnt, z], fun _ => by rw [er, Exp.ord, eo]; rfl, fun x h => (by cases h), fun x y h => (by cases h)⟩
    · refine ⟨[(a, b)], by rw [er, tr]; unfold Exp.rt; rw [if_neg z]; rfl, by simp, fun q hq => ?_, by simp [Exp.cnt], fun h => (by cases h), fun x h => ?_, fun x y h => (by cases h)⟩
      · rw [List.mem_singleton.mp hq]
        exact ⟨okE_cell oe, (show 0 < a.cnt by omega), ta, na, lo, (show b + (a.cnt : Int) ≤ nOf ss by omega)⟩
      · cases h
        rw [er, Exp.ord]
  | two o a c =>
    obtain ⟨ta, tc, tr⟩ := tr_two t.tr
    obtain ⟨na, nc, _⟩ := nd_two t.nd
    obtain ⟨_, oa, oc⟩ := okE_two oe
    have hi := t.hi
    have lo := t.lo
    have c0 : ((Exp.two o a c).cnt : Int) = a.cnt + c.cnt + 1 := by simp [Exp.cnt]
    have er : b + ((Exp.two o a c).cnt : Int) - 1 = b + a.cnt + c.cnt := by omega
    rw [c0] at hi
    have empty : ∀ (e : Exp) (b : Int), e.cnt = 0 → e.ord b = [] := fun e b z => by
      cases h : e.ord b with
      | nil => rfl
      | cons x r =>
        have := (ord_mem e b x).mp (by rw [h]; exact List.mem_cons_self)
        omega
    have ka : 0 < a.cnt → OkE n a ∧ 0 < a.cnt ∧ TreeAt ss a b := fun z => ⟨oa, z, ta, na, lo, by omega⟩
    have kc : 0 < c.cnt → OkE n c ∧ 0 < c.cnt ∧ TreeAt ss c (b + a.cnt) := fun z => ⟨oc, z, tc, nc, by omega, by omega⟩
    by_cases z : a.cnt = 0
    · by_cases z2 : c.cnt = 0
      · refine ⟨[], by rw [er, tr]; unfold Exp.rt; rw [if_pos z, if_pos z2]; rfl, by simp, fun q hq => (List.not_mem_nil hq).elim, by simp [Exp.cnt, z, z2], fun _ => ?_, fun x h => (by cases h), fun x y h => (by cases h)⟩
        rw [er, Exp.ord, if_neg (by omega), empty a b z, empty c _ z2]; rfl
      · refine ⟨[(c, b + a.cnt)], by rw [er, tr]; unfold Exp.rt; rw [if_pos z, if_neg z2]; rfl, by simp, fun q hq => ?_, by simp [Exp.cnt, z], fun h => (by cases h), fun x h => ?_, fun x y h => (by cases h)⟩
        · rw [List.mem_singleton.mp hq]; exact kc (by omega)
        · cases h
          rw [er, Exp.ord, if_neg (by omega), empty a b z]; rfl
    · by_cases z2 : c.cnt = 0
      · refine ⟨[(a, b)], by rw [er, tr]; unfold Exp.rt; rw [if_neg z, if_pos z2]; rfl, by simp, fun q hq => ?_, by simp [Exp.cnt, z2], fun h => (by cases h), fun x h => ?_, fun x y h => (by cases h)⟩
        · rw [List.mem_singleton.mp hq]; exact ka (by omega)
        · cases h
          rw [er, Exp.ord, if_neg (by omega), empty c _ z2, List.append_nil]
      · refine ⟨[(a, b), (c, b + a.cnt)], by rw [er, tr]; unfold Exp.rt; rw [if_neg z, if_neg z2]; rfl, by simp, fun q hq => ?_, by simp [Exp.cnt], fun h => (by cases h), fun x h => (by cases h), fun x y h => ?_⟩
        · simp only [List.mem_cons, List.not_mem_nil, or_false] at hq
          rcases hq with rfl | rfl
          · exact ka (by omega)
          · exact kc (by omega)
        · cases h
          rw [er, Exp.ord]
          by_cases w : a.need < c.need
          · rw [if_pos ⟨by omega, by omega, w⟩, if_pos w]
          · rw [if_neg (fun h => w h.2.2), if_neg w]
def ordK (ks : List (Exp × Int)) : List Int := ks.flatMap fun q => q.1.ord q.2
theorem w_cutN {σ : L2.St} {H : Hp} {nx : L2.St → Hp → Prop} {rt : VK} {bk ct : L2.St → Hp → Prop} {T : L2.TS} (Φ : L2.St → Hp → Prop) (hN : ∀ σ' H', Φ σ' H' → nx σ' H') (k : ∀ N : L2.St → Hp → Prop, (∀ σ' H', Φ σ' H' → N σ' H') → T ⟨N, rt, bk, ct⟩ σ H) : T ⟨nx, rt, bk, ct⟩ σ H := k nx hN
def spGo (K : PySem.W.Frag) (C : Addr) (n : Nat) : Sp := fun vs H Q _ => ∃ p dx l ol nl ss e b os, vs = [.ref p, .int (b + e.cnt - 1)] ∧ OkE n e ∧ 0 < e.cnt ∧ TreeAt ss e b ∧ H p = some (.ins C dx (flds l ol nl)) ∧ PK K H l ss ∧ l ≠ ol ∧ ol ≠ nl ∧
  H ol = some (.lst (List.map V.int os)) ∧ H nl = some (.lst (natV (ndsL (restsL ss)))) ∧ os.length + e.cnt ≤ 1000 ∧ ∀ H', H' ol = some (.lst ((os ++ e.ord b).map V.int)) → But ol H H' → Q .non H'
theorem len_Order_go_through {K : PySem.W.Frag} {C : Addr} {n : Nat} {vs H Q E} (h : spGo K C n vs H Q E) : vs.length = 2 := by obtain ⟨_, _, _, _, _, _, _, _, _, rfl, _⟩ := h; rfl
theorem no_Order_go_through {K : PySem.W.Frag} {C : Addr} {vs H Q E} (h : spGo K C 0 vs H Q E) : False := by obtain ⟨_, _, _, _, _, _, _, _, _, _, h, _⟩ := h; exact okE_0 h
section
variable {P : Program} {w : World} {K : PySem.W.Frag} {mg : Str → Option Value}
theorem ok_Order_go_through [c : Facts K mg] (G_own_parts : Fn P w K mg "own_parts" 1 ["part"] ((spOwnP K))) : ∀ n : Nat, FnA P w K mg (He.ma K (He.ga K "Order") "go_through") (n + 2) ["self", "number"] ((spGo K (He.ga K "Order") n))
  | 0 => by
    obtain ⟨fd, F⟩ := c.dm_Order_go_through
    exact FnA.mk' (k := 1) F sc_Order_go_through (fun vs H Q E h => (no_Order_go_through h).elim) (fun _ _ _ _ _ _ us hl => match us, hl with | [_, _], _ => rfl) (fun base cdv A outer s H vs Q E hr h => (no_Order_go_through h).elim)
  | n + 1 => by
    have GM_Order_go_through := ok_Order_go_through G_own_parts n
    obtain ⟨fd, F⟩ := c.dm_Order_go_through
    refine FnA.mk' F sc_Order_go_through (k := n + 2) (fun vs H Q E h => ?_) (fun _ _ _ _ _ _ us hl => match us, hl with | [_, _], _ => rfl) (fun base cdv A outer s H vs Q E hr h => ?_)
    · exact len_Order_go_through h
    · have nd := sc_Order_go_through.nd
      have hu := hu_of hr
      have hr_own_parts : Room 1 _ := hr.mono (by omega)
      have hrM_Order_go_through : Room (n + 2) _ := hr.mono (by omega)
      refine ⟨_, (pss_cons (ps_set (i := 2) nd rfl (Or.inl rfl) (pe_fn G_own_parts hr_own_parts (by rfl) (pa_cons (pe_ix (ix_any (K := K) rfl) (pe_fldK (K := K) rfl (pv 0)) (pv 1) (fun _ _ => rfl)) pa_nil)))
      (pss_cons (ps_if (PW.pt (pw_and (pt_cmpR (op_eqA (K := K) rfl hr.units) (pe_callB (call_lenA (K := K) rfl) (by rfl) c.f_len boot_len (pa_cons (pv 2) pa_nil)) pe_int (nomark _)) (pw_and1 (pt_cmpR op_lt (pe_ix (ix_any (K := K) rfl) (pe_fldK (K := K) rfl (pv 0)) (pe_ix (ix_any (K := K) rfl) (pv 2) pe_int (fun _ _ => rfl)) (fun _ _ => rfl)) (pe_ix (ix_any (K := K) rfl) (pe_fldK (K := K) rfl (pv 0)) (pe_ix (ix_any (K := K) rfl) (pv 2) pe_int (fun _ _ => rfl)) (fun _ _ => rfl)) (nomark _))))) (pss_one (ps_set (i := 2) nd rfl (Or.inl rfl) (pe_lst (pa_cons (pe_ix (ix_any (K := K) rfl) (pv 2) pe_int (fun _ _ => rfl)) (pa_cons (pe_ix (ix_any (K := K) rfl) (pv 2) pe_int (fun _ _ => rfl)) pa_nil))))) pss_nil)
      (pss_cons (ps_for PassesOwn.never rfl (pi_list (pv 2)) (pg_name (i := 3) nd rfl (Or.inl rfl)) (pss_one (ps_expr (pe_met GM_Order_go_through rfl c.cl_Order c.me_Order_go_through hrM_Order_go_through (pv 0) (pa_cons (pv 3) pa_nil)))))
      (pss_one (ps_expr (pe_bm PySem.F.plainAttrs_list PySem.F.slot_list_append PySem.F.type_list_append mt_append (pe_fldK (K := K) rfl (pv 0)) (pa_cons (pv 1) pa_nil))))))), ?_⟩
      try dsimp only [cxOf, Cx.nox, Cx.wish]
      obtain ⟨p, dx, l, ol, nl, ss, e, b, os, rfl, oe, hc, ta, hp, pk, nlo, non, hol, hnl, hsz, q⟩ := h
      obtain ⟨xs2, v2, d2, hx2, ha2, hd2, hr2, ho2⟩ := pk.at (x := b + e.cnt - 1) (by have := ta.lo; omega) (by have := ta.hi; omega)
      obtain ⟨ks, kk⟩ := kids_of ta oe hc
      have npo : p ≠ ol := ne_of hp hol (by intro z; cases z)
      repeat walk_at "w"
      refine ⟨v2, d2, rfl, hd2, hr2, fun w1 H1 f1 s1 n1 => ?_⟩
      rw [ho2, kk.own] at f1
      have hp1 := s1 _ _ hp
      have hnl1 := s1 _ _ hnl
      have hol1 := s1 _ _ hol
      refine w_gName ?_
      refine w_seq ?_
      refine w_cutN (fun σ' H' => ∃ cs w2 o3, σ' = [some (.ref p), some (.int (b + e.cnt - 1)), some (.ref w2), o3] ∧ Same H1 H' ∧ H' w2 = some (.lst ((cs.map rootO).map V.int)) ∧ w2 ≠ ol ∧ e.ord b = ordK cs ++ [b + e.cnt - 1] ∧ (cs.map fun q => q.1.cnt).sum + 1 = e.cnt ∧ ∀ q ∈ cs, OkE n q.1 ∧ 0 < q.1.cnt ∧ TreeAt ss q.1 q.2) (fun σ' H' hp' => ?_) (fun N hN => ?_)
      · obtain ⟨cs, w2, o3, rfl, sm, hw2, nw2, eo, ec, hk⟩ := hp'
        have hp2 := sm _ _ hp1
        have hnl2 := sm _ _ hnl1
        have hol2 := sm _ _ hol1
        have pk2 := (pk.sm s1).sm sm
        repeat walk_at "w"
        refine fl_list ((cs.map rootO).map V.int) (fun i σ H3 => ∃ o3, σ = [some (.ref p), some (.int (b + e.cnt - 1)), some (.ref w2), o3] ∧ But ol H' H3 ∧ H3 ol = some (.lst ((os ++ ordK (cs.take i)).map V.int))) (SqL.of hw2) ⟨_, rfl, But.refl _ _, by rw [List.take_zero, show ordK [] = [] from rfl, List.append_nil]; exact hol2⟩ (fun i σ H3 hi hp' => ?_) (fun i x σ H3 hx hp' => ?_) (fun σ H3 hp' => ?_)
        · obtain ⟨_, _, bb, _⟩ := hp'
          exact SqL.of (bb _ _ nw2 hw2)
        · obtain ⟨o3, rfl, bb, ho3⟩ := hp'
          rw [List.getElem?_map] at hx
          obtain ⟨r, hr, rfl⟩ := Option.map_eq_some_iff.mp hx
          rw [List.getElem?_map] at hr
          obtain ⟨c, hcx, rfl⟩ := Option.map_eq_some_iff.mp hr
          obtain ⟨k1, k2, k3⟩ := hk c (List.mem_of_getElem? hcx)
          have hp3 := bb _ _ npo hp2
          have sz : ((cs.take i).map fun q => q.1.cnt).sum + c.1.cnt ≤ (cs.map fun q => q.1.cnt).sum := by
            have e1 : cs = cs.take i ++ c :: cs.drop (i + 1) := by
              obtain ⟨hi, rfl⟩ := List.getElem?_eq_some_iff.mp hcx
              rw [List.getElem_cons_drop, List.take_append_drop]
            conv => rhs; rw [e1]
            rw [List.map_append, List.sum_append, List.map_cons, List.sum_cons]; omega
          have ol' : (ordK (cs.take i)).length = ((cs.take i).map fun q => q.1.cnt).sum := by
            have one : ∀ (e : Exp) (b : Int), (e.ord b).length = e.cnt := fun e => by
              induction e with
              | num => intro b; rfl
              | fld => intro b; rfl
              | plc => intro b; rfl
              | mrk => intro b; rfl
              | cell a ih => intro b; rw [Exp.ord, List.length_append, ih]; rfl
              | two o a c iha ihc =>
                intro b
                rw [Exp.ord, List.length_append]
                by_cases z : 0 < a.cnt ∧ 0 < c.cnt ∧ a.need < c.need
                · rw [if_pos z, List.length_append, iha, ihc]; simp [Exp.cnt]; omega
                · rw [if_neg z, List.length_append, iha, ihc]; simp [Exp.cnt]
            generalize cs.take i = l
            induction l with
            | nil => rfl
            | cons a l ih => rw [show ordK (a :: l) = a.1.ord a.2 ++ ordK l from List.flatMap_cons, List.length_append, one, ih, List.map_cons, List.sum_cons]
          repeat walk_at "w"
          refine ⟨p, dx, l, ol, nl, ss, c.1, c.2, os ++ ordK (cs.take i), rfl, k1, k2, k3, hp3, pk2.bl hol2 nlo bb, nlo, non, ho3, bb _ _ non.symm hnl2, by rw [List.length_append, ol']; omega, fun H4 h4 e4 => ?_⟩
          repeat walk_at "w"
          refine ⟨_, rfl, bb.trans e4, ?_⟩
          rw [take_snoc hcx]
          have : ordK (cs.take i ++ [c]) = ordK (cs.take i) ++ c.1.ord c.2 := by unfold ordK; rw [List.flatMap_append]; simp
          rw [this, ← List.append_assoc]; exact h4
        · obtain ⟨o3, rfl, bb, ho3⟩ := hp'
          rw [List.length_map, List.length_map, List.take_length] at ho3
          have hp3 := bb _ _ npo hp2
          have oll : (os ++ ordK cs).length ≤ 1000 := by
            have : (e.ord b).length = e.cnt := by
              have one : ∀ (e : Exp) (b : Int), (e.ord b).length = e.cnt := fun e => by
                induction e with
                | num => intro b; rfl
                | fld => intro b; rfl
                | plc => intro b; rfl
                | mrk => intro b; rfl
                | cell a ih => intro b; rw [Exp.ord, List.length_append, ih]; rfl
                | two o a c iha ihc =>
                  intro b
                  rw [Exp.ord, List.length_append]
                  by_cases z : 0 < a.cnt ∧ 0 < c.cnt ∧ a.need < c.need
                  · rw [if_pos z, List.length_append, iha, ihc]; simp [Exp.cnt]; omega
                  · rw [if_neg z, List.length_append, iha, ihc]; simp [Exp.cnt]
              exact one e b
            rw [eo, List.length_append, List.length_singleton] at this
            rw [List.length_append]; omega
          repeat walk_at "w"
          refine w_append ho3 (by rw [sizeLine_eq, List.length_map]; omega) ?_
          refine w_chg fun H4 e4 f4 => ?_
          repeat walk_at "w"
          refine q H4 ?_ (((But.of (s1.trans sm)).trans bb).trans e4)
          rw [eo, ← List.append_assoc, List.map_append]; exact f4
      · have nw1 : w1 ≠ ol := (ne_of_none hol n1).symm
        match ks, kk, f1 with
        | [], kk, f1 =>
          repeat walk_at "w"
          refine ite2 (fun h => absurd h (by simp)) (fun _ => ?_)
          repeat walk_at "w"
          exact hN _ _ ⟨[], w1, _, rfl, Same.refl _, f1, nw1, kk.ord0 rfl, kk.cnt, kk.ok⟩
        | [x], kk, f1 =>
          repeat walk_at "w"
          refine ite2 (fun h => absurd h (by simp)) (fun _ => ?_)
          repeat walk_at "w"
          exact hN _ _ ⟨[x], w1, _, rfl, Same.refl _, f1, nw1, by rw [kk.ord1 x rfl]; simp [ordK], kk.cnt, kk.ok⟩
        | [x, y], kk, f1 =>
          have f1' : H1 w1 = some (.lst [.int (rootO x), .int (rootO y)]) := f1
          obtain ⟨x1, x2, x3⟩ := kk.ok x List.mem_cons_self
          obtain ⟨y1, y2, y3⟩ := kk.ok y (List.mem_cons_of_mem _ List.mem_cons_self)
          have hat : ∀ z : Exp × Int, 0 < z.1.cnt → TreeAt ss z.1 z.2 → atI (natV (ndsL (restsL ss))) (rootO z) = some (.int (z.1.need : Nat)) := fun z h1 h2 => by
            have lo := h2.lo
            have hi := h2.hi
            have e1 := nd_root h2.nd h1
            refine natV_at (by unfold rootO; omega) ?_
            unfold nedF at e1
            rw [List.getD_eq_getElem?_getD] at e1
            have hl : (rootO z).toNat < (ndsL (restsL ss)).length := by rw [ndsL_len]; unfold nOf at hi; unfold rootO; omega
            rw [List.getElem?_eq_getElem hl]
            rw [show z.2 + (z.1.cnt : Int) - 1 = rootO z from rfl, List.getElem?_eq_getElem hl] at e1
            exact congrArg some e1
          have hx' := hat x x2 x3
          have hy' := hat y y2 y3
          repeat walk_at "w"
          refine ite2 (fun _ => ?_) (fun h => (h (by simp)).elim)
          repeat walk_at "w"
          refine ite2 (fun h3 => ?_) (fun h3 => ?_)
          · rw [decide_eq_true_eq] at h3
            repeat walk_at "w"
            refine w_new fun w2 H2 n2 s2 f2 => ?_
            repeat walk_at "w"
            refine hN _ _ ⟨[y, x], w2, _, rfl, s2, f2, (ne_of_none hol1 n2).symm, ?_, ?_, fun q hq => ?_⟩
            · rw [kk.ord2 x y rfl, if_pos (by omega)]; simp [ordK]
            · have := kk.cnt
              simp only [List.map_cons, List.map_nil, List.sum_cons, List.sum_nil] at this ⊢
              omega
            · simp only [List.mem_cons, List.not_mem_nil, or_false] at hq
              rcases hq with rfl | rfl
              · exact ⟨y1, y2, y3⟩
              · exact ⟨x1, x2, x3⟩
          · rw [decide_eq_true_eq] at h3
            repeat walk_at "w"
            refine hN _ _ ⟨[x, y], w1, _, rfl, Same.refl _, f1, nw1, ?_, kk.cnt, kk.ok⟩
            rw [kk.ord2 x y rfl, if_neg (by omega)]; simp [ordK]
        | _ :: _ :: _ :: _, kk, _ => exact absurd kk.few (by simp)
end

end J
namespace J
open PySem PySem.Spec PyProof.Rows L2
local macro_rules | `(tactic| walk_at "cls") => `(tactic| first
  | with_reducible exact Facts.cl_Parts
  | with_reducible exact Facts.cl_Order)
local macro_rules | `(tactic| walk_at "na") => `(tactic| first
  | with_reducible exact Facts.na_Parts_rows
  | with_reducible exact Facts.na_Order_parts
  | with_reducible exact Facts.na_Order_order
  | with_reducible exact Facts.na_Order_needed)
local macro_rules | `(tactic| walk_at "ty") => `(tactic| first
  | with_reducible exact ty_int
  | with_reducible exact ty_bl
  | with_reducible exact ty_str
  | with_reducible exact ty_non
  | ((with_reducible refine' ty_lst ?vv); (case vv => walk_at "tr"))
  | ((with_reducible refine' ty_sqT ?vv); (case vv => walk_at "tr"))
  | ((with_reducible refine' ty_dic ?vv); (case vv => walk_at "tr")))
local macro_rules | `(tactic| walk_at "ix") => `(tactic| first | exact at0 | exact at1 | exact at2 | assumption)
local macro_rules | `(tactic| walk_at "size") => `(tactic| first
  | assumption
  | (show _ < sizeLine; rw [sizeLine_eq]; (try simp only [List.length_cons, List.length_nil, List.length_append, List.length_map]); omega)
  | (show _ ≤ sizeLine; rw [sizeLine_eq]; (try simp only [List.length_cons, List.length_nil, List.length_append, List.length_map]); omega))
local macro_rules | `(tactic| walk_at "side") => `(tactic| first
  | assumption
  | ((with_reducible refine cdw ?_ ?_) <;> omega)
  | omega
  | (exact ⟨by omega, by omega⟩)
  | (exact Or.inl ⟨by omega, by omega⟩)
  | (exact Or.inr ⟨by omega, by omega⟩)
  | decide
  | (simp only [List.length_cons, List.length_nil, List.length_append, List.length_map]; omega)
  | (show _ ≤ _; decide))
local macro_rules | `(tactic| walk_at "as") => `(tactic| with_reducible assumption)
local macro_rules | `(tactic| walk_at "tr") => `(tactic| first
  | with_reducible assumption
  | with_reducible exact upd_same
  | ((with_reducible refine' SqL.of ?hh); (case hh => walk_at "as"))
  | ((with_reducible refine' SqT.of ?hh); (case hh => walk_at "as"))
  | ((with_reducible refine' Same.stm ?ee ?gg); (case ee => walk_at "as"); (case gg => walk_at "tr"))
  | ((with_reducible refine' Same.sqT ?ee ?gg); (case ee => walk_at "as"); (case gg => walk_at "tr"))
  | ((with_reducible refine' Same.sqL ?ee ?gg); (case ee => walk_at "as"); (case gg => walk_at "tr"))
  | ((with_reducible refine' Same.at ?ee ?gg); (case ee => walk_at "as"); (case gg => walk_at "tr"))
  | ((with_reducible refine' But.stm ?ee ?ff ?gg); (case ee => walk_at "as"); (case ff => walk_at "ne"); (case gg => walk_at "tr"))
  | ((with_reducible refine' But.tup ?ee ?ff ?gg); (case ee => walk_at "as"); (case ff => walk_at "tr1"); (case gg => walk_at "tr"))
  | ((with_reducible refine' But.sqT ?ee ?ff ?gg); (case ee => walk_at "as"); (case ff => walk_at "tr1"); (case gg => walk_at "tr"))
  | ((with_reducible refine' But.tupL ?ee ?ff ?gg); (case ee => walk_at "as"); (case ff => walk_at "tr1"); (case gg => walk_at "tr"))
  | ((with_reducible refine' But.sqTL ?ee ?ff ?gg); (case ee => walk_at "as"); (case ff => walk_at "tr1"); (case gg => walk_at "tr"))
  | ((with_reducible refine' But.sqL ?ee ?ff ?gg); (case ee => walk_at "as"); (case ff => walk_at "ne"); (case gg => walk_at "tr"))
  | ((with_reducible refine' But.at ?ee ?ff ?gg); (case ee => walk_at "as"); (case ff => walk_at "ne"); (case gg => walk_at "tr")))
local macro_rules | `(tactic| walk_at "ts") => `(tactic| first
  | with_reducible assumption
  | with_reducible exact TS.refl _
  | ((with_reducible refine' TS.trans ?gg (TS.of ?ee)); (case ee => walk_at "as"); (case gg => walk_at "ts"))
  | ((with_reducible refine' TS.trans ?gg (TS.butS ?ee ?ff)); (case ee => walk_at "as"); (case ff => walk_at "tr1"); (case gg => walk_at "ts"))
  | ((with_reducible refine' TS.trans ?gg (TS.butL ?ee ?ff)); (case ee => walk_at "as"); (case ff => walk_at "tr1"); (case gg => walk_at "ts"))
  | ((with_reducible refine' TS.trans ?gg (TS.butI ?ee ?ff)); (case ee => walk_at "as"); (case ff => walk_at "tr1"); (case gg => walk_at "ts")))
local macro_rules | `(tactic| walk_at "sm") => `(tactic| first
  | with_reducible assumption
  | with_reducible exact Same.refl _
  | ((with_reducible refine' Same.trans ?gg ?ee); (case ee => walk_at "as"); (case gg => walk_at "sm"))
  | ((with_reducible refine' But.new ?gg ?nn ?ee); (case ee => walk_at "as"); (case nn => walk_at "fr"); (case gg => walk_at "sm")))
local macro_rules | `(tactic| walk_at "fr") => `(tactic| first
  | with_reducible assumption
  | ((with_reducible refine' Same.back ?ee ?nn); (case nn => walk_at "as"); (case ee => walk_at "sm"))
  | ((with_reducible refine' But.back ?ee ?ff ?nn); (case nn => walk_at "as"); (case ff => walk_at "ne0"); (case ee => walk_at "bu")))
local macro_rules | `(tactic| walk_at "bu") => `(tactic| first
  | with_reducible assumption
  | with_reducible exact But.refl _ _
  | ((with_reducible refine' But.trans ?gg ?ee); (case ee => walk_at "as"); (case gg => walk_at "bu"))
  | ((with_reducible refine' But.trans ?gg (But.of ?ee)); (case ee => walk_at "as"); (case gg => walk_at "bu"))
  | ((with_reducible refine' But.new2 ?gg ?nn ?ee); (case ee => walk_at "as"); (case nn => walk_at "frB"); (case gg => walk_at "bu")))
local macro_rules | `(tactic| walk_at "frB") => `(tactic| first
  | with_reducible assumption
  | ((with_reducible refine' Same.back ?ee ?nn); (case nn => walk_at "as"); (case ee => walk_at "sm"))
  | ((with_reducible refine' But.back' ?ee ?ff ?nn); (case nn => walk_at "as"); (case ee => walk_at "bu"); (case ff => walk_at "tr1")))
local macro_rules | `(tactic| walk_at "tr1") => `(tactic| first
  | with_reducible assumption
  | ((with_reducible refine' Same.stm ?ee ?gg); (case ee => walk_at "as"); (case gg => walk_at "tr1"))
  | ((with_reducible refine' Same.at ?ee ?gg); (case ee => walk_at "as"); (case gg => walk_at "tr1"))
  | ((with_reducible refine' But.at ?ee ?ff ?gg); (case ee => walk_at "as"); (case ff => walk_at "ne0"); (case gg => walk_at "tr1"))
  | ((with_reducible refine' But.stm ?ee ?ff ?gg); (case ee => walk_at "as"); (case ff => walk_at "ne0"); (case gg => walk_at "tr1")))
local macro_rules | `(tactic| walk_at "ne0") => `(tactic| first
  | with_reducible assumption
  | (with_reducible apply Ne.symm; with_reducible assumption))
local macro_rules | `(tactic| walk_at "ne") => `(tactic| first
  | with_reducible assumption
  | (with_reducible apply Ne.symm; with_reducible assumption)
  | ((with_reducible refine' stm_ne ?hh ?nn); (case nn => walk_at "as"); (case hh => walk_at "tr1"))
  | ((with_reducible refine' ne_of_none ?hh ?nn); (case nn => walk_at "as"); (case hh => walk_at "tr1"))
  | ((with_reducible apply Ne.symm); (with_reducible refine' ne_of_none ?hh ?nn); (case nn => walk_at "as"); (case hh => walk_at "tr1")))
local macro_rules | `(tactic| walk_at "v") => `(tactic| first
  | with_reducible refine w_seq ?_
  | ((with_reducible refine' w_var ?vv ?_); (case vv => exact rfl))
  | with_reducible refine w_c ?_
  | with_reducible refine w_op ?_
  | with_reducible refine w_asg ?_
  | with_reducible refine w_gName ?_
  | with_reducible refine w_ret ?_
  | with_reducible refine w_ifS ?_
  | with_reducible refine w_drop ?_
  | with_reducible refine w_next ?_
  | with_reducible refine w_cons ?_
  | with_reducible refine w_nil ?_
  | with_reducible refine w_call ?_
  | with_reducible refine w_cb ?_
  | with_reducible refine w_rI0 ?_
  | with_reducible refine w_addI ?_
  | with_reducible refine w_eqI ?_
  | with_reducible refine w_neI ?_
  | with_reducible refine w_eqS ?_
  | with_reducible refine w_neS ?_
  | with_reducible refine w_eqB ?_
  | with_reducible refine w_neB ?_
  | with_reducible refine w_chain ?_
  | with_reducible refine w_test ?_
  | with_reducible refine w_tB ?_
  | with_reducible refine w_bl ?_
  | ((with_reducible refine' w_mulI ?vv ?_); (case vv => walk_at "side"))
  | ((with_reducible refine' w_rI ?vv ?_); (case vv => walk_at "side"))
  | with_reducible refine w_int1 ?_
  | with_reducible refine w_int1b ?_
  | with_reducible refine w_tup ?_
  | with_reducible refine w_lst ?_
  | with_reducible refine w_un ?_
  | with_reducible refine w_rU ?_
  | with_reducible refine w_not ?_
  | with_reducible refine w_notV ?_
  | with_reducible refine w_ifE ?_
  | with_reducible refine w_nT ?_
  | with_reducible refine w_nF ?_
  | with_reducible refine iteT ?_
  | with_reducible refine iteF ?_
  | ((with_reducible refine' w_ixT ?vv ?ww ?_); (case vv => walk_at "tr"); (case ww => walk_at "ix"))
  | ((with_reducible refine' w_ixL ?vv ?ww ?_); (case vv => walk_at "tr"); (case ww => walk_at "ix"))
  | with_reducible refine w_gSub ?_
  | ((with_reducible refine' w_setL ?vv ?ww ?_); (case vv => walk_at "tr"); (case ww => first | rfl | decide | assumption))
  | ((with_reducible refine' w_lenL ?vv ?_); (case vv => walk_at "tr"))
  | ((with_reducible refine' w_lenT ?vv ?_); (case vv => walk_at "tr"))
  | with_reducible refine w_max2 ?_
  | with_reducible refine w_max3 ?_
  | with_reducible refine w_din ?_
  | with_reducible refine w_dnotin ?_
  | with_reducible refine w_dput ?_
  | with_reducible refine w_min2 ?_
  | with_reducible refine w_bm ?_
  | with_reducible refine w_bm0 ?_
  | ((with_reducible refine' w_tyL ?vv ?_); (case vv => walk_at "tr"))
  | ((with_reducible refine' w_append ?vv ?ww ?_); (case vv => walk_at "tr"); (case ww => walk_at "size"))
  | ((with_reducible refine' w_size ?vv ?_); (case vv => walk_at "size"))
  | with_reducible refine w_forL ?_
  | with_reducible refine w_forT ?_
  | with_reducible refine w_forR1 ?_
  | with_reducible refine w_forR2 ?_
  | with_reducible refine w_lcL ?_
  | with_reducible refine w_lcT ?_
  | with_reducible refine w_lcR1 ?_
  | with_reducible refine w_yes ?_
  | with_reducible refine w_sl ?_
  | with_reducible refine w_noPart ?_
  | with_reducible refine w_part ?_
  | with_reducible refine w_int ?_
  | ((with_reducible refine' w_slL ?vv ?_); (case vv => walk_at "tr"))
  | ((with_reducible refine' w_seqL ?vv ?ww ?_); (case vv => walk_at "tr"); (case ww => rfl))
  | ((with_reducible refine' w_seqT ?vv ?ww ?_); (case vv => walk_at "tr"); (case ww => rfl))
  | with_reducible refine w_gNil ?_
  | with_reducible refine w_gCons ?_
  | with_reducible refine w_forZ ?_
  | with_reducible refine w_forM ?_
  | with_reducible refine w_forE ?_
  | with_reducible refine w_forV ?_
  | with_reducible refine w_lcZ ?_
  | with_reducible refine w_lcE ?_
  | ((with_reducible refine' w_isi (b := true) ?vv ?ww ?_); (case vv => walk_at "ty"); (case ww => decide +kernel))
  | ((with_reducible refine' w_isi (b := false) ?vv ?ww ?_); (case vv => walk_at "ty"); (case ww => decide +kernel))
  | with_reducible refine w_revL ?_
  | with_reducible refine w_pairN ?_
  | with_reducible refine w_pairC ?_
  | with_reducible refine w_dget ?_
  | with_reducible refine w_met ?_
  | ((with_reducible refine' w_metAt ?vv ?ww ?_); (case vv => walk_at "tr"); (case ww => rfl))
  | with_reducible refine w_mkI ?_
  | with_reducible refine w_fld ?_
  | ((with_reducible refine' w_fldAt ?vv ?cc ?nn ?ww ?_); (case vv => walk_at "tr"); (case cc => walk_at "cls"); (case nn => walk_at "na"); (case ww => rfl))
  | with_reducible refine w_sfld ?_
  | ((with_reducible refine' w_sfldAt ?vv ?cc ?nn ?ll ?ee ?_); (case vv => walk_at "tr"); (case cc => walk_at "cls"); (case nn => walk_at "na"); (case ll => simp); (case ee => rfl))
  | ((with_reducible refine' w_tupL ?vv ?_); (case vv => walk_at "tr"))
  | ((with_reducible refine' w_tupT ?vv ?_); (case vv => walk_at "tr"))
  | ((with_reducible refine' w_listL ?vv ?_); (case vv => walk_at "tr"))
  | ((with_reducible refine' w_listT ?vv ?_); (case vv => walk_at "tr"))
  | with_reducible refine w_tyS ?_
  | with_reducible refine w_retN ?_
  | with_reducible refine w_break ?_
  | with_reducible refine w_cont ?_)
local macro_rules | `(tactic| walk_at "w") => `(tactic| first
  | walk_at "v"
  | with_reducible refine w_or ?_
  | with_reducible refine w_and ?_
  | with_reducible refine w_andV ?_
  | with_reducible refine w_orV ?_)
local macro_rules | `(tactic| walk_at "wd") => `(tactic| first
  | walk_at "w"
  | ((with_reducible refine' w_decT ?vv ?_); (case vv => decide +kernel))
  | ((with_reducible refine' w_decF ?vv ?_); (case vv => decide +kernel)))
local macro_rules | `(tactic| walk_at "tz") => `(tactic| (intro S z; (repeat walk_at "w"); exact z))
local macro_rules | `(tactic| walk_at "wf") => `(tactic| first
  | walk_at "wd"
  | ((with_reducible refine' w_decF ?vv ?_); (case vv => with_reducible assumption)))
def spBest (K : PySem.W.Frag) : Sp := fun vs H Q _ => ∃ v ss, vs = [v] ∧ Dp K H v (setsD ss) ∧ ss.length ≤ 4 ∧ (∀ x ∈ ss, OkS 4 x) ∧
  ∀ q H' L, Srt ss L → H' q = some (.lst ((ordL L).map V.int)) → Same H H' → H q = none → Q (.ref q) H'
theorem len_best_order {K : PySem.W.Frag} {vs H Q E} (h : spBest K vs H Q E) : vs.length = 1 := by obtain ⟨_, _, rfl, _⟩ := h; rfl
theorem offs_fst : ∀ {es : List Exp} {b : Int} {p : Exp × Int}, p ∈ offs es b → p.1 ∈ es
  | [], _, _, h => (List.not_mem_nil h).elim
  | e :: es, b, p, h => by
    rcases List.mem_cons.mp h with rfl | h
    · exact List.mem_cons_self
    · exact List.mem_cons_of_mem _ (offs_fst h)
theorem restsL_ok {ss : List SetE} {n : Nat} (h : ∀ s ∈ ss, OkS n s) : ∀ e ∈ restsL ss, OkE n e := fun e he => by
  obtain ⟨s, hs, hes⟩ := List.mem_flatMap.mp he
  exact okS_rests (h s hs) e hes
theorem tree_at {ss : List SetE} {p : Exp × Int} (h : p ∈ offs (restsL ss) 0) : TreeAt ss p.1 p.2 := by
  have := offs_ge h
  exact ⟨ownF_tr ss p h, nedF_nd ss p h, this.1, by unfold nOf; omega⟩
section
variable {P : Program} {w : World} {K : PySem.W.Frag} {mg : Str → Option Value}
theorem ok_best_order [c : Facts K mg] (G_falling : Fn P w K mg "falling" 8 ["sets"] ((spFall K))) (G_parts_of : Fn P w K mg "parts_of" 7 ["sets"] ((spPof K))) (GM_Order___init__ : FnA P w K mg (He.ma K (He.ga K "Order") "__init__") 3 ["self", "parts"] ((spOrdInit K (He.ga K "Order")))) (GM_Order_go_through : FnA P w K mg (He.ma K (He.ga K "Order") "go_through") 6 ["self", "number"] ((spGo K (He.ga K "Order") 4))) : Fn P w K mg "best_order" 9 ["sets"] ((spBest K)) := by
  obtain ⟨fd, F⟩ := c.d_best_order
  refine Fn.mk' F c.g_best_order sc_best_order (k := 8) (fun vs H Q E h => ?_) (fun _ _ _ _ _ _ us hl => match us, hl with | [_], _ => rfl) (fun base cdv A outer s H vs Q E hr h => ?_)
  · exact len_best_order h
  · have nd := sc_best_order.nd
    have hu := hu_of hr
    have hr_falling : Room 8 _ := hr.mono (by omega)
    have hr_parts_of : Room 7 _ := hr.mono (by omega)
    have hrI_Order : Room (3 + 1) _ := hr.mono (by omega)
    have hrM_Order_go_through : Room 6 _ := hr.mono (by omega)
    refine ⟨_, (pss_cons (ps_set (i := 1) nd rfl (Or.inl rfl) (pe_mkI GM_Order___init__ rfl c.mk_Order c.gc_Order hrI_Order (by rfl) (pa_cons (pe_fn G_parts_of hr_parts_of (by rfl) (pa_cons (pv 0) pa_nil)) pa_nil)))
      (pss_cons (ps_for PassesOwn.never rfl (pi_list (pe_fn G_falling hr_falling (by rfl) (pa_cons (pv 0) pa_nil))) (pg_seq 3 (K := K) rfl rfl (pgs_cons (pg_name (i := 2) nd rfl (Or.inl rfl)) (pgs_cons (pg_name (i := 3) nd rfl (Or.inl rfl)) (pgs_cons (pg_name (i := 4) nd rfl (Or.inl rfl)) pgs_nil)))) (pss_one (ps_expr (pe_met GM_Order_go_through rfl c.cl_Order c.me_Order_go_through hrM_Order_go_through (pv 1) (pa_cons (pv 4) pa_nil)))))
      (pss_one (ps_ret (pe_fldK (K := K) rfl (pv 1)))))), ?_⟩
    try dsimp only [cxOf, Cx.nox, Cx.wish]
    obtain ⟨v, ss, rfl, hv, hl, ho, q⟩ := h
    repeat walk_at "w"
    refine ⟨v, ss, rfl, hv, hl, ho, fun l H1 hP nl0 s1 => ?_⟩
    have pk : PK K H1 l ss := ⟨hP, ho, hl⟩
    repeat walk_at "w"
    refine w_newI fun p dx H2 n2 s2 f2 => ?_
    refine ⟨p, dx, l, ss, rfl, f2, pk.sm s2, fun ol nl H3 f3 fo fn no nn non b3 => ⟨rfl, ?_⟩⟩
    have s13 : Same H1 H3 := But.new s2 n2 b3
    have pk3 := pk.sm s13
    have noH : H1 ol = none := s2.free no
    have nnH : H1 nl = none := s2.free nn
    obtain ⟨us, hus, hun, hul⟩ := pk.len
    have nlo : l ≠ ol := ne_of_none hus noH
    repeat walk_at "w"
    refine ⟨v, ss, rfl, dp_ts (TS.of (s1.trans s13)) _ _ (setsD_t ss) hv, hl, ho, fun f H4 Z hf hZ hw ht s4 nf => ?_⟩
    have nfo : f ≠ ol := fun z => by rw [z, fo] at nf; cases nf
    have srt : Srt ss (Z.map Prod.snd) := ⟨hZ, by rw [List.pairwise_map]; exact hw⟩
    have fo4 := s4 _ _ fo
    have npo : p ≠ ol := ne_of f3 fo (by intro z; cases z)
    refine fl_list (Z.map Prod.fst) (fun i σ H' => ∃ o2 o3 o4, σ = [some v, some (.ref p), o2, o3, o4] ∧ But ol H4 H' ∧ H' ol = some (.lst ((ordL ((Z.map Prod.snd).take i)).map V.int))) (SqL.of hf) ⟨_, _, _, rfl, But.refl _ _, fo4⟩ (fun i σ H' hi hp => ?_) (fun i x σ H' hx hp => ?_) (fun σ H' hp => ?_)
    · obtain ⟨_, _, _, _, b, _⟩ := hp
      exact SqL.of (b _ _ nfo hf)
    · obtain ⟨o2, o3, o4, rfl, b, hol⟩ := hp
      rw [List.getElem?_map] at hx
      obtain ⟨z, hz, rfl⟩ := Option.map_eq_some_iff.mp hx
      have hzm := List.mem_of_getElem? hz
      obtain ⟨t, e1, e2⟩ := ht z hzm
      have at1 := srt.at (List.mem_map.mpr ⟨z, hzm, rfl⟩)
      have hzi : (Z.map Prod.snd)[i]? = some z.2 := by rw [List.getElem?_map, hz]; rfl
      have nto : t ≠ ol := ne_of e2 fo4 (by intro z; cases z)
      have e3 : H' t = some (.tup [.int (0 - (z.2.1.1.need : Nat)), .int ((z.2.2 : Nat) : Int), .int (z.2.1.2 + z.2.1.1.cnt - 1)]) := b _ _ nto e2
      rw [e1]
      have fl := srt.full.len
      have nn' := nOf_le ho hl
      have osl : (ordL ((Z.map Prod.snd).take (i + 1))).length ≤ 120 := by
        have e5 : ordL (Z.map Prod.snd) = ordL ((Z.map Prod.snd).take (i + 1)) ++ ordL ((Z.map Prod.snd).drop (i + 1)) := by
          unfold ordL; rw [← List.flatMap_append, List.take_append_drop]
        have := congrArg List.length e5
        rw [List.length_append] at this
        omega
      have ordn : ∀ (e : Exp) (b : Int), (e.ord b).length = e.cnt := fun e => by
        induction e with
        | num => intro b; rfl
        | fld => intro b; rfl
        | plc => intro b; rfl
        | mrk => intro b; rfl
        | cell a ih => intro b; rw [Exp.ord, List.length_append, ih]; rfl
        | two o a c iha ihc =>
          intro b
          rw [Exp.ord, List.length_append]
          by_cases z : 0 < a.cnt ∧ 0 < c.cnt ∧ a.need < c.need
          · rw [if_pos z, List.length_append, iha, ihc]; simp [Exp.cnt]; omega
          · rw [if_neg z, List.length_append, iha, ihc]; simp [Exp.cnt]
      rw [take_snoc hzi, ordL_snoc, List.length_append, ordn] at osl
      repeat walk_at "w"
      refine ⟨p, dx, l, ol, nl, ss, z.2.1.1, z.2.1.2, ordL ((Z.map Prod.snd).take i), rfl, restsL_ok ho _ (offs_fst at1.1), at1.2, tree_at at1.1, b _ _ npo (s4 _ _ f3), (pk3.sm s4).bl fo4 nlo b, nlo, non, hol, b _ _ non.symm (s4 _ _ fn), by omega, fun H6 h6 e6 => ?_⟩
      repeat walk_at "w"
      refine ⟨_, _, _, rfl, b.trans e6, ?_⟩
      rw [take_snoc hzi, ordL_snoc]; exact h6
    · obtain ⟨o2, o3, o4, rfl, b, hol⟩ := hp
      rw [List.length_map, List.take_of_length_le (by rw [List.length_map]; exact Nat.le_refl _)] at hol
      have hp' := b _ _ npo (s4 _ _ f3)
      repeat walk_at "w"
      exact q ol H' _ srt hol (s1.trans (But.new (s13.trans s4) noH b)) (s1.free noH)
end

end J
namespace J
open PySem PySem.Spec PyProof.Rows L2
--plain
theorem lexI_eq : ∀ {x y : List Int}, lexI x y = false → lexI y x = false → x = y
  | [], [], _, _ => rfl
  | [], _ :: _, h, _ => by cases h
  | _ :: _, [], _, h => by cases h
  | a :: l, b :: m, h1, h2 => by
    unfold lexI at h1 h2
    by_cases e : a = b
    · subst e
      rw [if_pos rfl] at h1 h2
      rw [lexI_eq h1 h2]
    · rw [if_neg e, decide_eq_false_iff_not] at h1
      rw [if_neg (fun z => e z.symm), decide_eq_false_iff_not] at h2
      omega
theorem sorted_uniq {α : Type} {R : α → α → Prop} : ∀ {l m : List α}, l.Perm m → l.Pairwise R → m.Pairwise R → (∀ a ∈ l, ∀ b ∈ l, R a b → R b a → a = b) → l = m
  | [], m, p, _, _, _ => p.nil_eq
  | a :: l, [], p, _, _, _ => by have := p.length_eq; simp at this
  | a :: l, b :: m, p, h1, h2, an => by
    obtain ⟨a1, a2⟩ := List.pairwise_cons.mp h1
    obtain ⟨b1, b2⟩ := List.pairwise_cons.mp h2
    have e : a = b := by
      have ha : a ∈ b :: m := p.mem_iff.mp List.mem_cons_self
      have hb : b ∈ a :: l := p.mem_iff.mpr List.mem_cons_self
      rcases List.mem_cons.mp ha with e | ha
      · exact e
      · rcases List.mem_cons.mp hb with e | hb
        · exact e.symm
        · exact an a List.mem_cons_self b (List.mem_cons_of_mem _ hb) (a1 b hb) (b1 a ha)
    subst e
    rw [sorted_uniq (List.perm_cons _ |>.mp p) a2 b2 fun x hx y hy => an x (List.mem_cons_of_mem _ hx) y (List.mem_cons_of_mem _ hy)]
theorem Srt.uniq {ss : List SetE} {L M : List ((Exp × Int) × Nat)} (h : Srt ss L) (g : Srt ss M) : L = M := by
  refine sorted_uniq (h.perm.trans g.perm.symm) h.pw g.pw fun a ha b hb h1 h2 => ?_
  have e := lexI_eq h1 h2
  unfold entI at e
  simp only [List.cons.injEq] at e
  have i : a.2 = b.2 := by omega
  have ma := List.mem_zipIdx_iff_getElem?.mp (h.perm.mem_iff.mp ha)
  have mb := List.mem_zipIdx_iff_getElem?.mp (h.perm.mem_iff.mp hb)
  rw [i, mb] at ma
  have := Option.some.inj ma
  exact Prod.ext this.symm i

end J
namespace J
open PySem PySem.Spec PyProof.Rows L2
--plain
/-! ### list(reversed(list)) -/
section
open PySem PySem.Spec PyProof.Rows
variable {prog : Program} {w : World} {A : Around} {E : Value → Shared → Prop} {s : Shared}
theorem extend_rev {it l S : Addr} {items : Array Value} {R : Result → Shared → Prop} (hh : A.handled = none) (hit : s.heap.IsRevIter it l ((items.size : Int) - 1)) (hl : s.heap.IsList l items) (hne : l ≠ it) (hn : items.size ≤ sizeLine) (res : Value) (c : Nat)
    (hSi : S ≠ it) (hSl : S ≠ l) (hS : s.heap.get? S = some { cls := .type "list", data := .seq #[] c })
    (hR : ∀ (h' : Heap) (tk : Nat) (acc : Array Value) (c' : Nat), (∀ b o, b ≠ S → b ≠ it → s.heap.get? b = some o → h'.get? b = some o) → h'.get? S = some { cls := .type "list", dict := none, data := .seq acc c', slots := #[] } →
      ItemsOf (fun i v => items[items.size - 1 - i]? = some v) acc items.size → R (.ok (.ret res)) { s with heap := h', toks := tk }) :
    wpAny (model prog w) A.in1 (Builtin.List.listExtendWith (.ref S) (.ref it) res)
      (fun fin s' => match fin with | .done f => R (.ok f) s' | .again c' => c'.quiet = true ∧ codeAny (model prog w) A c' R s') (fun e s' => R (.error e) s') s := by
  have W := (Walks.listRev (prog := prog) (w := w) (A := A.in1) hh it l hne items).toS
  have hSf : S ∉ [it, l] := by simp only [List.mem_cons, List.not_mem_nil, or_false, not_or]; exact ⟨hSi, hSl⟩
  have hT : s.TypeIs (.ref it) "list_reverseiterator" := hit.typeIs
  have h1 : Builtin.List.listSameRef (.ref S) (.ref it) = false := by simp [Builtin.List.listSameRef, hSi]
  unfold Builtin.List.listExtendWith
  refine wpAny_bind (wpAny_typeOf hT ?_)
  rw [if_neg (by rw [h1]; decide)]
  refine wpAny_bind (wpAny_pyIter_revIter hit ?_)
  refine wpAny_bind (wpAny_holding ?_)
  unfold Builtin.List.listLengthHint
  refine wpAny_bind (wpAny_specialOf hT RT.nolen_lri ?_)
  show wpAny _ A.in1 (specialOf (Value.ref it) (Str.ofString "__length_hint__") >>= _) _ _ _
  refine wpAny_bind (wpAny_specialOf hT RT.hint_lri ?_)
  generalize hid : ("list_reverseiterator.__length_hint__" : String) = id0
  wp_delta
  rw [show splitId id0 = some ("list_reverseiterator", "__length_hint__") from by subst hid; decide +kernel]
  subst hid
  refine wpAny_bind (wpAny_isInstance (b := true) hT (by rw [isSubtype_type]; kernel_rfl) ?_)
  refine wpAny_pure ?_
  rw [if_neg (by decide)]
  have e0 : ((items.size : Nat) : Int) - 1 - ((0 : Nat) : Int) = (items.size : Int) - 1 := by omega
  refine wpAny_pure ⟨plainId_quiet F.plain_extend_loop _, codeAny_extend_loopS W hn _ hSf _ items.size 0 _ _ _ rfl (Nat.zero_le _) ⟨Nat.zero_le _, by rw [e0]; exact hit, hl⟩ hS (ItemsOf.nil _) fun s' acc' c' hm hS' hacc => ?_⟩
  rw [Moved.eq_with hm]
  refine hR s'.heap s'.toks acc' c' (fun b o hb hb2 e => hm.heap b o (fun hmem => ?_) e) hS' hacc
  rcases List.mem_cons.mp hmem with e' | hmem
  · exact hb e'
  · exact hb2 (List.mem_singleton.mp hmem)
theorem list_init_rev {it l S : Addr} {items : Array Value} {R : Result → Shared → Prop} (hh : A.handled = none) (hit : s.heap.IsRevIter it l ((items.size : Int) - 1)) (hl : s.heap.IsList l items) (hne : l ≠ it) (hn : items.size ≤ sizeLine)
    (hSi : S ≠ it) (hSl : S ≠ l) (hS : s.heap.get? S = some { cls := .type "list", data := .seq #[] })
    (hR : ∀ (h' : Heap) (tk : Nat) (acc : Array Value) (c' : Nat), (∀ b o, b ≠ S → b ≠ it → s.heap.get? b = some o → h'.get? b = some o) → h'.get? S = some { cls := .type "list", dict := none, data := .seq acc c', slots := #[] } →
      ItemsOf (fun i v => items[items.size - 1 - i]? = some v) acc items.size → R (.ok (.ret .none)) { s with heap := h', toks := tk }) :
    wpAny (model prog w) A.in1 (Builtin.«list.__init__» ⟨[.ref S, .ref it], []⟩)
      (fun fin s' => match fin with | .done f => R (.ok f) s' | .again c' => c'.quiet = true ∧ codeAny (model prog w) A c' R s') (fun e s' => R (.error e) s') s := by
  show wpAny _ _ (do let old ← Builtin.List.listItems (.ref S); Builtin.List.listUpdate (.ref S) (fun _ => #[]); letGo old.toList.reverse; Builtin.List.listExtendWith (.ref S) (.ref it) .none) _ _ s
  refine wpAny_bind ?_
  unfold Builtin.List.listItems
  refine wpAny_bind (wpAny_seqItems hS rfl (wpAny_pure ?_))
  show wpAny _ _ (updateSeq S (fun _ => #[]) >>= fun _ => letGo (#[] : Array Value).toList.reverse >>= fun _ => Builtin.List.listExtendWith (.ref S) (.ref it) .none) _ _ s
  refine wpAny_bind (wpAny_updateSeq hS rfl ?_)
  have hS2 := Heap.get?_update_self (Obj.mapSeq (fun _ => (#[] : Array Value))) hS rfl
  have oth : ∀ b o, b ≠ S → s.heap.get? b = some o → (s.heap.update S (Obj.mapSeq (fun _ => (#[] : Array Value)))).get? b = some o :=
    fun b o hb e => (Heap.get?_update_other _ _ (Ne.symm hb)).trans e
  refine wpAny_bind (wpAny_letGo ?_)
  obtain ⟨ol, hol, hrest⟩ := id hl
  refine extend_rev (s := { s with heap := s.heap.update S (Obj.mapSeq (fun _ => (#[] : Array Value))) }) hh (hit.at fun o e => oth it o (Ne.symm hSi) e) ⟨ol, oth l _ (Ne.symm hSl) hol, hrest⟩ hne hn .none _ hSi hSl hS2 fun h' tk acc c' hk hS' hacc => ?_
  exact hR h' tk acc c' (fun b o hb hb2 e => hk b o hb hb2 (oth b o hb e)) hS' hacc
theorem call_list_rev {it l : Addr} {items : Array Value} {Q : Value → Shared → Prop} (hh : A.handled = none) (hit : s.heap.IsRevIter it l ((items.size : Int) - 1)) (hl : s.heap.IsList l items) (hne : l ≠ it) (hn : items.size ≤ sizeLine)
    (hQ : ∀ (h' : Heap) (tk : Nat) (acc : Array Value) (c' : Nat), (∀ b o, b ≠ it → s.heap.get? b = some o → h'.get? b = some o) → h'.get? s.heap.objs.size = some { cls := .type "list", dict := none, data := .seq acc c', slots := #[] } →
      ItemsOf (fun i v => items[items.size - 1 - i]? = some v) acc items.size → Q (.ref s.heap.objs.size) { s with heap := h', toks := tk }) :
    wpAny (model prog w) A (call (.type "list") [.ref it]) Q E s := by
  refine callType_codes (Q₁ := fun obj s₁ => obj = .ref s.heap.objs.size ∧ s₁ = { s with heap := s.heap.push { cls := .type "list", data := .seq #[] } }) PySem.F.called_list (PySem.F.typeCall_list_1 _) PySem.F.entry_list_init
    (code_list_new _ ⟨rfl, rfl⟩) fun obj s₁ h₁ => ?_
  obtain ⟨rfl, rfl⟩ := h₁
  have hS : (s.heap.push { cls := .type "list", data := .seq #[] }).get? s.heap.objs.size = some { cls := .type "list", data := .seq #[] } := Heap.get?_push_size _ rfl
  obtain ⟨oi, hoi, _⟩ := id hit
  obtain ⟨ol, hol, _⟩ := id hl
  refine ⟨⟨_, hS, rfl⟩, PySem.F.args_list_init_2 _ _, list_init_rev (A := A.in1) (s := { s with heap := s.heap.push { cls := .type "list", data := .seq #[] } }) hh (hit.at fun o e => Heap.get?_push_of_some _ e) (hl.push _) hne hn (Nat.ne_of_gt (Heap.lt_size hoi)) (Nat.ne_of_gt (Heap.lt_size hol)) hS fun h' tk acc c' hk hS' hacc => ?_⟩
  exact ⟨rfl, hQ h' tk acc c' (fun b o hb e => hk b o (Nat.ne_of_lt (Heap.lt_size e)) hb (Heap.get?_push_of_some _ e)) hS' hacc⟩
end
section
open PySem PySem.Spec PyProof.Rows
variable {X : Cx} {K : PySem.W.Frag}
def tListRev (K : PySem.W.Frag) (te : TE) : TE := fun σ H Q => te σ H fun v H1 => ∃ (a : Addr) (xs : List V), v = .ref a ∧ SqL K H1 a xs ∧ NewO (.lst xs.reverse) H1 Q
theorem pe_listRev {e : Expr} {te : TE} {p p2 pos pos2 : Pos} (hK : X.K = K) (hc : X.calm = true) (hg : Gl X "list") (hm : X.mg "list" = none) (hg2 : Gl X "reversed") (hm2 : X.mg "reversed" = none) (he : PE X e te)
    (hs : starEach [e] X.env = (false, eval e X.env) :: starEach [] X.env := by rfl)
    (hs2 : starEach [.Call (.Name "reversed" p2) [e] [] pos2] X.env = (false, eval (.Call (.Name "reversed" p2) [e] [] pos2) X.env) :: starEach [] X.env := by rfl) :
    PE X (.Call (.Name "list" p) [.Call (.Name "reversed" p2) [e] [] pos2] [] pos) (tListRev K te) := by
  subst hK
  refine ⟨fun pins s σ H Q I h => ?_⟩
  refine Call_ (ld_blt I hg hm boot_list (PyProof.Rows.callWith_type1 (args_cons (Call_ (ld_blt I hg2 hm2 PyProof.Rows.boot_reversed (PyProof.Rows.callWith_type1 (args_cons (thn (he.run pins s σ H _ I h) fun u s1 ⟨v, H1, I1, r1, q1⟩ => args_nil ?_) hs) hs rfl))) hs2) hs2 rfl))
  obtain ⟨a, xs, ev, hq, q⟩ := q1
  subst ev
  obtain rfl : u = Value.ref a := r1
  obtain ⟨its, rv, p', hz⟩ := I1.list hq
  refine call_reversed_list p'.isList (args_nil ?_)
  have k0 : ∀ b o, s1.heap.get? b = some o → (s1.heap.push (revObj a ((its.toArray.size : Int) - 1))).get? b = some o := fun b o e => Heap.get?_push_of_some _ e
  have I2 : Inv X pins σ H1 { s1 with heap := s1.heap.push (revObj a ((its.toArray.size : Int) - 1)) } := I1.kept (t' := s1.toks) k0
  obtain ⟨f0, f1, f2, f3, f4, f5⟩ := I1.fpOk (H' := H1) (b := s1.heap.objs.size) (Nat.le_refl _) (I1.hok.fresh (Nat.le_refl _))
  have hl := p'.isList
  obtain ⟨ol, hol, _⟩ := id hl
  have hne : a ≠ s1.heap.objs.size := Nat.ne_of_lt (Heap.lt_size hol)
  have hn : its.toArray.size ≤ sizeLine := by rw [List.size_toArray, ← rv.length]; exact hz
  refine call_list_rev (s := { s1 with heap := s1.heap.push (revObj a ((its.toArray.size : Int) - 1)) }) (I1.ok.hd hc) ⟨_, Heap.get?_push_size _ rfl, rfl, rfl⟩ (hl.push _) hne hn fun h' tk acc c' hk hS hi => ?_
  exact ⟨.ref _, upd H1 _ (.lst xs.reverse), I2.turnedNew (t' := tk) (ch := [s1.heap.objs.size]) (fun b o hb e => hk b o (fun z => hb (by simp [z])) e) (fun b hb => by rw [List.mem_singleton.mp hb]; exact ⟨f0, f1, f2, f3, f4, f5⟩) (Nat.le_refl _)
    (show ObjOk X.prog X.w _ _ _ (.lst xs.reverse) from ⟨by rw [List.length_reverse]; exact hz, acc.toList, c', RT.vals_rev rv hi, by rw [Array.toArray_toList]; exact hS⟩), rfl, q _ (I2.hok.fresh (Nat.le_refl _))⟩
theorem w_listRev {σ : L2.St} {H : Hp} {Q : VK} {te : TE} (k : te σ H fun x H1 => ∃ a xs, x = .ref a ∧ SqL K H1 a xs ∧ NewO (.lst xs.reverse) H1 Q) : tListRev K te σ H Q := k
end

end J
namespace J
open PySem PySem.Spec PyProof.Rows L2
local macro_rules | `(tactic| walk_at "cls") => `(tactic| first
  | with_reducible exact Facts.cl_Parts
  | with_reducible exact Facts.cl_Order)
local macro_rules | `(tactic| walk_at "na") => `(tactic| first
  | with_reducible exact Facts.na_Parts_rows
  | with_reducible exact Facts.na_Order_parts
  | with_reducible exact Facts.na_Order_order
  | with_reducible exact Facts.na_Order_needed)
local macro_rules | `(tactic| walk_at "ty") => `(tactic| first
  | with_reducible exact ty_int
  | with_reducible exact ty_bl
  | with_reducible exact ty_str
  | with_reducible exact ty_non
  | ((with_reducible refine' ty_lst ?vv); (case vv => walk_at "tr"))
  | ((with_reducible refine' ty_sqT ?vv); (case vv => walk_at "tr"))
  | ((with_reducible refine' ty_dic ?vv); (case vv => walk_at "tr")))
local macro_rules | `(tactic| walk_at "ix") => `(tactic| first | exact at0 | exact at1 | exact at2 | assumption)
local macro_rules | `(tactic| walk_at "size") => `(tactic| first
  | assumption
  | (show _ < sizeLine; rw [sizeLine_eq]; (try simp only [List.length_cons, List.length_nil, List.length_append, List.length_map]); omega)
  | (show _ ≤ sizeLine; rw [sizeLine_eq]; (try simp only [List.length_cons, List.length_nil, List.length_append, List.length_map]); omega))
local macro_rules | `(tactic| walk_at "side") => `(tactic| first
  | assumption
  | ((with_reducible refine cdw ?_ ?_) <;> omega)
  | omega
  | (exact ⟨by omega, by omega⟩)
  | (exact Or.inl ⟨by omega, by omega⟩)
  | (exact Or.inr ⟨by omega, by omega⟩)
  | decide
  | (simp only [List.length_cons, List.length_nil, List.length_append, List.length_map]; omega)
  | (show _ ≤ _; decide))
local macro_rules | `(tactic| walk_at "as") => `(tactic| with_reducible assumption)
local macro_rules | `(tactic| walk_at "tr") => `(tactic| first
  | with_reducible assumption
  | with_reducible exact upd_same
  | ((with_reducible refine' SqL.of ?hh); (case hh => walk_at "as"))
  | ((with_reducible refine' SqT.of ?hh); (case hh => walk_at "as"))
  | ((with_reducible refine' Same.stm ?ee ?gg); (case ee => walk_at "as"); (case gg => walk_at "tr"))
  | ((with_reducible refine' Same.sqT ?ee ?gg); (case ee => walk_at "as"); (case gg => walk_at "tr"))
  | ((with_reducible refine' Same.sqL ?ee ?gg); (case ee => walk_at "as"); (case gg => walk_at "tr"))
  | ((with_reducible refine' Same.at ?ee ?gg); (case ee => walk_at "as"); (case gg => walk_at "tr"))
  | ((with_reducible refine' But.stm ?ee ?ff ?gg); (case ee => walk_at "as"); (case ff => walk_at "ne"); (case gg => walk_at "tr"))
  | ((with_reducible refine' But.tup ?ee ?ff ?gg); (case ee => walk_at "as"); (case ff => walk_at "tr1"); (case gg => walk_at "tr"))
  | ((with_reducible refine' But.sqT ?ee ?ff ?gg); (case ee => walk_at "as"); (case ff => walk_at "tr1"); (case gg => walk_at "tr"))
  | ((with_reducible refine' But.tupL ?ee ?ff ?gg); (case ee => walk_at "as"); (case ff => walk_at "tr1"); (case gg => walk_at "tr"))
  | ((with_reducible refine' But.sqTL ?ee ?ff ?gg); (case ee => walk_at "as"); (case ff => walk_at "tr1"); (case gg => walk_at "tr"))
  | ((with_reducible refine' But.sqL ?ee ?ff ?gg); (case ee => walk_at "as"); (case ff => walk_at "ne"); (case gg => walk_at "tr"))
  | ((with_reducible refine' But.at ?ee ?ff ?gg); (case ee => walk_at "as"); (case ff => walk_at "ne"); (case gg => walk_at "tr")))
local macro_rules | `(tactic| walk_at "ts") => `(tactic| first
  | with_reducible assumption
  | with_reducible exact TS.refl _
  | ((with_reducible refine' TS.trans ?gg (TS.of ?ee)); (case ee => walk_at "as"); (case gg => walk_at "ts"))
  | ((with_reducible refine' TS.trans ?gg (TS.butS ?ee ?ff)); (case ee => walk_at "as"); (case ff => walk_at "tr1"); (case gg => walk_at "ts"))
  | ((with_reducible refine' TS.trans ?gg (TS.butL ?ee ?ff)); (case ee => walk_at "as"); (case ff => walk_at "tr1"); (case gg => walk_at "ts"))
  | ((with_reducible refine' TS.trans ?gg (TS.butI ?ee ?ff)); (case ee => walk_at "as"); (case ff => walk_at "tr1"); (case gg => walk_at "ts")))
local macro_rules | `(tactic| walk_at "sm") => `(tactic| first
  | with_reducible assumption
  | with_reducible exact Same.refl _
  | ((with_reducible refine' Same.trans ?gg ?ee); (case ee => walk_at "as"); (case gg => walk_at "sm"))
  | ((with_reducible refine' But.new ?gg ?nn ?ee); (case ee => walk_at "as"); (case nn => walk_at "fr"); (case gg => walk_at "sm")))
local macro_rules | `(tactic| walk_at "fr") => `(tactic| first
  | with_reducible assumption
  | ((with_reducible refine' Same.back ?ee ?nn); (case nn => walk_at "as"); (case ee => walk_at "sm"))
  | ((with_reducible refine' But.back ?ee ?ff ?nn); (case nn => walk_at "as"); (case ff => walk_at "ne0"); (case ee => walk_at "bu")))
local macro_rules | `(tactic| walk_at "bu") => `(tactic| first
  | with_reducible assumption
  | with_reducible exact But.refl _ _
  | ((with_reducible refine' But.trans ?gg ?ee); (case ee => walk_at "as"); (case gg => walk_at "bu"))
  | ((with_reducible refine' But.trans ?gg (But.of ?ee)); (case ee => walk_at "as"); (case gg => walk_at "bu"))
  | ((with_reducible refine' But.new2 ?gg ?nn ?ee); (case ee => walk_at "as"); (case nn => walk_at "frB"); (case gg => walk_at "bu")))
local macro_rules | `(tactic| walk_at "frB") => `(tactic| first
  | with_reducible assumption
  | ((with_reducible refine' Same.back ?ee ?nn); (case nn => walk_at "as"); (case ee => walk_at "sm"))
  | ((with_reducible refine' But.back' ?ee ?ff ?nn); (case nn => walk_at "as"); (case ee => walk_at "bu"); (case ff => walk_at "tr1")))
local macro_rules | `(tactic| walk_at "tr1") => `(tactic| first
  | with_reducible assumption
  | ((with_reducible refine' Same.stm ?ee ?gg); (case ee => walk_at "as"); (case gg => walk_at "tr1"))
  | ((with_reducible refine' Same.at ?ee ?gg); (case ee => walk_at "as"); (case gg => walk_at "tr1"))
  | ((with_reducible refine' But.at ?ee ?ff ?gg); (case ee => walk_at "as"); (case ff => walk_at "ne0"); (case gg => walk_at "tr1"))
  | ((with_reducible refine' But.stm ?ee ?ff ?gg); (case ee => walk_at "as"); (case ff => walk_at "ne0"); (case gg => walk_at "tr1")))
local macro_rules | `(tactic| walk_at "ne0") => `(tactic| first
  | with_reducible assumption
  | (with_reducible apply Ne.symm; with_reducible assumption))
local macro_rules | `(tactic| walk_at "ne") => `(tactic| first
  | with_reducible assumption
  | (with_reducible apply Ne.symm; with_reducible assumption)
  | ((with_reducible refine' stm_ne ?hh ?nn); (case nn => walk_at "as"); (case hh => walk_at "tr1"))
  | ((with_reducible refine' ne_of_none ?hh ?nn); (case nn => walk_at "as"); (case hh => walk_at "tr1"))
  | ((with_reducible apply Ne.symm); (with_reducible refine' ne_of_none ?hh ?nn); (case nn => walk_at "as"); (case hh => walk_at "tr1")))
local macro_rules | `(tactic| walk_at "v") => `(tactic| first
  | with_reducible refine w_seq ?_
  | ((with_reducible refine' w_var ?vv ?_); (case vv => exact rfl))
  | with_reducible refine w_c ?_
  | with_reducible refine w_op ?_
  | with_reducible refine w_asg ?_
  | with_reducible refine w_gName ?_
  | with_reducible refine w_ret ?_
  | with_reducible refine w_ifS ?_
  | with_reducible refine w_drop ?_
  | with_reducible refine w_next ?_
  | with_reducible refine w_cons ?_
  | with_reducible refine w_nil ?_
  | with_reducible refine w_call ?_
  | with_reducible refine w_cb ?_
  | with_reducible refine w_rI0 ?_
  | with_reducible refine w_addI ?_
  | with_reducible refine w_eqI ?_
  | with_reducible refine w_neI ?_
  | with_reducible refine w_eqS ?_
  | with_reducible refine w_neS ?_
  | with_reducible refine w_eqB ?_
  | with_reducible refine w_neB ?_
  | with_reducible refine w_chain ?_
  | with_reducible refine w_test ?_
  | with_reducible refine w_tB ?_
  | with_reducible refine w_bl ?_
  | ((with_reducible refine' w_mulI ?vv ?_); (case vv => walk_at "side"))
  | ((with_reducible refine' w_rI ?vv ?_); (case vv => walk_at "side"))
  | with_reducible refine w_int1 ?_
  | with_reducible refine w_int1b ?_
  | with_reducible refine w_tup ?_
  | with_reducible refine w_lst ?_
  | with_reducible refine w_un ?_
  | with_reducible refine w_rU ?_
  | with_reducible refine w_not ?_
  | with_reducible refine w_notV ?_
  | with_reducible refine w_ifE ?_
  | with_reducible refine w_nT ?_
  | with_reducible refine w_nF ?_
  | with_reducible refine iteT ?_
  | with_reducible refine iteF ?_
  | ((with_reducible refine' w_ixT ?vv ?ww ?_); (case vv => walk_at "tr"); (case ww => walk_at "ix"))
  | ((with_reducible refine' w_ixL ?vv ?ww ?_); (case vv => walk_at "tr"); (case ww => walk_at "ix"))
  | with_reducible refine w_gSub ?_
  | ((with_reducible refine' w_setL ?vv ?ww ?_); (case vv => walk_at "tr"); (case ww => first | rfl | decide | assumption))
  | ((with_reducible refine' w_lenL ?vv ?_); (case vv => walk_at "tr"))
  | ((with_reducible refine' w_lenT ?vv ?_); (case vv => walk_at "tr"))
  | with_reducible refine w_max2 ?_
  | with_reducible refine w_max3 ?_
  | with_reducible refine w_din ?_
  | with_reducible refine w_dnotin ?_
  | with_reducible refine w_dput ?_
  | with_reducible refine w_min2 ?_
  | with_reducible refine w_bm ?_
  | with_reducible refine w_bm0 ?_
  | ((with_reducible refine' w_tyL ?vv ?_); (case vv => walk_at "tr"))
  | ((with_reducible refine' w_append ?vv ?ww ?_); (case vv => walk_at "tr"); (case ww => walk_at "size"))
  | ((with_reducible refine' w_size ?vv ?_); (case vv => walk_at "size"))
  | with_reducible refine w_forL ?_
  | with_reducible refine w_forT ?_
  | with_reducible refine w_forR1 ?_
  | with_reducible refine w_forR2 ?_
  | with_reducible refine w_lcL ?_
  | with_reducible refine w_lcT ?_
  | with_reducible refine w_lcR1 ?_
  | with_reducible refine w_yes ?_
  | with_reducible refine w_sl ?_
  | with_reducible refine w_noPart ?_
  | with_reducible refine w_part ?_
  | with_reducible refine w_int ?_
  | ((with_reducible refine' w_slL ?vv ?_); (case vv => walk_at "tr"))
  | ((with_reducible refine' w_seqL ?vv ?ww ?_); (case vv => walk_at "tr"); (case ww => rfl))
  | ((with_reducible refine' w_seqT ?vv ?ww ?_); (case vv => walk_at "tr"); (case ww => rfl))
  | with_reducible refine w_gNil ?_
  | with_reducible refine w_gCons ?_
  | with_reducible refine w_forZ ?_
  | with_reducible refine w_forM ?_
  | with_reducible refine w_forE ?_
  | with_reducible refine w_forV ?_
  | with_reducible refine w_lcZ ?_
  | with_reducible refine w_lcE ?_
  | ((with_reducible refine' w_isi (b := true) ?vv ?ww ?_); (case vv => walk_at "ty"); (case ww => decide +kernel))
  | ((with_reducible refine' w_isi (b := false) ?vv ?ww ?_); (case vv => walk_at "ty"); (case ww => decide +kernel))
  | with_reducible refine w_revL ?_
  | with_reducible refine w_pairN ?_
  | with_reducible refine w_pairC ?_
  | with_reducible refine w_dget ?_
  | with_reducible refine w_met ?_
  | ((with_reducible refine' w_metAt ?vv ?ww ?_); (case vv => walk_at "tr"); (case ww => rfl))
  | with_reducible refine w_mkI ?_
  | with_reducible refine w_fld ?_
  | ((with_reducible refine' w_fldAt ?vv ?cc ?nn ?ww ?_); (case vv => walk_at "tr"); (case cc => walk_at "cls"); (case nn => walk_at "na"); (case ww => rfl))
  | with_reducible refine w_sfld ?_
  | ((with_reducible refine' w_sfldAt ?vv ?cc ?nn ?ll ?ee ?_); (case vv => walk_at "tr"); (case cc => walk_at "cls"); (case nn => walk_at "na"); (case ll => simp); (case ee => rfl))
  | ((with_reducible refine' w_tupL ?vv ?_); (case vv => walk_at "tr"))
  | ((with_reducible refine' w_tupT ?vv ?_); (case vv => walk_at "tr"))
  | ((with_reducible refine' w_listL ?vv ?_); (case vv => walk_at "tr"))
  | ((with_reducible refine' w_listT ?vv ?_); (case vv => walk_at "tr"))
  | with_reducible refine w_tyS ?_
  | with_reducible refine w_retN ?_
  | with_reducible refine w_break ?_
  | with_reducible refine w_cont ?_)
local macro_rules | `(tactic| walk_at "w") => `(tactic| first
  | walk_at "v"
  | with_reducible refine w_or ?_
  | with_reducible refine w_and ?_
  | with_reducible refine w_andV ?_
  | with_reducible refine w_orV ?_)
local macro_rules | `(tactic| walk_at "wd") => `(tactic| first
  | walk_at "w"
  | ((with_reducible refine' w_decT ?vv ?_); (case vv => decide +kernel))
  | ((with_reducible refine' w_decF ?vv ?_); (case vv => decide +kernel)))
local macro_rules | `(tactic| walk_at "tz") => `(tactic| (intro S z; (repeat walk_at "w"); exact z))
local macro_rules | `(tactic| walk_at "wf") => `(tactic| first
  | walk_at "wd"
  | ((with_reducible refine' w_decF ?vv ?_); (case vv => with_reducible assumption)))
/-! ### the law's own needs -/
theorem lc_enum {K : PySem.W.Frag} {σ : L2.St} {H : Hp} {a : Addr} {xs : List V} {te : TE} {tt : TT} {Q : VK} {i0 j0 : Nat} (hij : i0 ≠ j0) (Pv : Addr → Nat → List V → Hp → Prop) (hx : SqL K H a xs) (h0 : ∀ D H', H D = none → Same H H' → H' D = some (.lst []) → Pv D 0 [] H')
    (hG : ∀ D, H D = none → ∀ i zs H', i ≤ xs.length → H' D = some (.lst zs) → Pv D i zs H' → SqL K H' a xs)
    (hs : ∀ D, H D = none → ∀ (i : Nat) x zs H0 H', xs[i]? = some x → zs.length ≤ i → H0 D = some (.lst zs) → Pv D i zs H0 → Same H0 H' → tt (((wipe σ [i0, j0]).set i0 (some (.int (i : Nat)))).set j0 (some x)) H' fun b H3 => if b = true then te (((wipe σ [i0, j0]).set i0 (some (.int (i : Nat)))).set j0 (some x)) H3 fun y H4 => LcEnd D (Pv D) i y H4 else LcSkip D (Pv D) i H3)
    (hd : ∀ D, H D = none → ∀ zs H', zs.length ≤ xs.length → H' D = some (.lst zs) → Pv D xs.length zs H' → Q (.ref D) H') :
    ∃ p us, [V.ref a] = [.ref p] ∧ SqL K H p us ∧ ∀ D, H D = none → WLc (Ite K p) (gSeq K 2 (gCons (gName i0) (gCons (gName j0) gNil))) tt te [i0, j0] σ D H Q :=
  ⟨a, xs, rfl, hx, wlc_it walk_enum Pv h0 hG (fun D hD i v zs H0 H' hi hl e p ⟨T, x, y, ev, nT, e2, h1, h2⟩ => by
    subst ev e2
    obtain rfl : V.int (i : Nat) = x := Option.some.inj h1
    exact w_seqT (SqT.of upd_same) rfl (w_gCons (w_gName (w_gCons (w_gName (w_gNil ⟨wipe2 _ _ _ _ _ hij, hs D hD i y zs H0 _ h2 hl e p (Same.one nT)⟩)))))) hd⟩
theorem need_le : ∀ e : Exp, e.need ≤ e.cnt
  | .num _ | .fld _ | .plc _ _ | .mrk _ _ => by simp [Exp.need, Exp.cnt]
  | .cell a => by have := need_le a; simp only [Exp.need, Exp.cnt]; omega
  | .two _ a b => by
    have := need_le a
    have := need_le b
    simp only [Exp.need, Exp.cnt]
    split <;> omega
theorem offs_fst1 : ∀ (es : List Exp) (b : Int), (offs es b).map Prod.fst = es
  | [], _ => rfl
  | e :: es, b => by rw [offs, List.map_cons, offs_fst1 es]
theorem topN_up (L : List ((Exp × Int) × Nat)) : ∀ (n j : Nat) p, j < n → L[j]? = some p → (j : Int) + (p.1.1.need : Nat) ≤ topN L n
  | 0, j, p, h, _ => by omega
  | n + 1, j, p, h, e => by
    rw [topN]
    by_cases z : j = n
    · subst z
      have : needAt L j = (p.1.1.need : Nat) := by unfold needAt; rw [e]
      omega
    · have := topN_up L n j p (by omega) e
      omega
def posN (es : List Exp) : List Int := (es.map fun e => ((e.need : Nat) : Int)).filter fun n => decide (n > 0)
theorem posN_pos (es : List Exp) (b : Int) : (pos es b).map (fun p => ((p.1.need : Nat) : Int)) = posN es := by
  unfold posN pos
  conv => rhs; rw [← offs_fst1 es b]
  rw [List.map_map, List.filter_map]
  congr 1
  refine List.filter_congr fun p _ => ?_
  show decide _ = decide _
  rw [decide_eq_decide]
  show (0 : Nat) < p.1.need ↔ ((p.1.need : Nat) : Int) > 0
  omega
theorem Srt.needs {ss : List SetE} {L : List ((Exp × Int) × Nat)} {xs : List Int} (h : Srt ss L) (hp : xs.Perm (posN (restsL ss))) (hw : xs.Pairwise (· ≤ ·)) : L.map (fun p => ((p.1.1.need : Nat) : Int)) = xs.reverse := by
  have h1 : (L.map fun p => ((p.1.1.need : Nat) : Int)).Perm (posN (restsL ss)) := by
    have := h.perm.map fun p => ((p.1.1.need : Nat) : Int)
    rw [← posN_pos _ 0]
    have e : ((pos (restsL ss) 0).zipIdx.map fun p => ((p.1.1.need : Nat) : Int)) = (pos (restsL ss) 0).map (fun p => ((p.1.need : Nat) : Int)) := by
      conv => rhs; rw [← List.zipIdx_map_fst 0 (pos (restsL ss) 0)]
      rw [List.map_map]; rfl
    rw [e] at this
    exact this
  refine sorted_uniq (R := fun a b : Int => b ≤ a) (h1.trans (hp.symm.trans (List.reverse_perm xs).symm)) (List.pairwise_map.mpr (h.pw.imp fun {a b} z => ?_)) (List.pairwise_reverse.mpr hw) fun a _ b _ h1 h2 => by omega
  unfold entI lexI at z
  by_cases g : (0 - ((b.1.1.need : Nat) : Int)) = 0 - ((a.1.1.need : Nat) : Int)
  · omega
  · rw [if_neg g, decide_eq_false_iff_not] at z
    omega
theorem Srt.top {ss : List SetE} {L : List ((Exp × Int) × Nat)} {xs : List Int} {m : Int} (h : Srt ss L) (e : L.map (fun p => ((p.1.1.need : Nat) : Int)) = xs) (hm : m = 0 ∨ ∃ (k : Nat) (x : Int), xs[k]? = some x ∧ m = x + k) (h0 : 0 ≤ m) (hy : ∀ (k : Nat) (x : Int), xs[k]? = some x → x + k ≤ m) : topN L L.length = m := by
  have ge := topN_ge0 L L.length
  have a : topN L L.length ≤ m := by
    rcases topN_att L L.length (Nat.le_refl _) with z | ⟨j, p, hj, hp, z⟩
    · omega
    · have := hy j ((p.1.1.need : Nat) : Int) (by rw [← e, List.getElem?_map, hp]; rfl)
      omega
  have b : m ≤ topN L L.length := by
    rcases hm with z | ⟨k, x, hx, z⟩
    · omega
    · rw [← e, List.getElem?_map] at hx
      obtain ⟨p, hp, hpx⟩ := Option.map_eq_some_iff.mp hx
      have := topN_up L L.length k p (List.getElem?_eq_some_iff.mp hp).1 hp
      omega
  omega
def addK (l : List Int) : List Int := l.zipIdx.map fun p => p.1 + (p.2 : Nat)
theorem addK_snoc (l : List Int) (x : Int) : addK (l ++ [x]) = addK l ++ [x + (l.length : Nat)] := by
  unfold addK; rw [List.zipIdx_append, List.map_append]; simp
theorem addK_len (l : List Int) : (addK l).length = l.length := by unfold addK; simp
theorem addK_mem {l : List Int} {k : Nat} {x : Int} (h : l[k]? = some x) : x + k ∈ addK l := by
  unfold addK
  exact List.mem_map.mpr ⟨(x, k), List.mem_zipIdx_iff_getElem?.mpr h, rfl⟩
theorem addK_ex {l : List Int} {m : Int} (h : m ∈ addK l) : ∃ (k : Nat) (x : Int), l[k]? = some x ∧ m = x + k := by
  unfold addK at h
  obtain ⟨p, hp, rfl⟩ := List.mem_map.mp h
  exact ⟨p.2, p.1, List.mem_zipIdx_iff_getElem?.mp hp, rfl⟩
def spLNeed (K : PySem.W.Frag) (n : Nat) : Sp := fun vs H Q _ => ∃ v e, vs = [v] ∧ Dp K H v (Exp.d e) ∧ OkE n e ∧ ∀ H', Same H H' → Q (.int (e.need : Nat)) H'
theorem len_law_need {K : PySem.W.Frag} {n : Nat} {vs H Q E} (h : spLNeed K n vs H Q E) : vs.length = 1 := by obtain ⟨_, _, rfl, _⟩ := h; rfl
theorem no_law_need {K : PySem.W.Frag} {vs H Q E} (h : spLNeed K 0 vs H Q E) : False := by obtain ⟨_, _, _, _, h, _⟩ := h; exact okE_0 h
def spTrees (K : PySem.W.Frag) : Sp := fun vs H Q _ => ∃ v ss, vs = [v] ∧ Dp K H v (setsD ss) ∧ ss.length ≤ 4 ∧ (∀ x ∈ ss, OkS 4 x) ∧ ∀ p us H', H' p = some (.lst us) → DpAll K H' us ((restsL ss).map Exp.d) → Same H H' → H p = none → Q (.ref p) H'
theorem len_law_trees {K : PySem.W.Frag} {vs H Q E} (h : spTrees K vs H Q E) : vs.length = 1 := by obtain ⟨_, _, rfl, _⟩ := h; rfl
def spLNeeds (K : PySem.W.Frag) : Sp := fun vs H Q _ => ∃ v ss, vs = [v] ∧ Dp K H v (setsD ss) ∧ ss.length ≤ 4 ∧ (∀ x ∈ ss, OkS 4 x) ∧ ∀ (m : Int) H', 0 ≤ m → m ≤ 100 → (∀ L, Srt ss L → topN L L.length = m) → Same H H' → Q (.int m) H'
theorem len_law_needs {K : PySem.W.Frag} {vs H Q E} (h : spLNeeds K vs H Q E) : vs.length = 1 := by obtain ⟨_, _, rfl, _⟩ := h; rfl
theorem restsL_len : ∀ {ss : List SetE}, ss.length ≤ 4 → (restsL ss).length ≤ 8 := by
  have key : ∀ ss : List SetE, (restsL ss).length ≤ 2 * ss.length := fun ss => by
    induction ss with
    | nil => exact Nat.le_refl _
    | cons s ss ih =>
      have e : restsL (s :: ss) = s.rests ++ restsL ss := List.flatMap_cons
      have : s.rests.length ≤ 2 := by cases s <;> simp [SetE.rests]
      rw [e, List.length_append, List.length_cons]; omega
  intro ss h
  have := key ss
  omega
section
variable {P : Program} {w : World} {K : PySem.W.Frag} {mg : Str → Option Value}
theorem in_two {a b s : Str} : inV (.str s) [.str a, .str b] = decide (s = a ∨ s = b) := by
  show ((a == s) || ((b == s) || false)) = _
  rw [Bool.or_false, Bool.eq_iff_iff, Bool.or_eq_true, beq_iff_eq, beq_iff_eq, decide_eq_true_eq]
  constructor
  · rintro (g | g)
    · exact .inl g.symm
    · exact .inr g.symm
  · rintro (g | g)
    · exact .inl g.symm
    · exact .inr g.symm
theorem ok_law_need [c : Facts K mg] : ∀ n : Nat, Fn P w K mg "_law_need" (n + 1) ["e"] ((spLNeed K n))
  | 0 => by
    obtain ⟨fd, F⟩ := c.d_law_need
    exact Fn.mk' (k := 0) F c.g_law_need sc_law_need (fun vs H Q E h => (no_law_need h).elim) (fun _ _ _ _ _ _ us hl => match us, hl with | [_], _ => rfl) (fun base cdv A outer s H vs Q E hr h => (no_law_need h).elim)
  | n + 1 => by
    have G__law_need := ok_law_need n
    obtain ⟨fd, F⟩ := c.d_law_need
    refine Fn.mk' F c.g_law_need sc_law_need (k := n + 1) (fun vs H Q E h => ?_) (fun _ _ _ _ _ _ us hl => match us, hl with | [_], _ => rfl) (fun base cdv A outer s H vs Q E hr h => ?_)
    · exact len_law_need h
    · have nd := sc_law_need.nd
      have hu := hu_of hr
      have hr__law_need : Room (n + 1) _ := hr.mono (by omega)
      refine ⟨_, (pss_cons (ps_if (pt_cmpR (op_inA (K := K) rfl) (pe_ix (ix_any (K := K) rfl) (pv 0) pe_int (fun _ _ => rfl)) (pe_lst (pa_cons pe_str (pa_cons pe_str pa_nil))) (by rfl)) (pss_one (ps_ret pe_int)) pss_nil)
      (pss_cons (ps_if (pt_cmpR (op_inA (K := K) rfl) (pe_ix (ix_any (K := K) rfl) (pv 0) pe_int (fun _ _ => rfl)) (pe_lst (pa_cons pe_str (pa_cons pe_str pa_nil))) (by rfl)) (pss_one (ps_ret pe_int)) pss_nil)
      (pss_cons (ps_set (i := 1) nd rfl (Or.inl rfl) (pe_callB cr_sorted (by rfl) c.f_sorted boot_sorted (pa_cons (pe_lc (own := [("one", 2)]) rfl nd (pi_tup (pe_slice (sl_any (K := K) rfl) (pv 0) (po_some pe_int) po_none)) (blkOk_by (N := N_law_need) (sc := defScope s_law_need) (by decide +kernel)) (fun _ _ _ _ _ => (pg_name (i := 2) nd rfl (Or.inl rfl))) (fun _ _ _ _ _ => pts_nil) (fun _ _ _ _ _ => (pe_fn G__law_need hr__law_need (by rfl) (pa_cons (pv 2) pa_nil)))) pa_nil)))
      (pss_cons (ps_if (PW.pt (pw_and (pt_cmpR (op_eqA (K := K) rfl hr.units) (pe_callB (call_lenA (K := K) rfl) (by rfl) c.f_len boot_len (pa_cons (pv 1) pa_nil)) pe_int (nomark _)) (pw_and1 (pt_cmpR (op_eqA (K := K) rfl hr.units) (pe_ix (ix_any (K := K) rfl) (pv 1) pe_int (fun _ _ => rfl)) (pe_ix (ix_any (K := K) rfl) (pv 1) pe_int (fun _ _ => rfl)) (nomark _))))) (pss_one (ps_ret (pe_op (op_addA (K := K) rfl) (pe_ix (ix_any (K := K) rfl) (pv 1) pe_int (fun _ _ => rfl)) pe_int))) pss_nil)
      (pss_one (ps_ret (pe_callB (call_max2A rfl) (by rfl) c.f_max boot_max (pa_cons pe_int (pa_cons (pe_ix (ix_any (K := K) rfl) (pv 1) (pe_un un_neg pe_int) (fun _ _ => rfl)) pa_nil))))))))), ?_⟩
      try dsimp only [cxOf, Cx.nox, Cx.wish]
      obtain ⟨v, e, rfl, hv, oe, q⟩ := h
      cases e with
      | num j =>
        obtain ⟨p, u, rfl, hp, hu'⟩ := exp_1 hv
        repeat walk_at "w"
        refine w_new fun p0 H0 n0 s0 f0 => ?_
        refine w_inL (SqL.of f0) rfl rfl ?_
        rw [in_two, decide_eq_true (by decide +kernel)]
        repeat walk_at "w"
        exact q H0 s0
      | fld j =>
        obtain ⟨p, u, rfl, hp, hu'⟩ := exp_1 hv
        repeat walk_at "w"
        refine w_new fun p0 H0 n0 s0 f0 => ?_
        refine w_inL (SqL.of f0) rfl rfl ?_
        rw [in_two, decide_eq_true (by decide +kernel)]
        repeat walk_at "w"
        exact q H0 s0
      | plc k j =>
        obtain ⟨p, u, rfl, hp, hu'⟩ := exp_1 hv
        repeat walk_at "w"
        refine w_new fun p0 H0 n0 s0 f0 => ?_
        refine w_inL (SqL.of f0) rfl rfl ?_
        rw [in_two, decide_eq_false (by decide +kernel)]
        have hp0 := s0.sqT hp
        repeat walk_at "w"
        refine w_new fun p1 H1 n1 s1 f1 => ?_
        refine w_inL (SqL.of f1) rfl rfl ?_
        rw [in_two, decide_eq_true (by decide +kernel)]
        repeat walk_at "w"
        exact q H1 (s0.trans s1)
      | mrk k j =>
        obtain ⟨p, u, rfl, hp, hu'⟩ := exp_1 hv
        repeat walk_at "w"
        refine w_new fun p0 H0 n0 s0 f0 => ?_
        refine w_inL (SqL.of f0) rfl rfl ?_
        rw [in_two, decide_eq_false (by decide +kernel)]
        have hp0 := s0.sqT hp
        repeat walk_at "w"
        refine w_new fun p1 H1 n1 s1 f1 => ?_
        refine w_inL (SqL.of f1) rfl rfl ?_
        rw [in_two, decide_eq_true (by decide +kernel)]
        repeat walk_at "w"
        exact q H1 (s0.trans s1)
      | cell a =>
        obtain ⟨p, u, rfl, hp, hu'⟩ := exp_1 hv
        repeat walk_at "w"
        refine w_new fun p0 H0 n0 s0 f0 => ?_
        refine w_inL (SqL.of f0) rfl rfl ?_
        rw [in_two, decide_eq_false (by decide +kernel)]
        have hp0 := s0.sqT hp
        repeat walk_at "w"
        refine w_new fun p1 H1 n1 s1 f1 => ?_
        refine w_inL (SqL.of f1) rfl rfl ?_
        rw [in_two, decide_eq_false (by decide +kernel)]
        have hp1 := s1.sqT hp0
        repeat walk_at "w"
        refine w_slT1 (σ := []) hp1 ?_
        refine w_new fun p2 H2 n2 s2 f2 => ?_
        have hu2 := dp_ts (TS.of (s0.trans (s1.trans s2))) _ _ a.tup hu'
        refine lc_T [u] (fun D i ys H' => Same H2 H' ∧ ys = ([V.int (a.need : Nat)]).take i) (SqT.of f2) (fun D H' hD e f => ⟨e, rfl⟩) (fun D hD i ys H' hi hy hp => SqT.of (hp.1 _ _ f2)) (fun D hD i x ys H' hx hll hy hp => ?_) (fun D hD ys H' hll hy hp => ?_)
        · obtain ⟨e2, rfl⟩ := hp
          match i, hx with
          | 0, hx =>
            cases Option.some.inj hx
            repeat walk_at "w"
            refine ⟨u, a, rfl, dp_ts (TS.of e2) _ _ a.tup hu2, okE_cell oe, fun H3 s3 => ?_⟩
            exact lc_end (s3 _ _ hy) hll (by rw [sizeLine_eq]; simp) fun H4 e4 f4 => ⟨But.new (e2.trans s3) hD e4, rfl⟩
          | i + 1, hx => simp at hx
        · obtain ⟨e2, rfl⟩ := hp
          repeat walk_at "w"
          refine ⟨D, [((a.need : Nat) : Int)], rfl, SqL.of hy, by simp, fun ns' p3 hpm hpw np => ?_⟩
          have e5 : ns' = [((a.need : Nat) : Int)] := List.perm_singleton.mp hpm
          subst e5
          have s4 := Same.one (o := .lst (([((a.need : Nat) : Int)]).map V.int)) np
          have f4 : (upd H' p3 (.lst (([((a.need : Nat) : Int)]).map V.int))) p3 = some (.lst [V.int (a.need : Nat)]) := upd_same
          generalize upd H' p3 (.lst (([((a.need : Nat) : Int)]).map V.int)) = H4 at s4 f4
          repeat walk_at "w"
          rw [decide_eq_false (show ¬ ((([V.int (a.need : Nat)].length : Nat) : Int) = 2) by simp)]
          repeat walk_at "w"
          refine w_ixL (v := .int (a.need : Nat)) (SqL.of f4) rfl ?_
          repeat walk_at "w"
          rw [show max (1 : Int) (a.need : Nat) = (((Exp.cell a).need : Nat) : Int) by simp only [Exp.need]; omega]
          exact q H4 (s0.trans (s1.trans (s2.trans (e2.trans s4))))
      | two o a b =>
        obtain ⟨p, u, u2, rfl, hp, hu', hu2'⟩ := exp_2 hv
        obtain ⟨oo, oa, ob⟩ := okE_two oe
        obtain ⟨n1, n2, n3, n4, n5⟩ := oo.ne
        repeat walk_at "w"
        refine w_new fun p0 H0 n0 s0 f0 => ?_
        refine w_inL (SqL.of f0) rfl rfl ?_
        rw [in_two, decide_eq_false (by simp [n1, n2])]
        have hp0 := s0.sqT hp
        repeat walk_at "w"
        refine w_new fun p1 H1 n1 s1 f1 => ?_
        refine w_inL (SqL.of f1) rfl rfl ?_
        rw [in_two, decide_eq_false (by simp [n3, n4])]
        have hp1 := s1.sqT hp0
        repeat walk_at "w"
        refine w_slT1 (σ := []) hp1 ?_
        refine w_new fun p2 H2 n2 s2 f2 => ?_
        have s02 := s0.trans (s1.trans s2)
        have hu2 := dp_ts (TS.of s02) _ _ a.tup hu'
        have hu3 := dp_ts (TS.of s02) _ _ b.tup hu2'
        refine lc_T [u, u2] (fun D i ys H' => Same H2 H' ∧ ys = ([V.int (a.need : Nat), V.int (b.need : Nat)]).take i) (SqT.of f2) (fun D H' hD e f => ⟨e, rfl⟩) (fun D hD i ys H' hi hy hp => SqT.of (hp.1 _ _ f2)) (fun D hD i x ys H' hx hll hy hp => ?_) (fun D hD ys H' hll hy hp => ?_)
        · obtain ⟨e2, rfl⟩ := hp
          match i, hx with
          | 0, hx =>
            cases Option.some.inj hx
            repeat walk_at "w"
            refine ⟨u, a, rfl, dp_ts (TS.of e2) _ _ a.tup hu2, oa, fun H3 s3 => ?_⟩
            exact lc_end (s3 _ _ hy) hll (by rw [sizeLine_eq]; simp) fun H4 e4 f4 => ⟨But.new (e2.trans s3) hD e4, rfl⟩
          | 1, hx =>
            cases Option.some.inj hx
            repeat walk_at "w"
            refine ⟨u2, b, rfl, dp_ts (TS.of e2) _ _ b.tup hu3, ob, fun H3 s3 => ?_⟩
            exact lc_end (s3 _ _ hy) hll (by rw [sizeLine_eq]; simp) fun H4 e4 f4 => ⟨But.new (e2.trans s3) hD e4, rfl⟩
          | i + 2, hx => simp at hx
        · obtain ⟨e2, rfl⟩ := hp
          repeat walk_at "w"
          refine ⟨D, [((a.need : Nat) : Int), ((b.need : Nat) : Int)], rfl, SqL.of hy, by simp, fun ns' p3 hpm hpw np => ?_⟩
          obtain ⟨x, y, rfl, hxy⟩ : ∃ x y : Int, ns' = [x, y] ∧ x ≤ y ∧ ((x = (a.need : Nat) ∧ y = (b.need : Nat)) ∨ (x = (b.need : Nat) ∧ y = (a.need : Nat))) := by
            have hl := hpm.length_eq
            match ns', hl with
            | [x, y], _ =>
              refine ⟨x, y, rfl, (List.pairwise_cons.mp hpw).1 y List.mem_cons_self, ?_⟩
              have hx := hpm.mem_iff.mp (List.mem_cons_self (a := x) (l := [y]))
              rcases List.mem_cons.mp hx with hx | hx
              · subst hx
                have := List.perm_singleton.mp ((List.perm_cons _).mp hpm)
                exact .inl ⟨rfl, by simpa using this⟩
              · have hx := List.mem_singleton.mp hx
                subst hx
                have := List.perm_singleton.mp ((List.perm_cons _).mp (hpm.trans (List.Perm.swap _ _ _)))
                exact .inr ⟨rfl, by simpa using this⟩
          have s4 := Same.one (o := .lst (([x, y]).map V.int)) np
          have f4 : (upd H' p3 (.lst (([x, y]).map V.int))) p3 = some (.lst [V.int x, V.int y]) := upd_same
          generalize upd H' p3 (.lst (([x, y]).map V.int)) = H4 at s4 f4
          have sH := s02.trans (e2.trans s4)
          repeat walk_at "v"
          refine w_andP ((([V.int x, V.int y].length : Nat) : Int) = 2) (x = y) (by walk_at "tz") (by walk_at "tz") (fun c hc => ?_)
          refine ite2 (fun h1 => ?_) (fun h1 => ?_)
          · have g := (hc.mp h1).2
            repeat walk_at "w"
            rw [show x + 1 = (((Exp.two o a b).need : Nat) : Int) by simp only [Exp.need]; split <;> omega]
            exact q H4 sH
          · have g : ¬ (x = y) := fun z => h1 (hc.mpr ⟨rfl, z⟩)
            repeat walk_at "w"
            refine w_ixL (v := .int y) (SqL.of f4) rfl ?_
            repeat walk_at "w"
            rw [show max (1 : Int) y = (((Exp.two o a b).need : Nat) : Int) by simp only [Exp.need]; rw [if_neg (by omega)]; omega]
            exact q H4 sH
theorem ok_law_trees [c : Facts K mg] : Fn P w K mg "_law_trees" 1 ["sets"] ((spTrees K)) := by
  obtain ⟨fd, F⟩ := c.d_law_trees
  refine Fn.mk' F c.g_law_trees sc_law_trees (k := 0) (fun vs H Q E h => ?_) (fun _ _ _ _ _ _ us hl => match us, hl with | [_], _ => rfl) (fun base cdv A outer s H vs Q E hr h => ?_)
  · exact len_law_trees h
  · have nd := sc_law_trees.nd
    have hu := hu_of hr
    refine ⟨_, (pss_cons (ps_set (i := 1) nd rfl (Or.inl rfl) (pe_lst pa_nil))
      (pss_cons (ps_for PassesOwn.never rfl (pi_tup (pv 0)) (pg_name (i := 2) nd rfl (Or.inl rfl)) (pss_cons (ps_if (pt_cmpR (op_eqA (K := K) rfl hr.units) (pe_ix (ix_any (K := K) rfl) (pv 2) pe_int (fun _ _ => rfl)) pe_str (nomark _)) (pss_one (ps_expr (pe_bm PySem.F.plainAttrs_list PySem.F.slot_list_append PySem.F.type_list_append mt_append (pv 1) (pa_cons (pe_ix (ix_any (K := K) rfl) (pv 2) pe_int (fun _ _ => rfl)) pa_nil)))) pss_nil)
      (pss_one (ps_expr (pe_bm PySem.F.plainAttrs_list PySem.F.slot_list_append PySem.F.type_list_append mt_append (pv 1) (pa_cons (pe_ix (ix_any (K := K) rfl) (pv 2) pe_int (fun _ _ => rfl)) pa_nil))))))
      (pss_one (ps_ret (pv 1))))), ?_⟩
    try dsimp only [cxOf, Cx.nox, Cx.wish]
    obtain ⟨v, ss, rfl, hv, hl, ho, q⟩ := h
    obtain ⟨a, xs, rfl, ha, hxs⟩ := set_d hv
    have hxl : xs.length = ss.length := by rw [dpa_len hxs, List.length_map]
    repeat walk_at "w"
    refine w_new fun tr H1 n1 s1 f1 => ?_
    repeat walk_at "w"
    refine fl_tup xs (fun i σ H' => ∃ us o, σ = [some (.ref a), some (.ref tr), o] ∧ But tr H1 H' ∧ H' tr = some (.lst us) ∧ DpAll K H' us ((restsL (ss.take i)).map Exp.d) ∧ us.length ≤ 2 * i) (s1.sqT ha)
      ⟨[], _, rfl, But.refl _ _, f1, .nil, Nat.le_refl _⟩ (fun i σ H' hi hp => ?_) (fun i x σ H' hi hp => ?_) (fun σ H' hp => ?_)
    · obtain ⟨us, o, rfl, b, _⟩ := hp
      exact (TS.butL b f1).sqT (s1.sqT ha)
    · obtain ⟨us, o, rfl, b, htr, hus, hul⟩ := hp
      have hi' : i < ss.length := by have := (List.getElem?_eq_some_iff.mp hi).1; omega
      obtain ⟨s, hs⟩ : ∃ s, ss[i]? = some s := ⟨_, List.getElem?_eq_getElem hi'⟩
      have hx : Dp K H' x s.d := by
        obtain ⟨d, hd1, hd2⟩ := dpa_at' (dpAll_ts ((TS.of s1).trans (TS.butL b f1)) _ _ (setsD_tup ss) hxs) hi
        rw [List.getElem?_map, hs] at hd1
        cases Option.some.inj hd1
        exact hd2
      have er : restsL (ss.take (i + 1)) = restsL (ss.take i) ++ s.rests := by
        rw [take_snoc hs]; unfold restsL; rw [List.flatMap_append]; simp
      rw [er, List.map_append]
      cases s with
      | cell e1 e2 =>
        obtain ⟨p, u, u2, rfl, hp, hu', hu2⟩ := exp_2 hx
        repeat walk_at "wf"
        refine w_chg fun H2 b2 f2 => ?_
        have t2 : TS H' H2 := TS.butL b2 htr
        have hp2 := t2.sqT hp
        repeat walk_at "w"
        refine w_chg fun H3 b3 f3 => ?_
        have t3 : TS H2 H3 := TS.butL b3 f2
        refine ⟨us ++ [u] ++ [u2], _, rfl, b.trans (b2.trans b3), f3, ?_, by rw [List.length_append, List.length_append, List.length_singleton, List.length_singleton]; omega⟩
        rw [List.append_assoc]
        exact dpa_app (dpAll_ts (t2.trans t3) _ _ (exps_tup _) hus) (.cons (dp_ts (t2.trans t3) _ _ e1.tup hu') (.cons (dp_ts (t2.trans t3) _ _ e2.tup hu2) .nil))
      | sel m k j e1 =>
        obtain ⟨p, u, u2, rfl, hp, hu', hu2⟩ := exp_2 hx
        have nc : (if m then ("mark" : Str) else "place") ≠ "cell" := by cases m <;> decide +kernel
        repeat walk_at "wf"
        refine w_chg fun H2 b2 f2 => ?_
        have t2 : TS H' H2 := TS.butL b2 htr
        refine ⟨us ++ [u2], _, rfl, b.trans b2, f2, ?_, by rw [List.length_append, List.length_singleton]; omega⟩
        exact dpa_app (dpAll_ts t2 _ _ (exps_tup _) hus) (.cons (dp_ts t2 _ _ e1.tup hu2) .nil)
    · obtain ⟨us, o, rfl, b, htr, hus, hul⟩ := hp
      rw [hxl, List.take_length] at hus
      repeat walk_at "w"
      exact q tr us H' htr hus (But.new s1 n1 b) n1
theorem ok_law_needs [c : Facts K mg] (G__law_need : Fn P w K mg "_law_need" 5 ["e"] ((spLNeed K 4))) (G__law_trees : Fn P w K mg "_law_trees" 1 ["sets"] ((spTrees K))) : Fn P w K mg "_law_needs" 6 ["sets"] ((spLNeeds K)) := by
  obtain ⟨fd, F⟩ := c.d_law_needs
  refine Fn.mk' F c.g_law_needs sc_law_needs (k := 5) (fun vs H Q E h => ?_) (fun _ _ _ _ _ _ us hl => match us, hl with | [_], _ => rfl) (fun base cdv A outer s H vs Q E hr h => ?_)
  · exact len_law_needs h
  · have nd := sc_law_needs.nd
    have hu := hu_of hr
    have hr__law_need : Room 5 _ := hr.mono (by omega)
    have hr__law_trees : Room 1 _ := hr.mono (by omega)
    refine ⟨_, (pss_cons (ps_setLc (i := 1) (own := [("tree", 2)]) rfl nd rfl rfl (sw_true rfl rfl rfl (by decide +kernel)) (pi_list (pe_fn G__law_trees hr__law_trees (by rfl) (pa_cons (pv 0) pa_nil))) (blkOk_by (N := N_law_needs) (sc := defScope s_law_needs) (by decide +kernel)) (fun _ _ _ _ _ => (pg_name (i := 2) nd rfl (Or.inl rfl))) (fun _ _ _ _ _ => pts_nil) (fun _ _ _ _ _ => (pe_fn G__law_need hr__law_need (by rfl) (pa_cons (pv 2) pa_nil))))
      (pss_cons (ps_set (i := 1) nd rfl (Or.inl rfl) (pe_listRev (K := K) rfl rfl (by rfl) c.f_list (by rfl) c.f_reversed (pe_callB cr_sorted (by rfl) c.f_sorted boot_sorted (pa_cons (pe_lc (own := [("need", 3)]) rfl nd (pi_list (pv 1)) (blkOk_by (N := N_law_needs) (sc := defScope s_law_needs) (by decide +kernel)) (fun _ _ _ _ _ => (pg_name (i := 3) nd rfl (Or.inl rfl))) (fun _ _ _ _ _ => pts_one (pt_cmpR op_gt (pv 3) pe_int (nomark _))) (fun _ _ _ _ _ => (pv 3))) pa_nil))))
      (pss_one (ps_ret (pe_callB (call_maxL (K := K) rfl rfl) (by rfl) c.f_max boot_max (pa_cons (pe_op (op_addA (K := K) rfl) (pe_lst (pa_cons pe_int pa_nil)) (pe_lc (own := [("k", 4), ("need", 3)]) rfl nd (pi_enum (by rfl) c.f_enumerate (pa_cons (pv 1) pa_nil)) (blkOk_by (N := N_law_needs) (sc := defScope s_law_needs) (by decide +kernel)) (fun _ _ _ _ _ => (pg_seq 2 (K := K) rfl rfl (pgs_cons (pg_name (i := 4) nd rfl (Or.inl rfl)) (pgs_cons (pg_name (i := 3) nd rfl (Or.inl rfl)) pgs_nil)))) (fun _ _ _ _ _ => pts_nil) (fun _ _ _ _ _ => (pe_op (op_addA (K := K) rfl) (pv 3) (pv 4))))) pa_nil)))))), ?_⟩
    try dsimp only [cxOf, Cx.nox, Cx.wish]
    obtain ⟨v, ss, rfl, hv, hl, ho, q⟩ := h
    repeat walk_at "w"
    refine ⟨v, ss, rfl, hv, hl, ho, fun tp us H1 htp hus s1 n1 => ?_⟩
    have oke : ∀ e ∈ restsL ss, OkE 4 e := fun e he => by
      obtain ⟨s, hs, hse⟩ := List.mem_flatMap.mp he
      exact okS_rests (ho s hs) e hse
    have rl : (restsL ss).length ≤ 8 := restsL_len hl
    have hul : us.length = (restsL ss).length := by rw [dpa_len hus, List.length_map]
    refine lc_L us (fun D i ys H' => Same H1 H' ∧ ys = (((restsL ss).take i).map fun e : Exp => V.int (e.need : Nat))) (SqL.of htp) (fun D H' hD e f => ⟨e, rfl⟩) (fun D hD i ys H' hi hy hp => SqL.of (hp.1 _ _ htp)) (fun D hD i x ys H' hx hll hy hp => ?_) (fun D hD ys H' hll hy hp => ?_)
    · obtain ⟨e2, rfl⟩ := hp
      obtain ⟨d, hd1, hd2⟩ := dpa_at' (dpAll_ts (TS.of e2) _ _ (exps_tup _) hus) hx
      rw [List.getElem?_map] at hd1
      obtain ⟨e, he, rfl⟩ := Option.map_eq_some_iff.mp hd1
      have hil := (List.getElem?_eq_some_iff.mp he).1
      repeat walk_at "w"
      refine ⟨x, e, rfl, hd2, oke e (List.mem_of_getElem? he), fun H3 s3 => ?_⟩
      refine lc_end (s3 _ _ hy) hll (by rw [sizeLine_eq]; omega) fun H4 e4 f4 => ⟨But.new (e2.trans s3) hD e4, ?_⟩
      rw [take_snoc he, List.map_append]; rfl
    · obtain ⟨e2, rfl⟩ := hp
      rw [hul, List.take_length] at hy
      repeat walk_at "w"
      refine w_listRev ?_
      repeat walk_at "w"
      refine lc_L ((restsL ss).map fun e : Exp => V.int (e.need : Nat)) (fun D' i ys H2 => Same H' H2 ∧ ys = (posN ((restsL ss).take i)).map V.int) (SqL.of hy) (fun D H' hD e f => ⟨e, rfl⟩) (fun D' hD i ys H2 hi hy2 hp => SqL.of (hp.1 _ _ hy)) (fun D' hD' i x ys H2 hx hll2 hy2 hp => ?_) (fun D' hD' ys H2 hll2 hy2 hp => ?_)
      · obtain ⟨e3, rfl⟩ := hp
        rw [List.getElem?_map] at hx
        obtain ⟨e, he, rfl⟩ := Option.map_eq_some_iff.mp hx
        have hil := (List.getElem?_eq_some_iff.mp he).1
        have ep : posN ((restsL ss).take (i + 1)) = posN ((restsL ss).take i) ++ (if ((e.need : Nat) : Int) > 0 then [((e.need : Nat) : Int)] else []) := by
          unfold posN
          rw [take_snoc he, List.map_append, List.filter_append]
          congr 1
          by_cases z : ((e.need : Nat) : Int) > 0
          · rw [if_pos z]
            show List.filter _ [_] = _
            rw [List.filter_cons, if_pos (decide_eq_true z)]; rfl
          · rw [if_neg z]
            show List.filter _ [_] = _
            rw [List.filter_cons, if_neg (by rw [decide_eq_false z]; decide)]; rfl
        repeat walk_at "w"
        refine ite2 (fun h1 => ?_) (fun h1 => ?_)
        · rw [decide_eq_true_eq] at h1
          repeat walk_at "w"
          refine lc_end hy2 hll2 (by rw [sizeLine_eq]; omega) fun H4 e4 f4 => ⟨But.new e3 hD' e4, ?_⟩
          rw [ep, if_pos h1, List.map_append]; rfl
        · rw [decide_eq_true_eq] at h1
          refine lc_skip hy2 hll2 ⟨e3, ?_⟩
          rw [ep, if_neg h1, List.append_nil]
      · obtain ⟨e3, rfl⟩ := hp
        simp only [List.length_map, List.take_length] at hll2 hy2
        repeat walk_at "w"
        refine ⟨D', posN (restsL ss), rfl, SqL.of hy2, by omega, fun ns' p3 hpm hpw np => ?_⟩
        have s4 := Same.one (o := .lst (ns'.map V.int)) np
        have f4 : (upd H2 p3 (.lst (ns'.map V.int))) p3 = some (.lst (ns'.map V.int)) := upd_same
        generalize upd H2 p3 (.lst (ns'.map V.int)) = H4 at s4 f4
        refine ⟨p3, _, rfl, SqL.of f4, ?_⟩
        rw [← List.map_reverse]
        refine w_new fun nd H5 n5 s5 f5 => ?_
        repeat walk_at "w"
        refine w_new fun zp H6 n6 s6 f6 => ?_
        repeat walk_at "w"
        have sH : Same H H6 := s1.trans (e2.trans (e3.trans (s4.trans (s5.trans s6))))
        have hnl : ns'.length ≤ 8 := by rw [hpm.length_eq]; omega
        refine lc_enum (by decide) (fun D i zs H' => Same H6 H' ∧ zs = (addK (ns'.reverse.take i)).map V.int) (SqL.of (s6 _ _ f5)) (fun D H' hD e f => ⟨e, rfl⟩) (fun D hD i zs H' hi hy hp => SqL.of (hp.1 _ _ (s6 _ _ f5))) (fun D hD i x zs H7 H8 hx hll3 hy3 hp s8 => ?_) (fun D hD zs H7 hll3 hy3 hp => ?_)
        · obtain ⟨e7, rfl⟩ := hp
          rw [List.getElem?_map] at hx
          obtain ⟨x, hx', rfl⟩ := Option.map_eq_some_iff.mp hx
          have hil := (List.getElem?_eq_some_iff.mp hx').1
          rw [List.length_reverse] at hil
          repeat walk_at "w"
          refine lc_end (s8 _ _ hy3) hll3 (by rw [sizeLine_eq]; omega) fun H9 e9 f9 => ⟨But.new (e7.trans s8) hD e9, ?_⟩
          rw [take_snoc hx', addK_snoc, List.map_append, List.length_take, List.length_reverse, Nat.min_eq_left (by omega)]; rfl
        · obtain ⟨e7, rfl⟩ := hp
          rw [List.length_map, List.take_length] at hy3
          refine w_addL (xs := [.int 0]) (e7 _ _ f6) hy3 (by rw [sizeLine_eq, List.length_map, addK_len, List.length_reverse]; simp; omega) ?_
          refine w_new fun mp H8 n8 s8 f8 => ?_
          repeat walk_at "w"
          refine w_maxL (ns := 0 :: addK ns'.reverse) (SqL.of f8) (by simp) fun m hm hmy => ?_
          have h0 := hmy 0 List.mem_cons_self
          have hall : ∀ (k : Nat) (x : Int), ns'.reverse[k]? = some x → x + k ≤ m := fun k x hx => hmy _ (List.mem_cons_of_mem _ (addK_mem hx))
          have hm2 : m = 0 ∨ ∃ (k : Nat) (x : Int), ns'.reverse[k]? = some x ∧ m = x + k := by
            rcases List.mem_cons.mp hm with z | z
            · exact .inl z
            · exact .inr (addK_ex z)
          refine q m H8 h0 ?_ (fun L srt => srt.top (srt.needs hpm hpw) hm2 h0 hall) (sH.trans (e7.trans s8))
          rcases hm2 with z | ⟨k, x, hx, z⟩
          · omega
          · have hk := (List.getElem?_eq_some_iff.mp hx).1
            rw [List.length_reverse] at hk
            have hxm := hpm.mem_iff.mp (List.mem_reverse.mp (List.mem_of_getElem? hx))
            have hxm2 := (List.mem_filter.mp hxm).1
            obtain ⟨e, he, rfl⟩ := List.mem_map.mp hxm2
            have := need_le e
            have := cnt4 (oke e he) (Nat.le_refl 4)
            omega
end

end J
namespace J
open PySem PySem.Spec PyProof.Rows L2
local macro_rules | `(tactic| walk_at "cls") => `(tactic| first
  | with_reducible exact Facts.cl_Parts
  | with_reducible exact Facts.cl_Order)
local macro_rules | `(tactic| walk_at "na") => `(tactic| first
  | with_reducible exact Facts.na_Parts_rows
  | with_reducible exact Facts.na_Order_parts
  | with_reducible exact Facts.na_Order_order
  | with_reducible exact Facts.na_Order_needed)
local macro_rules | `(tactic| walk_at "ty") => `(tactic| first
  | with_reducible exact ty_int
  | with_reducible exact ty_bl
  | with_reducible exact ty_str
  | with_reducible exact ty_non
  | ((with_reducible refine' ty_lst ?vv); (case vv => walk_at "tr"))
  | ((with_reducible refine' ty_sqT ?vv); (case vv => walk_at "tr"))
  | ((with_reducible refine' ty_dic ?vv); (case vv => walk_at "tr")))
local macro_rules | `(tactic| walk_at "ix") => `(tactic| first | exact at0 | exact at1 | exact at2 | assumption)
local macro_rules | `(tactic| walk_at "size") => `(tactic| first
  | assumption
  | (show _ < sizeLine; rw [sizeLine_eq]; (try simp only [List.length_cons, List.length_nil, List.length_append, List.length_map]); omega)
  | (show _ ≤ sizeLine; rw [sizeLine_eq]; (try simp only [List.length_cons, List.length_nil, List.length_append, List.length_map]); omega))
local macro_rules | `(tactic| walk_at "side") => `(tactic| first
  | assumption
  | ((with_reducible refine cdw ?_ ?_) <;> omega)
  | omega
  | (exact ⟨by omega, by omega⟩)
  | (exact Or.inl ⟨by omega, by omega⟩)
  | (exact Or.inr ⟨by omega, by omega⟩)
  | decide
  | (simp only [List.length_cons, List.length_nil, List.length_append, List.length_map]; omega)
  | (show _ ≤ _; decide))
local macro_rules | `(tactic| walk_at "as") => `(tactic| with_reducible assumption)
local macro_rules | `(tactic| walk_at "tr") => `(tactic| first
  | with_reducible assumption
  | with_reducible exact upd_same
  | ((with_reducible refine' SqL.of ?hh); (case hh => walk_at "as"))
  | ((with_reducible refine' SqT.of ?hh); (case hh => walk_at "as"))
  | ((with_reducible refine' Same.stm ?ee ?gg); (case ee => walk_at "as"); (case gg => walk_at "tr"))
  | ((with_reducible refine' Same.sqT ?ee ?gg); (case ee => walk_at "as"); (case gg => walk_at "tr"))
  | ((with_reducible refine' Same.sqL ?ee ?gg); (case ee => walk_at "as"); (case gg => walk_at "tr"))
  | ((with_reducible refine' Same.at ?ee ?gg); (case ee => walk_at "as"); (case gg => walk_at "tr"))
  | ((with_reducible refine' But.stm ?ee ?ff ?gg); (case ee => walk_at "as"); (case ff => walk_at "ne"); (case gg => walk_at "tr"))
  | ((with_reducible refine' But.tup ?ee ?ff ?gg); (case ee => walk_at "as"); (case ff => walk_at "tr1"); (case gg => walk_at "tr"))
  | ((with_reducible refine' But.sqT ?ee ?ff ?gg); (case ee => walk_at "as"); (case ff => walk_at "tr1"); (case gg => walk_at "tr"))
  | ((with_reducible refine' But.tupL ?ee ?ff ?gg); (case ee => walk_at "as"); (case ff => walk_at "tr1"); (case gg => walk_at "tr"))
  | ((with_reducible refine' But.sqTL ?ee ?ff ?gg); (case ee => walk_at "as"); (case ff => walk_at "tr1"); (case gg => walk_at "tr"))
  | ((with_reducible refine' But.sqL ?ee ?ff ?gg); (case ee => walk_at "as"); (case ff => walk_at "ne"); (case gg => walk_at "tr"))
  | ((with_reducible refine' But.at ?ee ?ff ?gg); (case ee => walk_at "as"); (case ff => walk_at "ne"); (case gg => walk_at "tr")))
local macro_rules | `(tactic| walk_at "ts") => `(tactic| first
  | with_reducible assumption
  | with_reducible exact TS.refl _
  | ((with_reducible refine' TS.trans ?gg (TS.of ?ee)); (case ee => walk_at "as"); (case gg => walk_at "ts"))
  | ((with_reducible refine' TS.trans ?gg (TS.butS ?ee ?ff)); (case ee => walk_at "as"); (case ff => walk_at "tr1"); (case gg => walk_at "ts"))
  | ((with_reducible refine' TS.trans ?gg (TS.butL ?ee ?ff)); (case ee => walk_at "as"); (case ff => walk_at "tr1"); (case gg => walk_at "ts"))
  | ((with_reducible refine' TS.trans ?gg (TS.butI ?ee ?ff)); (case ee => walk_at "as"); (case ff => walk_at "tr1"); (case gg => walk_at "ts")))
local macro_rules | `(tactic| walk_at "sm") => `(tactic| first
  | with_reducible assumption
  | with_reducible exact Same.refl _
  | ((with_reducible refine' Same.trans ?gg ?ee); (case ee => walk_at "as"); (case gg => walk_at "sm"))
  | ((with_reducible refine' But.new ?gg ?nn ?ee); (case ee => walk_at "as"); (case nn => walk_at "fr"); (case gg => walk_at "sm")))
local macro_rules | `(tactic| walk_at "fr") => `(tactic| first
  | with_reducible assumption
  | ((with_reducible refine' Same.back ?ee ?nn); (case nn => walk_at "as"); (case ee => walk_at "sm"))
  | ((with_reducible refine' But.back ?ee ?ff ?nn); (case nn => walk_at "as"); (case ff => walk_at "ne0"); (case ee => walk_at "bu")))
local macro_rules | `(tactic| walk_at "bu") => `(tactic| first
  | with_reducible assumption
  | with_reducible exact But.refl _ _
  | ((with_reducible refine' But.trans ?gg ?ee); (case ee => walk_at "as"); (case gg => walk_at "bu"))
  | ((with_reducible refine' But.trans ?gg (But.of ?ee)); (case ee => walk_at "as"); (case gg => walk_at "bu"))
  | ((with_reducible refine' But.new2 ?gg ?nn ?ee); (case ee => walk_at "as"); (case nn => walk_at "frB"); (case gg => walk_at "bu")))
local macro_rules | `(tactic| walk_at "frB") => `(tactic| first
  | with_reducible assumption
  | ((with_reducible refine' Same.back ?ee ?nn); (case nn => walk_at "as"); (case ee => walk_at "sm"))
  | ((with_reducible refine' But.back' ?ee ?ff ?nn); (case nn => walk_at "as"); (case ee => walk_at "bu"); (case ff => walk_at "tr1")))
local macro_rules | `(tactic| walk_at "tr1") => `(tactic| first
  | with_reducible assumption
  | ((with_reducible refine' Same.stm ?ee ?gg); (case ee => walk_at "as"); (case gg => walk_at "tr1"))
  | ((with_reducible refine' Same.at ?ee ?gg); (case ee => walk_at "as"); (case gg => walk_at "tr1"))
  | ((with_reducible refine' But.at ?ee ?ff ?gg); (case ee => walk_at "as"); (case ff => walk_at "ne0"); (case gg => walk_at "tr1"))
  | ((with_reducible refine' But.stm ?ee ?ff ?gg); (case ee => walk_at "as"); (case ff => walk_at "ne0"); (case gg => walk_at "tr1")))
local macro_rules | `(tactic| walk_at "ne0") => `(tactic| first
  | with_reducible assumption
  | (with_reducible apply Ne.symm; with_reducible assumption))
local macro_rules | `(tactic| walk_at "ne") => `(tactic| first
  | with_reducible assumption
  | (with_reducible apply Ne.symm; with_reducible assumption)
  | ((with_reducible refine' stm_ne ?hh ?nn); (case nn => walk_at "as"); (case hh => walk_at "tr1"))
  | ((with_reducible refine' ne_of_none ?hh ?nn); (case nn => walk_at "as"); (case hh => walk_at "tr1"))
  | ((with_reducible apply Ne.symm); (with_reducible refine' ne_of_none ?hh ?nn); (case nn => walk_at "as"); (case hh => walk_at "tr1")))
local macro_rules | `(tactic| walk_at "v") => `(tactic| first
  | with_reducible refine w_seq ?_
  | ((with_reducible refine' w_var ?vv ?_); (case vv => exact rfl))
  | with_reducible refine w_c ?_
  | with_reducible refine w_op ?_
  | with_reducible refine w_asg ?_
  | with_reducible refine w_gName ?_
  | with_reducible refine w_ret ?_
  | with_reducible refine w_ifS ?_
  | with_reducible refine w_drop ?_
  | with_reducible refine w_next ?_
  | with_reducible refine w_cons ?_
  | with_reducible refine w_nil ?_
  | with_reducible refine w_call ?_
  | with_reducible refine w_cb ?_
  | with_reducible refine w_rI0 ?_
  | with_reducible refine w_addI ?_
  | with_reducible refine w_eqI ?_
  | with_reducible refine w_neI ?_
  | with_reducible refine w_eqS ?_
  | with_reducible refine w_neS ?_
  | with_reducible refine w_eqB ?_
  | with_reducible refine w_neB ?_
  | with_reducible refine w_chain ?_
  | with_reducible refine w_test ?_
  | with_reducible refine w_tB ?_
  | with_reducible refine w_bl ?_
  | ((with_reducible refine' w_mulI ?vv ?_); (case vv => walk_at "side"))
  | ((with_reducible refine' w_rI ?vv ?_); (case vv => walk_at "side"))
  | with_reducible refine w_int1 ?_
  | with_reducible refine w_int1b ?_
  | with_reducible refine w_tup ?_
  | with_reducible refine w_lst ?_
  | with_reducible refine w_un ?_
  | with_reducible refine w_rU ?_
  | with_reducible refine w_not ?_
  | with_reducible refine w_notV ?_
  | with_reducible refine w_ifE ?_
  | with_reducible refine w_nT ?_
  | with_reducible refine w_nF ?_
  | with_reducible refine iteT ?_
  | with_reducible refine iteF ?_
  | ((with_reducible refine' w_ixT ?vv ?ww ?_); (case vv => walk_at "tr"); (case ww => walk_at "ix"))
  | ((with_reducible refine' w_ixL ?vv ?ww ?_); (case vv => walk_at "tr"); (case ww => walk_at "ix"))
  | with_reducible refine w_gSub ?_
  | ((with_reducible refine' w_setL ?vv ?ww ?_); (case vv => walk_at "tr"); (case ww => first | rfl | decide | assumption))
  | ((with_reducible refine' w_lenL ?vv ?_); (case vv => walk_at "tr"))
  | ((with_reducible refine' w_lenT ?vv ?_); (case vv => walk_at "tr"))
  | with_reducible refine w_max2 ?_
  | with_reducible refine w_max3 ?_
  | with_reducible refine w_din ?_
  | with_reducible refine w_dnotin ?_
  | with_reducible refine w_dput ?_
  | with_reducible refine w_min2 ?_
  | with_reducible refine w_bm ?_
  | with_reducible refine w_bm0 ?_
  | ((with_reducible refine' w_tyL ?vv ?_); (case vv => walk_at "tr"))
  | ((with_reducible refine' w_append ?vv ?ww ?_); (case vv => walk_at "tr"); (case ww => walk_at "size"))
  | ((with_reducible refine' w_size ?vv ?_); (case vv => walk_at "size"))
  | with_reducible refine w_forL ?_
  | with_reducible refine w_forT ?_
  | with_reducible refine w_forR1 ?_
  | with_reducible refine w_forR2 ?_
  | with_reducible refine w_lcL ?_
  | with_reducible refine w_lcT ?_
  | with_reducible refine w_lcR1 ?_
  | with_reducible refine w_yes ?_
  | with_reducible refine w_sl ?_
  | with_reducible refine w_noPart ?_
  | with_reducible refine w_part ?_
  | with_reducible refine w_int ?_
  | ((with_reducible refine' w_slL ?vv ?_); (case vv => walk_at "tr"))
  | ((with_reducible refine' w_seqL ?vv ?ww ?_); (case vv => walk_at "tr"); (case ww => rfl))
  | ((with_reducible refine' w_seqT ?vv ?ww ?_); (case vv => walk_at "tr"); (case ww => rfl))
  | with_reducible refine w_gNil ?_
  | with_reducible refine w_gCons ?_
  | with_reducible refine w_forZ ?_
  | with_reducible refine w_forM ?_
  | with_reducible refine w_forE ?_
  | with_reducible refine w_forV ?_
  | with_reducible refine w_lcZ ?_
  | with_reducible refine w_lcE ?_
  | ((with_reducible refine' w_isi (b := true) ?vv ?ww ?_); (case vv => walk_at "ty"); (case ww => decide +kernel))
  | ((with_reducible refine' w_isi (b := false) ?vv ?ww ?_); (case vv => walk_at "ty"); (case ww => decide +kernel))
  | with_reducible refine w_revL ?_
  | with_reducible refine w_pairN ?_
  | with_reducible refine w_pairC ?_
  | with_reducible refine w_dget ?_
  | with_reducible refine w_met ?_
  | ((with_reducible refine' w_metAt ?vv ?ww ?_); (case vv => walk_at "tr"); (case ww => rfl))
  | with_reducible refine w_mkI ?_
  | with_reducible refine w_fld ?_
  | ((with_reducible refine' w_fldAt ?vv ?cc ?nn ?ww ?_); (case vv => walk_at "tr"); (case cc => walk_at "cls"); (case nn => walk_at "na"); (case ww => rfl))
  | with_reducible refine w_sfld ?_
  | ((with_reducible refine' w_sfldAt ?vv ?cc ?nn ?ll ?ee ?_); (case vv => walk_at "tr"); (case cc => walk_at "cls"); (case nn => walk_at "na"); (case ll => simp); (case ee => rfl))
  | ((with_reducible refine' w_tupL ?vv ?_); (case vv => walk_at "tr"))
  | ((with_reducible refine' w_tupT ?vv ?_); (case vv => walk_at "tr"))
  | ((with_reducible refine' w_listL ?vv ?_); (case vv => walk_at "tr"))
  | ((with_reducible refine' w_listT ?vv ?_); (case vv => walk_at "tr"))
  | with_reducible refine w_tyS ?_
  | with_reducible refine w_retN ?_
  | with_reducible refine w_break ?_
  | with_reducible refine w_cont ?_)
local macro_rules | `(tactic| walk_at "w") => `(tactic| first
  | walk_at "v"
  | with_reducible refine w_or ?_
  | with_reducible refine w_and ?_
  | with_reducible refine w_andV ?_
  | with_reducible refine w_orV ?_)
local macro_rules | `(tactic| walk_at "wd") => `(tactic| first
  | walk_at "w"
  | ((with_reducible refine' w_decT ?vv ?_); (case vv => decide +kernel))
  | ((with_reducible refine' w_decF ?vv ?_); (case vv => decide +kernel)))
local macro_rules | `(tactic| walk_at "tz") => `(tactic| (intro S z; (repeat walk_at "w"); exact z))
local macro_rules | `(tactic| walk_at "wf") => `(tactic| first
  | walk_at "wd"
  | ((with_reducible refine' w_decF ?vv ?_); (case vv => with_reducible assumption)))
section
variable {P : Program} {w : World} {K : PySem.W.Frag} {mg : Str → Option Value}
theorem ok_law_own [c : Facts K mg] : Fn P w K mg "_law_own" 1 ["part"] ((spOwnP K)) := by
  obtain ⟨fd, F⟩ := c.d_law_own
  refine Fn.mk' F c.g_law_own sc_law_own (k := 0) (fun vs H Q E h => ?_) (fun _ _ _ _ _ _ us hl => match us, hl with | [_], _ => rfl) (fun base cdv A outer s H vs Q E hr h => ?_)
  · exact len_law_own h
  · have nd := sc_law_own.nd
    have hu := hu_of hr
    refine ⟨_, (pss_cons (ps_if (pt_cmpR (op_inA (K := K) rfl) (pe_ix (ix_any (K := K) rfl) (pv 0) pe_int (fun _ _ => rfl)) (pe_lst (pa_cons pe_str (pa_cons pe_str pa_nil))) (by rfl)) (pss_one (ps_ret (pe_lst pa_nil))) pss_nil)
      (pss_one (ps_ret (pe_lc (own := [("one", 1)]) rfl nd (pi_tup (pe_slice (sl_any (K := K) rfl) (pv 0) (po_some pe_int) po_none)) (blkOk_by (N := N_law_own) (sc := defScope s_law_own) (by decide +kernel)) (fun _ _ _ _ _ => (pg_name (i := 1) nd rfl (Or.inl rfl))) (fun _ _ _ _ _ => pts_one (pt_val (pe_callB (call_isiA (K := K) rfl) (by rfl) c.f_isinstance boot_isinstance (pa_cons (pv 1) (pa_cons (pe_bltn (v := .ty "int") (by rfl) c.f_int boot_int rfl) pa_nil))))) (fun _ _ _ _ _ => (pv 1)))))), ?_⟩
    try dsimp only [cxOf, Cx.nox, Cx.wish]
    obtain ⟨v, d, rfl, hv, ⟨s, items, rfl, so, hi, l1, l2, hg⟩, q⟩ := h
    obtain ⟨p, us, rfl, hp, hus⟩ := exp_n hv
    have hul : us.length = items.length := dpa_len hus
    repeat walk_at "w"
    refine w_new fun p0 H0 n0 s0 f0 => ?_
    refine w_inL (SqL.of f0) rfl rfl ?_
    repeat walk_at "w"
    have e : inV (.str s) [.str "get", .str "ask"] = decide (s = "get" ∨ s = "ask") := by
      show (("get" : Str) == s || (("ask" : Str) == s || false)) = _
      rw [Bool.or_false, Bool.eq_iff_iff, Bool.or_eq_true, beq_iff_eq, beq_iff_eq, decide_eq_true_eq]
      constructor
      · rintro (g | g)
        · exact .inl g.symm
        · exact .inr g.symm
      · rintro (g | g)
        · exact .inl g.symm
        · exact .inr g.symm
    rw [e]
    refine ite2 (fun h1 => ?_) (fun h1 => ?_)
    · rw [decide_eq_true_eq] at h1
      repeat walk_at "w"
      refine w_new fun p1 H1 n1 s1 f1 => ?_
      refine q p1 H1 ?_ (s0.trans s1) (s0.free n1)
      rw [PRow.own, hg h1]; exact f1
    · have hp0 := s0.sqT hp
      have hus0 := dpAll_ts (TS.of s0) _ _ (items_all hi).1 hus
      repeat walk_at "w"
      refine w_slT1 (σ := []) hp0 ?_
      refine w_new fun p1 H1 n1 s1 f1 => ?_
      have hus1 := dpAll_ts (TS.of s1) _ _ (items_all hi).1 hus0
      refine lc_own (SqT.of f1) hus1 hi l2 (fun v d H' R it hd k => ?_) (fun v H' R k => ?_) (fun D H' hD e nD => q D H' hD (s0.trans (s1.trans e)) (s0.free (s1.free nD)))
      · repeat walk_at "w"
        cases it with
        | int n =>
          cases dp_int hd
          repeat walk_at "w"
          exact k
        | str _ =>
          cases dp_str hd
          repeat walk_at "w"
          exact k
        | pair _ _ =>
          obtain ⟨a, xs, rfl, ha, _⟩ := dp_tup hd
          repeat walk_at "w"
          exact k
      · repeat walk_at "w"
        exact k
end

end J
namespace J
open PySem PySem.Spec PyProof.Rows L2
local macro_rules | `(tactic| walk_at "cls") => `(tactic| first
  | with_reducible exact Facts.cl_Parts
  | with_reducible exact Facts.cl_Order)
local macro_rules | `(tactic| walk_at "na") => `(tactic| first
  | with_reducible exact Facts.na_Parts_rows
  | with_reducible exact Facts.na_Order_parts
  | with_reducible exact Facts.na_Order_order
  | with_reducible exact Facts.na_Order_needed)
local macro_rules | `(tactic| walk_at "ty") => `(tactic| first
  | with_reducible exact ty_int
  | with_reducible exact ty_bl
  | with_reducible exact ty_str
  | with_reducible exact ty_non
  | ((with_reducible refine' ty_lst ?vv); (case vv => walk_at "tr"))
  | ((with_reducible refine' ty_sqT ?vv); (case vv => walk_at "tr"))
  | ((with_reducible refine' ty_dic ?vv); (case vv => walk_at "tr")))
local macro_rules | `(tactic| walk_at "ix") => `(tactic| first | exact at0 | exact at1 | exact at2 | assumption)
local macro_rules | `(tactic| walk_at "size") => `(tactic| first
  | assumption
  | (show _ < sizeLine; rw [sizeLine_eq]; (try simp only [List.length_cons, List.length_nil, List.length_append, List.length_map]); omega)
  | (show _ ≤ sizeLine; rw [sizeLine_eq]; (try simp only [List.length_cons, List.length_nil, List.length_append, List.length_map]); omega))
local macro_rules | `(tactic| walk_at "side") => `(tactic| first
  | assumption
  | ((with_reducible refine cdw ?_ ?_) <;> omega)
  | omega
  | (exact ⟨by omega, by omega⟩)
  | (exact Or.inl ⟨by omega, by omega⟩)
  | (exact Or.inr ⟨by omega, by omega⟩)
  | decide
  | (simp only [List.length_cons, List.length_nil, List.length_append, List.length_map]; omega)
  | (show _ ≤ _; decide))
local macro_rules | `(tactic| walk_at "as") => `(tactic| with_reducible assumption)
local macro_rules | `(tactic| walk_at "tr") => `(tactic| first
  | with_reducible assumption
  | with_reducible exact upd_same
  | ((with_reducible refine' SqL.of ?hh); (case hh => walk_at "as"))
  | ((with_reducible refine' SqT.of ?hh); (case hh => walk_at "as"))
  | ((with_reducible refine' Same.stm ?ee ?gg); (case ee => walk_at "as"); (case gg => walk_at "tr"))
  | ((with_reducible refine' Same.sqT ?ee ?gg); (case ee => walk_at "as"); (case gg => walk_at "tr"))
  | ((with_reducible refine' Same.sqL ?ee ?gg); (case ee => walk_at "as"); (case gg => walk_at "tr"))
  | ((with_reducible refine' Same.at ?ee ?gg); (case ee => walk_at "as"); (case gg => walk_at "tr"))
  | ((with_reducible refine' But.stm ?ee ?ff ?gg); (case ee => walk_at "as"); (case ff => walk_at "ne"); (case gg => walk_at "tr"))
  | ((with_reducible refine' But.tup ?ee ?ff ?gg); (case ee => walk_at "as"); (case ff => walk_at "tr1"); (case gg => walk_at "tr"))
  | ((with_reducible refine' But.sqT ?ee ?ff ?gg); (case ee => walk_at "as"); (case ff => walk_at "tr1"); (case gg => walk_at "tr"))
  | ((with_reducible refine' But.tupL ?ee ?ff ?gg); (case ee => walk_at "as"); (case ff => walk_at "tr1"); (case gg => walk_at "tr"))
  | ((with_reducible refine' But.sqTL ?ee ?ff ?gg); (case ee => walk_at "as"); (case ff => walk_at "tr1"); (case gg => walk_at "tr"))
  | ((with_reducible refine' But.sqL ?ee ?ff ?gg); (case ee => walk_at "as"); (case ff => walk_at "ne"); (case gg => walk_at "tr"))
  | ((with_reducible refine' But.at ?ee ?ff ?gg); (case ee => walk_at "as"); (case ff => walk_at "ne"); (case gg => walk_at "tr")))
local macro_rules | `(tactic| walk_at "ts") => `(tactic| first
  | with_reducible assumption
  | with_reducible exact TS.refl _
  | ((with_reducible refine' TS.trans ?gg (TS.of ?ee)); (case ee => walk_at "as"); (case gg => walk_at "ts"))
  | ((with_reducible refine' TS.trans ?gg (TS.butS ?ee ?ff)); (case ee => walk_at "as"); (case ff => walk_at "tr1"); (case gg => walk_at "ts"))
  | ((with_reducible refine' TS.trans ?gg (TS.butL ?ee ?ff)); (case ee => walk_at "as"); (case ff => walk_at "tr1"); (case gg => walk_at "ts"))
  | ((with_reducible refine' TS.trans ?gg (TS.butI ?ee ?ff)); (case ee => walk_at "as"); (case ff => walk_at "tr1"); (case gg => walk_at "ts")))
local macro_rules | `(tactic| walk_at "sm") => `(tactic| first
  | with_reducible assumption
  | with_reducible exact Same.refl _
  | ((with_reducible refine' Same.trans ?gg ?ee); (case ee => walk_at "as"); (case gg => walk_at "sm"))
  | ((with_reducible refine' But.new ?gg ?nn ?ee); (case ee => walk_at "as"); (case nn => walk_at "fr"); (case gg => walk_at "sm")))
local macro_rules | `(tactic| walk_at "fr") => `(tactic| first
  | with_reducible assumption
  | ((with_reducible refine' Same.back ?ee ?nn); (case nn => walk_at "as"); (case ee => walk_at "sm"))
  | ((with_reducible refine' But.back ?ee ?ff ?nn); (case nn => walk_at "as"); (case ff => walk_at "ne0"); (case ee => walk_at "bu")))
local macro_rules | `(tactic| walk_at "bu") => `(tactic| first
  | with_reducible assumption
  | with_reducible exact But.refl _ _
  | ((with_reducible refine' But.trans ?gg ?ee); (case ee => walk_at "as"); (case gg => walk_at "bu"))
  | ((with_reducible refine' But.trans ?gg (But.of ?ee)); (case ee => walk_at "as"); (case gg => walk_at "bu"))
  | ((with_reducible refine' But.new2 ?gg ?nn ?ee); (case ee => walk_at "as"); (case nn => walk_at "frB"); (case gg => walk_at "bu")))
local macro_rules | `(tactic| walk_at "frB") => `(tactic| first
  | with_reducible assumption
  | ((with_reducible refine' Same.back ?ee ?nn); (case nn => walk_at "as"); (case ee => walk_at "sm"))
  | ((with_reducible refine' But.back' ?ee ?ff ?nn); (case nn => walk_at "as"); (case ee => walk_at "bu"); (case ff => walk_at "tr1")))
local macro_rules | `(tactic| walk_at "tr1") => `(tactic| first
  | with_reducible assumption
  | ((with_reducible refine' Same.stm ?ee ?gg); (case ee => walk_at "as"); (case gg => walk_at "tr1"))
  | ((with_reducible refine' Same.at ?ee ?gg); (case ee => walk_at "as"); (case gg => walk_at "tr1"))
  | ((with_reducible refine' But.at ?ee ?ff ?gg); (case ee => walk_at "as"); (case ff => walk_at "ne0"); (case gg => walk_at "tr1"))
  | ((with_reducible refine' But.stm ?ee ?ff ?gg); (case ee => walk_at "as"); (case ff => walk_at "ne0"); (case gg => walk_at "tr1")))
local macro_rules | `(tactic| walk_at "ne0") => `(tactic| first
  | with_reducible assumption
  | (with_reducible apply Ne.symm; with_reducible assumption))
local macro_rules | `(tactic| walk_at "ne") => `(tactic| first
  | with_reducible assumption
  | (with_reducible apply Ne.symm; with_reducible assumption)
  | ((with_reducible refine' stm_ne ?hh ?nn); (case nn => walk_at "as"); (case hh => walk_at "tr1"))
  | ((with_reducible refine' ne_of_none ?hh ?nn); (case nn => walk_at "as"); (case hh => walk_at "tr1"))
  | ((with_reducible apply Ne.symm); (with_reducible refine' ne_of_none ?hh ?nn); (case nn => walk_at "as"); (case hh => walk_at "tr1")))
local macro_rules | `(tactic| walk_at "v") => `(tactic| first
  | with_reducible refine w_seq ?_
  | ((with_reducible refine' w_var ?vv ?_); (case vv => exact rfl))
  | with_reducible refine w_c ?_
  | with_reducible refine w_op ?_
  | with_reducible refine w_asg ?_
  | with_reducible refine w_gName ?_
  | with_reducible refine w_ret ?_
  | with_reducible refine w_ifS ?_
  | with_reducible refine w_drop ?_
  | with_reducible refine w_next ?_
  | with_reducible refine w_cons ?_
  | with_reducible refine w_nil ?_
  | with_reducible refine w_call ?_
  | with_reducible refine w_cb ?_
  | with_reducible refine w_rI0 ?_
  | with_reducible refine w_addI ?_
  | with_reducible refine w_eqI ?_
  | with_reducible refine w_neI ?_
  | with_reducible refine w_eqS ?_
  | with_reducible refine w_neS ?_
  | with_reducible refine w_eqB ?_
  | with_reducible refine w_neB ?_
  | with_reducible refine w_chain ?_
  | with_reducible refine w_test ?_
  | with_reducible refine w_tB ?_
  | with_reducible refine w_bl ?_
  | ((with_reducible refine' w_mulI ?vv ?_); (case vv => walk_at "side"))
  | ((with_reducible refine' w_rI ?vv ?_); (case vv => walk_at "side"))
  | with_reducible refine w_int1 ?_
  | with_reducible refine w_int1b ?_
  | with_reducible refine w_tup ?_
  | with_reducible refine w_lst ?_
  | with_reducible refine w_un ?_
  | with_reducible refine w_rU ?_
  | with_reducible refine w_not ?_
  | with_reducible refine w_notV ?_
  | with_reducible refine w_ifE ?_
  | with_reducible refine w_nT ?_
  | with_reducible refine w_nF ?_
  | with_reducible refine iteT ?_
  | with_reducible refine iteF ?_
  | ((with_reducible refine' w_ixT ?vv ?ww ?_); (case vv => walk_at "tr"); (case ww => walk_at "ix"))
  | ((with_reducible refine' w_ixL ?vv ?ww ?_); (case vv => walk_at "tr"); (case ww => walk_at "ix"))
  | with_reducible refine w_gSub ?_
  | ((with_reducible refine' w_setL ?vv ?ww ?_); (case vv => walk_at "tr"); (case ww => first | rfl | decide | assumption))
  | ((with_reducible refine' w_lenL ?vv ?_); (case vv => walk_at "tr"))
  | ((with_reducible refine' w_lenT ?vv ?_); (case vv => walk_at "tr"))
  | with_reducible refine w_max2 ?_
  | with_reducible refine w_max3 ?_
  | with_reducible refine w_din ?_
  | with_reducible refine w_dnotin ?_
  | with_reducible refine w_dput ?_
  | with_reducible refine w_min2 ?_
  | with_reducible refine w_bm ?_
  | with_reducible refine w_bm0 ?_
  | ((with_reducible refine' w_tyL ?vv ?_); (case vv => walk_at "tr"))
  | ((with_reducible refine' w_append ?vv ?ww ?_); (case vv => walk_at "tr"); (case ww => walk_at "size"))
  | ((with_reducible refine' w_size ?vv ?_); (case vv => walk_at "size"))
  | with_reducible refine w_forL ?_
  | with_reducible refine w_forT ?_
  | with_reducible refine w_forR1 ?_
  | with_reducible refine w_forR2 ?_
  | with_reducible refine w_lcL ?_
  | with_reducible refine w_lcT ?_
  | with_reducible refine w_lcR1 ?_
  | with_reducible refine w_yes ?_
  | with_reducible refine w_sl ?_
  | with_reducible refine w_noPart ?_
  | with_reducible refine w_part ?_
  | with_reducible refine w_int ?_
  | ((with_reducible refine' w_slL ?vv ?_); (case vv => walk_at "tr"))
  | ((with_reducible refine' w_seqL ?vv ?ww ?_); (case vv => walk_at "tr"); (case ww => rfl))
  | ((with_reducible refine' w_seqT ?vv ?ww ?_); (case vv => walk_at "tr"); (case ww => rfl))
  | with_reducible refine w_gNil ?_
  | with_reducible refine w_gCons ?_
  | with_reducible refine w_forZ ?_
  | with_reducible refine w_forM ?_
  | with_reducible refine w_forE ?_
  | with_reducible refine w_forV ?_
  | with_reducible refine w_lcZ ?_
  | with_reducible refine w_lcE ?_
  | ((with_reducible refine' w_isi (b := true) ?vv ?ww ?_); (case vv => walk_at "ty"); (case ww => decide +kernel))
  | ((with_reducible refine' w_isi (b := false) ?vv ?ww ?_); (case vv => walk_at "ty"); (case ww => decide +kernel))
  | with_reducible refine w_revL ?_
  | with_reducible refine w_pairN ?_
  | with_reducible refine w_pairC ?_
  | with_reducible refine w_dget ?_
  | with_reducible refine w_met ?_
  | ((with_reducible refine' w_metAt ?vv ?ww ?_); (case vv => walk_at "tr"); (case ww => rfl))
  | with_reducible refine w_mkI ?_
  | with_reducible refine w_fld ?_
  | ((with_reducible refine' w_fldAt ?vv ?cc ?nn ?ww ?_); (case vv => walk_at "tr"); (case cc => walk_at "cls"); (case nn => walk_at "na"); (case ww => rfl))
  | with_reducible refine w_sfld ?_
  | ((with_reducible refine' w_sfldAt ?vv ?cc ?nn ?ll ?ee ?_); (case vv => walk_at "tr"); (case cc => walk_at "cls"); (case nn => walk_at "na"); (case ll => simp); (case ee => rfl))
  | ((with_reducible refine' w_tupL ?vv ?_); (case vv => walk_at "tr"))
  | ((with_reducible refine' w_tupT ?vv ?_); (case vv => walk_at "tr"))
  | ((with_reducible refine' w_listL ?vv ?_); (case vv => walk_at "tr"))
  | ((with_reducible refine' w_listT ?vv ?_); (case vv => walk_at "tr"))
  | with_reducible refine w_tyS ?_
  | with_reducible refine w_retN ?_
  | with_reducible refine w_break ?_
  | with_reducible refine w_cont ?_)
local macro_rules | `(tactic| walk_at "w") => `(tactic| first
  | walk_at "v"
  | with_reducible refine w_or ?_
  | with_reducible refine w_and ?_
  | with_reducible refine w_andV ?_
  | with_reducible refine w_orV ?_)
local macro_rules | `(tactic| walk_at "wd") => `(tactic| first
  | walk_at "w"
  | ((with_reducible refine' w_decT ?vv ?_); (case vv => decide +kernel))
  | ((with_reducible refine' w_decF ?vv ?_); (case vv => decide +kernel)))
local macro_rules | `(tactic| walk_at "tz") => `(tactic| (intro S z; (repeat walk_at "w"); exact z))
local macro_rules | `(tactic| walk_at "wf") => `(tactic| first
  | walk_at "wd"
  | ((with_reducible refine' w_decF ?vv ?_); (case vv => with_reducible assumption)))
theorem pi_listA {X : Cx} {K : PySem.W.Frag} {tg l : Expr} {tl : TE} (hK : X.K = K) (hl : PE X l tl) : PI X tg l (iList K tl) := by subst hK; exact pi_list hl
theorem pi_tupA {X : Cx} {K : PySem.W.Frag} {tg l : Expr} {tl : TE} (hK : X.K = K) (hl : PE X l tl) : PI X tg l (iTup K tl) := by subst hK; exact pi_tup hl
section
variable {K : PySem.W.Frag} {σ : L2.St} {H : Hp} {Q : VK} {nx : L2.St → Hp → Prop} {rt : VK} {bk ct : L2.St → Hp → Prop} {tt : TT} {t : L2.TS}
theorem w_while2 (Pv : Nat → L2.St → Hp → Prop) (m : Nat) (h0 : Pv m σ H) (hs : ∀ m σ H, Pv m σ H → tt σ H fun b H1 => if b = true then ∃ N : L2.St → Hp → Prop, (∀ σ' H', N σ' H' → ∃ m', m' < m ∧ Pv m' σ' H') ∧ t ⟨N, rt, nx, N⟩ σ H1 else nx σ H1) :
    tWhile tt t ⟨nx, rt, bk, ct⟩ σ H := ⟨Pv, ⟨m, h0⟩, hs⟩
theorem w_whB2 {m : Nat} {Pv : Nat → L2.St → Hp → Prop} (k : t ⟨fun σ' H' => ∃ m', m' < m ∧ Pv m' σ' H', rt, nx, fun σ' H' => ∃ m', m' < m ∧ Pv m' σ' H'⟩ σ H) : ∃ N : L2.St → Hp → Prop, (∀ σ' H', N σ' H' → ∃ m', m' < m ∧ Pv m' σ' H') ∧ t ⟨N, rt, nx, N⟩ σ H :=
  ⟨_, fun _ _ z => z, k⟩
theorem flat_ints (ns : List Int) : (ns.map V.int).all flatV = true := by
  rw [List.all_eq_true]
  intro x hx
  obtain ⟨_, _, rfl⟩ := List.mem_map.mp hx
  rfl
theorem in_ints (x : Int) (ns : List Int) : inV (.int x) (ns.map V.int) = decide (x ∈ ns) := by
  induction ns with
  | nil => rfl
  | cons n ns ih =>
    have e : inV (.int x) ((n :: ns).map V.int) = (eqV (.int n) (.int x) || inV (.int x) (ns.map V.int)) := rfl
    rw [e, ih]
    by_cases h : n = x
    · subst h; simp [eqV]
    · have : x ≠ n := fun z => h z.symm
      simp [eqV, h, this]
theorem w_inIL {p : Addr} {x : Int} {ns : List Int} (h : SqL K H p (ns.map V.int)) (k : Q (.bl (decide (x ∈ ns))) H) : rInA K false (.int x) (.ref p) H Q := w_inL h rfl (flat_ints ns) (by rw [in_ints]; exact k)
theorem w_niIL {p : Addr} {x : Int} {ns : List Int} (h : SqL K H p (ns.map V.int)) (k : Q (.bl (!decide (x ∈ ns))) H) : rInA K true (.int x) (.ref p) H Q := w_niL h rfl (flat_ints ns) (by rw [in_ints]; exact k)
end
/-- methods within comprehensions -/
theorem pe_bmA {X : Cx} {K : PySem.W.Frag} {T id : String} {name : Str} {r : V → List V → Hp → VK → Prop} {o e : Expr} {es : List Expr} {to : TE} {t : TA} {apos cpos : Pos} (hK : X.K = K) (pa : PlainAttrs T) (slot : Slot T name id) (hty : typeOf (.builtin id) = pure (.type "method_descriptor")) (hm : MtR X id r) (ho : PE X o to) (ha : PA X (e :: es) t)
    (hbase : attributeBase o name X.env (eval o X.env) = eval o X.env := by rfl)
    (hfew : ((backTo cpos (starEach (e :: es) X.env)).all (fun x => !x.1) && (backToKw cpos (keywordEach [] X.env)).all (fun x => x.1.isSome)
      && decide ((e :: es).length + ([] : List Keyword).length + (if ([] : List Keyword).isEmpty then 0 else 1) < 30)) = true := by rfl)
    (hline : (apos.endLine == cpos.line) = true := by rfl) (hs : starEach (e :: es) X.env = (false, eval e X.env) :: starEach es X.env := by rfl) (hplain : (backTo cpos (starEach es X.env)).any (·.1) = false := by rfl) :
    PE X (.Call (.Attribute o name apos) (e :: es) [] cpos) (tBM K T r to t) := by
  subst hK
  exact pe_bm pa slot hty hm ho ha hbase hfew hline hs hplain
theorem pe_bm0A {X : Cx} {K : PySem.W.Frag} {T id : String} {name : Str} {r : V → List V → Hp → VK → Prop} {o : Expr} {to : TE} {apos cpos : Pos} (hK : X.K = K) (pa : PlainAttrs T) (slot : Slot T name id) (hty : typeOf (.builtin id) = pure (.type "method_descriptor")) (hm : MtR X id r) (ho : PE X o to)
    (hbase : attributeBase o name X.env (eval o X.env) = eval o X.env := by rfl) (hline : (apos.endLine == cpos.line) = true := by rfl) : PE X (.Call (.Attribute o name apos) [] [] cpos) (tBM0 K T r to) := by
  subst hK
  exact pe_bm0 pa slot hty hm ho hbase hline

end J
namespace J
open PySem PySem.Spec PyProof.Rows L2
local macro_rules | `(tactic| walk_at "cls") => `(tactic| first
  | with_reducible exact Facts.cl_Parts
  | with_reducible exact Facts.cl_Order)
local macro_rules | `(tactic| walk_at "na") => `(tactic| first
  | with_reducible exact Facts.na_Parts_rows
  | with_reducible exact Facts.na_Order_parts
  | with_reducible exact Facts.na_Order_order
  | with_reducible exact Facts.na_Order_needed)
local macro_rules | `(tactic| walk_at "ty") => `(tactic| first
  | with_reducible exact ty_int
  | with_reducible exact ty_bl
  | with_reducible exact ty_str
  | with_reducible exact ty_non
  | ((with_reducible refine' ty_lst ?vv); (case vv => walk_at "tr"))
  | ((with_reducible refine' ty_sqT ?vv); (case vv => walk_at "tr"))
  | ((with_reducible refine' ty_dic ?vv); (case vv => walk_at "tr")))
local macro_rules | `(tactic| walk_at "ix") => `(tactic| first | exact at0 | exact at1 | exact at2 | assumption)
local macro_rules | `(tactic| walk_at "size") => `(tactic| first
  | assumption
  | (show _ < sizeLine; rw [sizeLine_eq]; (try simp only [List.length_cons, List.length_nil, List.length_append, List.length_map]); omega)
  | (show _ ≤ sizeLine; rw [sizeLine_eq]; (try simp only [List.length_cons, List.length_nil, List.length_append, List.length_map]); omega))
local macro_rules | `(tactic| walk_at "side") => `(tactic| first
  | assumption
  | ((with_reducible refine cdw ?_ ?_) <;> omega)
  | omega
  | (exact ⟨by omega, by omega⟩)
  | (exact Or.inl ⟨by omega, by omega⟩)
  | (exact Or.inr ⟨by omega, by omega⟩)
  | decide
  | (simp only [List.length_cons, List.length_nil, List.length_append, List.length_map]; omega)
  | (show _ ≤ _; decide))
local macro_rules | `(tactic| walk_at "as") => `(tactic| with_reducible assumption)
local macro_rules | `(tactic| walk_at "tr") => `(tactic| first
  | with_reducible assumption
  | with_reducible exact upd_same
  | ((with_reducible refine' SqL.of ?hh); (case hh => walk_at "as"))
  | ((with_reducible refine' SqT.of ?hh); (case hh => walk_at "as"))
  | ((with_reducible refine' Same.stm ?ee ?gg); (case ee => walk_at "as"); (case gg => walk_at "tr"))
  | ((with_reducible refine' Same.sqT ?ee ?gg); (case ee => walk_at "as"); (case gg => walk_at "tr"))
  | ((with_reducible refine' Same.sqL ?ee ?gg); (case ee => walk_at "as"); (case gg => walk_at "tr"))
  | ((with_reducible refine' Same.at ?ee ?gg); (case ee => walk_at "as"); (case gg => walk_at "tr"))
  | ((with_reducible refine' But.stm ?ee ?ff ?gg); (case ee => walk_at "as"); (case ff => walk_at "ne"); (case gg => walk_at "tr"))
  | ((with_reducible refine' But.tup ?ee ?ff ?gg); (case ee => walk_at "as"); (case ff => walk_at "tr1"); (case gg => walk_at "tr"))
  | ((with_reducible refine' But.sqT ?ee ?ff ?gg); (case ee => walk_at "as"); (case ff => walk_at "tr1"); (case gg => walk_at "tr"))
  | ((with_reducible refine' But.tupL ?ee ?ff ?gg); (case ee => walk_at "as"); (case ff => walk_at "tr1"); (case gg => walk_at "tr"))
  | ((with_reducible refine' But.sqTL ?ee ?ff ?gg); (case ee => walk_at "as"); (case ff => walk_at "tr1"); (case gg => walk_at "tr"))
  | ((with_reducible refine' But.sqL ?ee ?ff ?gg); (case ee => walk_at "as"); (case ff => walk_at "ne"); (case gg => walk_at "tr"))
  | ((with_reducible refine' But.at ?ee ?ff ?gg); (case ee => walk_at "as"); (case ff => walk_at "ne"); (case gg => walk_at "tr")))
local macro_rules | `(tactic| walk_at "ts") => `(tactic| first
  | with_reducible assumption
  | with_reducible exact TS.refl _
  | ((with_reducible refine' TS.trans ?gg (TS.of ?ee)); (case ee => walk_at "as"); (case gg => walk_at "ts"))
  | ((with_reducible refine' TS.trans ?gg (TS.butS ?ee ?ff)); (case ee => walk_at "as"); (case ff => walk_at "tr1"); (case gg => walk_at "ts"))
  | ((with_reducible refine' TS.trans ?gg (TS.butL ?ee ?ff)); (case ee => walk_at "as"); (case ff => walk_at "tr1"); (case gg => walk_at "ts"))
  | ((with_reducible refine' TS.trans ?gg (TS.butI ?ee ?ff)); (case ee => walk_at "as"); (case ff => walk_at "tr1"); (case gg => walk_at "ts")))
local macro_rules | `(tactic| walk_at "sm") => `(tactic| first
  | with_reducible assumption
  | with_reducible exact Same.refl _
  | ((with_reducible refine' Same.trans ?gg ?ee); (case ee => walk_at "as"); (case gg => walk_at "sm"))
  | ((with_reducible refine' But.new ?gg ?nn ?ee); (case ee => walk_at "as"); (case nn => walk_at "fr"); (case gg => walk_at "sm")))
local macro_rules | `(tactic| walk_at "fr") => `(tactic| first
  | with_reducible assumption
  | ((with_reducible refine' Same.back ?ee ?nn); (case nn => walk_at "as"); (case ee => walk_at "sm"))
  | ((with_reducible refine' But.back ?ee ?ff ?nn); (case nn => walk_at "as"); (case ff => walk_at "ne0"); (case ee => walk_at "bu")))
local macro_rules | `(tactic| walk_at "bu") => `(tactic| first
  | with_reducible assumption
  | with_reducible exact But.refl _ _
  | ((with_reducible refine' But.trans ?gg ?ee); (case ee => walk_at "as"); (case gg => walk_at "bu"))
  | ((with_reducible refine' But.trans ?gg (But.of ?ee)); (case ee => walk_at "as"); (case gg => walk_at "bu"))
  | ((with_reducible refine' But.new2 ?gg ?nn ?ee); (case ee => walk_at "as"); (case nn => walk_at "frB"); (case gg => walk_at "bu")))
local macro_rules | `(tactic| walk_at "frB") => `(tactic| first
  | with_reducible assumption
  | ((with_reducible refine' Same.back ?ee ?nn); (case nn => walk_at "as"); (case ee => walk_at "sm"))
  | ((with_reducible refine' But.back' ?ee ?ff ?nn); (case nn => walk_at "as"); (case ee => walk_at "bu"); (case ff => walk_at "tr1")))
local macro_rules | `(tactic| walk_at "tr1") => `(tactic| first
  | with_reducible assumption
  | ((with_reducible refine' Same.stm ?ee ?gg); (case ee => walk_at "as"); (case gg => walk_at "tr1"))
  | ((with_reducible refine' Same.at ?ee ?gg); (case ee => walk_at "as"); (case gg => walk_at "tr1"))
  | ((with_reducible refine' But.at ?ee ?ff ?gg); (case ee => walk_at "as"); (case ff => walk_at "ne0"); (case gg => walk_at "tr1"))
  | ((with_reducible refine' But.stm ?ee ?ff ?gg); (case ee => walk_at "as"); (case ff => walk_at "ne0"); (case gg => walk_at "tr1")))
local macro_rules | `(tactic| walk_at "ne0") => `(tactic| first
  | with_reducible assumption
  | (with_reducible apply Ne.symm; with_reducible assumption))
local macro_rules | `(tactic| walk_at "ne") => `(tactic| first
  | with_reducible assumption
  | (with_reducible apply Ne.symm; with_reducible assumption)
  | ((with_reducible refine' stm_ne ?hh ?nn); (case nn => walk_at "as"); (case hh => walk_at "tr1"))
  | ((with_reducible refine' ne_of_none ?hh ?nn); (case nn => walk_at "as"); (case hh => walk_at "tr1"))
  | ((with_reducible apply Ne.symm); (with_reducible refine' ne_of_none ?hh ?nn); (case nn => walk_at "as"); (case hh => walk_at "tr1")))
local macro_rules | `(tactic| walk_at "v") => `(tactic| first
  | with_reducible refine w_seq ?_
  | ((with_reducible refine' w_var ?vv ?_); (case vv => exact rfl))
  | with_reducible refine w_c ?_
  | with_reducible refine w_op ?_
  | with_reducible refine w_asg ?_
  | with_reducible refine w_gName ?_
  | with_reducible refine w_ret ?_
  | with_reducible refine w_ifS ?_
  | with_reducible refine w_drop ?_
  | with_reducible refine w_next ?_
  | with_reducible refine w_cons ?_
  | with_reducible refine w_nil ?_
  | with_reducible refine w_call ?_
  | with_reducible refine w_cb ?_
  | with_reducible refine w_rI0 ?_
  | with_reducible refine w_addI ?_
  | with_reducible refine w_eqI ?_
  | with_reducible refine w_neI ?_
  | with_reducible refine w_eqS ?_
  | with_reducible refine w_neS ?_
  | with_reducible refine w_eqB ?_
  | with_reducible refine w_neB ?_
  | with_reducible refine w_chain ?_
  | with_reducible refine w_test ?_
  | with_reducible refine w_tB ?_
  | with_reducible refine w_bl ?_
  | ((with_reducible refine' w_mulI ?vv ?_); (case vv => walk_at "side"))
  | ((with_reducible refine' w_rI ?vv ?_); (case vv => walk_at "side"))
  | with_reducible refine w_int1 ?_
  | with_reducible refine w_int1b ?_
  | with_reducible refine w_tup ?_
  | with_reducible refine w_lst ?_
  | with_reducible refine w_un ?_
  | with_reducible refine w_rU ?_
  | with_reducible refine w_not ?_
  | with_reducible refine w_notV ?_
  | with_reducible refine w_ifE ?_
  | with_reducible refine w_nT ?_
  | with_reducible refine w_nF ?_
  | with_reducible refine iteT ?_
  | with_reducible refine iteF ?_
  | ((with_reducible refine' w_ixT ?vv ?ww ?_); (case vv => walk_at "tr"); (case ww => walk_at "ix"))
  | ((with_reducible refine' w_ixL ?vv ?ww ?_); (case vv => walk_at "tr"); (case ww => walk_at "ix"))
  | with_reducible refine w_gSub ?_
  | ((with_reducible refine' w_setL ?vv ?ww ?_); (case vv => walk_at "tr"); (case ww => first | rfl | decide | assumption))
  | ((with_reducible refine' w_lenL ?vv ?_); (case vv => walk_at "tr"))
  | ((with_reducible refine' w_lenT ?vv ?_); (case vv => walk_at "tr"))
  | with_reducible refine w_max2 ?_
  | with_reducible refine w_max3 ?_
  | with_reducible refine w_din ?_
  | with_reducible refine w_dnotin ?_
  | with_reducible refine w_dput ?_
  | with_reducible refine w_min2 ?_
  | with_reducible refine w_bm ?_
  | with_reducible refine w_bm0 ?_
  | ((with_reducible refine' w_tyL ?vv ?_); (case vv => walk_at "tr"))
  | ((with_reducible refine' w_append ?vv ?ww ?_); (case vv => walk_at "tr"); (case ww => walk_at "size"))
  | ((with_reducible refine' w_size ?vv ?_); (case vv => walk_at "size"))
  | with_reducible refine w_forL ?_
  | with_reducible refine w_forT ?_
  | with_reducible refine w_forR1 ?_
  | with_reducible refine w_forR2 ?_
  | with_reducible refine w_lcL ?_
  | with_reducible refine w_lcT ?_
  | with_reducible refine w_lcR1 ?_
  | with_reducible refine w_yes ?_
  | with_reducible refine w_sl ?_
  | with_reducible refine w_noPart ?_
  | with_reducible refine w_part ?_
  | with_reducible refine w_int ?_
  | ((with_reducible refine' w_slL ?vv ?_); (case vv => walk_at "tr"))
  | ((with_reducible refine' w_seqL ?vv ?ww ?_); (case vv => walk_at "tr"); (case ww => rfl))
  | ((with_reducible refine' w_seqT ?vv ?ww ?_); (case vv => walk_at "tr"); (case ww => rfl))
  | with_reducible refine w_gNil ?_
  | with_reducible refine w_gCons ?_
  | with_reducible refine w_forZ ?_
  | with_reducible refine w_forM ?_
  | with_reducible refine w_forE ?_
  | with_reducible refine w_forV ?_
  | with_reducible refine w_lcZ ?_
  | with_reducible refine w_lcE ?_
  | ((with_reducible refine' w_isi (b := true) ?vv ?ww ?_); (case vv => walk_at "ty"); (case ww => decide +kernel))
  | ((with_reducible refine' w_isi (b := false) ?vv ?ww ?_); (case vv => walk_at "ty"); (case ww => decide +kernel))
  | with_reducible refine w_revL ?_
  | with_reducible refine w_pairN ?_
  | with_reducible refine w_pairC ?_
  | with_reducible refine w_dget ?_
  | with_reducible refine w_met ?_
  | ((with_reducible refine' w_metAt ?vv ?ww ?_); (case vv => walk_at "tr"); (case ww => rfl))
  | with_reducible refine w_mkI ?_
  | with_reducible refine w_fld ?_
  | ((with_reducible refine' w_fldAt ?vv ?cc ?nn ?ww ?_); (case vv => walk_at "tr"); (case cc => walk_at "cls"); (case nn => walk_at "na"); (case ww => rfl))
  | with_reducible refine w_sfld ?_
  | ((with_reducible refine' w_sfldAt ?vv ?cc ?nn ?ll ?ee ?_); (case vv => walk_at "tr"); (case cc => walk_at "cls"); (case nn => walk_at "na"); (case ll => simp); (case ee => rfl))
  | ((with_reducible refine' w_tupL ?vv ?_); (case vv => walk_at "tr"))
  | ((with_reducible refine' w_tupT ?vv ?_); (case vv => walk_at "tr"))
  | ((with_reducible refine' w_listL ?vv ?_); (case vv => walk_at "tr"))
  | ((with_reducible refine' w_listT ?vv ?_); (case vv => walk_at "tr"))
  | with_reducible refine w_tyS ?_
  | with_reducible refine w_retN ?_
  | with_reducible refine w_break ?_
  | with_reducible refine w_cont ?_)
local macro_rules | `(tactic| walk_at "w") => `(tactic| first
  | walk_at "v"
  | with_reducible refine w_or ?_
  | with_reducible refine w_and ?_
  | with_reducible refine w_andV ?_
  | with_reducible refine w_orV ?_)
local macro_rules | `(tactic| walk_at "wd") => `(tactic| first
  | walk_at "w"
  | ((with_reducible refine' w_decT ?vv ?_); (case vv => decide +kernel))
  | ((with_reducible refine' w_decF ?vv ?_); (case vv => decide +kernel)))
local macro_rules | `(tactic| walk_at "tz") => `(tactic| (intro S z; (repeat walk_at "w"); exact z))
local macro_rules | `(tactic| walk_at "wf") => `(tactic| first
  | walk_at "wd"
  | ((with_reducible refine' w_decF ?vv ?_); (case vv => with_reducible assumption)))
/-! ### k29: the law's own defs -/
def spWhole2 : Sp := fun vs H Q _ => ∃ a b : Int, vs = [.int a, .int b] ∧ Q (.bl (decide (a = b))) H
theorem len_law_whole {vs H Q E} (h : spWhole2 vs H Q E) : vs.length = 2 := by obtain ⟨_, _, rfl, _⟩ := h; rfl
def Exp.subs : Exp → List Exp
  | .cell a => .cell a :: a.subs
  | .two o a b => .two o a b :: (a.subs ++ b.subs)
  | e => [e]
theorem subs_le : ∀ e : Exp, e.subs.length + 1 ≤ 2 ^ e.dep
  | .num _ | .fld _ | .plc _ _ | .mrk _ _ => by simp [Exp.subs, Exp.dep]
  | .cell a => by
    have := subs_le a
    simp only [Exp.subs, Exp.dep, Nat.pow_succ, List.length_cons]
    have := Nat.two_pow_pos a.dep
    omega
  | .two _ a b => by
    have := subs_le a
    have := subs_le b
    simp only [Exp.subs, Exp.dep, Nat.pow_succ, List.length_cons, List.length_append]
    have := Nat.pow_le_pow_right (show 0 < 2 by decide) (Nat.le_max_left a.dep b.dep)
    have := Nat.pow_le_pow_right (show 0 < 2 by decide) (Nat.le_max_right a.dep b.dep)
    omega
theorem subs4 {n : Nat} {e : Exp} (h : OkE n e) (hn : n ≤ 4) : e.subs.length ≤ 15 := by
  have := subs_le e
  have := Nat.pow_le_pow_right (show 0 < 2 by decide) (Nat.le_trans h.1 hn)
  omega
theorem subs_ok : ∀ (e : Exp) {n : Nat}, OkE n e → ∀ x ∈ e.subs, OkE n x
  | .num _, n, h, x, hx => by rw [List.mem_singleton.mp hx]; exact h
  | .fld _, n, h, x, hx => by rw [List.mem_singleton.mp hx]; exact h
  | .plc _ _, n, h, x, hx => by rw [List.mem_singleton.mp hx]; exact h
  | .mrk _ _, n, h, x, hx => by rw [List.mem_singleton.mp hx]; exact h
  | .cell a, n, h, x, hx => by
    rcases List.mem_cons.mp hx with e | hx
    · rw [e]; exact h
    · cases n with
      | zero => exact (okE_0 h).elim
      | succ n => exact (subs_ok a (okE_cell h) x hx).mono (Nat.le_succ n)
  | .two o a b, n, h, x, hx => by
    rcases List.mem_cons.mp hx with e | hx
    · rw [e]; exact h
    · cases n with
      | zero => exact (okE_0 h).elim
      | succ n =>
        obtain ⟨_, oa, ob⟩ := okE_two h
        rcases List.mem_append.mp hx with g | g
        · exact (subs_ok a oa x g).mono (Nat.le_succ n)
        · exact (subs_ok b ob x g).mono (Nat.le_succ n)
def spInner (K : PySem.W.Frag) (n : Nat) : Sp := fun vs H Q _ => n ≤ 4 ∧ ∃ v e, vs = [v] ∧ Dp K H v (Exp.d e) ∧ OkE n e ∧ ∀ p us H', H' p = some (.lst us) → DpAll K H' us (e.subs.map Exp.d) → Same H H' → H p = none → Q (.ref p) H'
theorem len_law_inner {K : PySem.W.Frag} {n : Nat} {vs H Q E} (h : spInner K n vs H Q E) : vs.length = 1 := by obtain ⟨_, _, _, rfl, _⟩ := h; rfl
theorem no_law_inner {K : PySem.W.Frag} {vs H Q E} (h : spInner K 0 vs H Q E) : False := by obtain ⟨_, _, _, _, _, h, _⟩ := h; exact okE_0 h
def spThr (K : PySem.W.Frag) (n : Nat) : Sp := fun vs H Q _ => ∃ l nl ol ss e b os, vs = [.ref l, .int (b + e.cnt - 1), .ref nl, .ref ol] ∧ OkE n e ∧ 0 < e.cnt ∧ TreeAt ss e b ∧ PK K H l ss ∧ l ≠ ol ∧ ol ≠ nl ∧
  H ol = some (.lst (List.map V.int os)) ∧ H nl = some (.lst (natV (ndsL (restsL ss)))) ∧ os.length + e.cnt ≤ 1000 ∧ ∀ H', H' ol = some (.lst ((os ++ e.ord b).map V.int)) → But ol H H' → Q .non H'
theorem len_law_through {K : PySem.W.Frag} {n : Nat} {vs H Q E} (h : spThr K n vs H Q E) : vs.length = 4 := by obtain ⟨_, _, _, _, _, _, _, rfl, _⟩ := h; rfl
theorem no_law_through {K : PySem.W.Frag} {vs H Q E} (h : spThr K 0 vs H Q E) : False := by obtain ⟨_, _, _, _, _, _, _, _, h, _⟩ := h; exact okE_0 h
def spLHeld2 (K : PySem.W.Frag) : Sp := fun vs H Q _ => ∃ (v : V) (p : Addr) (ss : List SetE) (o : List Int), vs = [v, .ref p] ∧ Dp K H v (setsD ss) ∧ ss.length ≤ 4 ∧ (∀ x ∈ ss, OkS 4 x) ∧ H p = some (.lst (o.map V.int)) ∧ Full (ownF ss) (nOf ss) o ∧
  ∀ q H', H' q = some (.lst ((heldL (ownF ss) o).map V.int)) → Same H H' → H q = none → Q (.ref q) H'
theorem len_law_held {K : PySem.W.Frag} {vs H Q E} (h : spLHeld2 K vs H Q E) : vs.length = 2 := by obtain ⟨_, _, _, _, rfl, _⟩ := h; rfl
section
variable {P : Program} {w : World} {K : PySem.W.Frag} {mg : Str → Option Value}
theorem ok_law_whole [c : Facts K mg] : Fn P w K mg "_law_whole" 1 ["found", "due"] (spWhole2) := by
  obtain ⟨fd, F⟩ := c.d_law_whole
  refine Fn.mk' F c.g_law_whole sc_law_whole (k := 0) (fun vs H Q E h => ?_) (fun _ _ _ _ _ _ us hl => match us, hl with | [_, _], _ => rfl) (fun base cdv A outer s H vs Q E hr h => ?_)
  · exact len_law_whole h
  · have nd := sc_law_whole.nd
    have hu := hu_of hr
    refine ⟨_, (pss_one (ps_ret (pe_and (pe_callB (call_isiA (K := K) rfl) (by rfl) c.f_isinstance boot_isinstance (pa_cons (pv 0) (pa_cons (pe_bltn (v := .ty "int") (by rfl) c.f_int boot_int rfl) pa_nil))) (pe_and (pe_not (pe_callB (call_isiA (K := K) rfl) (by rfl) c.f_isinstance boot_isinstance (pa_cons (pv 0) (pa_cons (pe_bltn (v := .ty "bool") (by rfl) c.f_bool boot_bool rfl) pa_nil)))) (pe_one (pe_cmpR (op_eqA (K := K) rfl hr.units) (pv 0) (pv 1) (nomark _))))))), ?_⟩
    try dsimp only [cxOf, Cx.nox, Cx.wish]
    obtain ⟨a, b, rfl, q⟩ := h
    repeat walk_at "w"
    exact q
theorem ok_law_inner [c : Facts K mg] : ∀ n : Nat, Fn P w K mg "_law_inner" (n + 1) ["e"] ((spInner K n))
  | 0 => by
    obtain ⟨fd, F⟩ := c.d_law_inner
    exact Fn.mk' (k := 0) F c.g_law_inner sc_law_inner (fun vs H Q E h => (no_law_inner h).elim) (fun _ _ _ _ _ _ us hl => match us, hl with | [_], _ => rfl) (fun base cdv A outer s H vs Q E hr h => (no_law_inner h).elim)
  | n + 1 => by
    have G__law_inner := ok_law_inner n
    obtain ⟨fd, F⟩ := c.d_law_inner
    refine Fn.mk' F c.g_law_inner sc_law_inner (k := n + 1) (fun vs H Q E h => ?_) (fun _ _ _ _ _ _ us hl => match us, hl with | [_], _ => rfl) (fun base cdv A outer s H vs Q E hr h => ?_)
    · exact len_law_inner h
    · have nd := sc_law_inner.nd
      have hu := hu_of hr
      have hr__law_inner : Room (n + 1) _ := hr.mono (by omega)
      refine ⟨_, (pss_cons (ps_set (i := 1) nd rfl (Or.inl rfl) (pe_lst (pa_cons (pv 0) pa_nil)))
      (pss_cons (ps_if (pt_cmpR (op_notInA (K := K) rfl) (pe_ix (ix_any (K := K) rfl) (pv 0) pe_int (fun _ _ => rfl)) (pe_lst (pa_cons pe_str (pa_cons pe_str (pa_cons pe_str (pa_cons pe_str pa_nil))))) (by rfl)) (pss_one (ps_for PassesOwn.never rfl (pi_tup (pe_slice (sl_any (K := K) rfl) (pv 0) (po_some pe_int) po_none)) (pg_name (i := 2) nd rfl (Or.inl rfl)) (pss_one (ps_set (i := 1) nd rfl (Or.inl rfl) (pe_op (op_addA (K := K) rfl) (pv 1) (pe_fn G__law_inner hr__law_inner (by rfl) (pa_cons (pv 2) pa_nil))))))) pss_nil)
      (pss_one (ps_ret (pv 1))))), ?_⟩
      try dsimp only [cxOf, Cx.nox, Cx.wish]
      obtain ⟨hn4, v, e, rfl, hv, oe, q⟩ := h
      have hz : sizeLine = 16777216 := sizeLine_eq
      have kind : (∃ p u s, v = .ref p ∧ SqT K H p [.str s, u] ∧ inV (.str s) [.str "number", .str "field", .str "place", .str "mark"] = true ∧ e.subs = [e]) ∨
          ∃ (p : Addr) (o : Str) (us : List V) (es : List Exp), v = .ref p ∧ SqT K H p (.str o :: us) ∧ inV (.str o) [.str "number", .str "field", .str "place", .str "mark"] = false ∧ DpAll K H us (es.map Exp.d) ∧ (∀ x ∈ es, OkE n x) ∧ e.subs = e :: es.flatMap Exp.subs ∧ es.length ≤ 2 := by
        cases e with
        | num j =>
          obtain ⟨p, u, rfl, hp, hu'⟩ := exp_1 hv
          exact .inl ⟨p, u, _, rfl, hp, by decide +kernel, rfl⟩
        | fld j =>
          obtain ⟨p, u, rfl, hp, hu'⟩ := exp_1 hv
          exact .inl ⟨p, u, _, rfl, hp, by decide +kernel, rfl⟩
        | plc k j =>
          obtain ⟨p, u, rfl, hp, hu'⟩ := exp_1 hv
          exact .inl ⟨p, u, _, rfl, hp, by decide +kernel, rfl⟩
        | mrk k j =>
          obtain ⟨p, u, rfl, hp, hu'⟩ := exp_1 hv
          exact .inl ⟨p, u, _, rfl, hp, by decide +kernel, rfl⟩
        | cell a =>
          obtain ⟨p, u, rfl, hp, hu'⟩ := exp_1 hv
          exact .inr ⟨p, _, [u], [a], rfl, hp, by decide +kernel, .cons hu' .nil, fun x hx => by rw [List.mem_singleton.mp hx]; exact okE_cell oe, by simp [Exp.subs], by simp⟩
        | two o a b =>
          obtain ⟨p, u, u2, rfl, hp, hu', hu2⟩ := exp_2 hv
          obtain ⟨oo, oa, ob⟩ := okE_two oe
          obtain ⟨n1, n2, n3, n4, n5⟩ := oo.ne
          refine .inr ⟨p, _, [u, u2], [a, b], rfl, hp, ?_, .cons hu' (.cons hu2 .nil), fun x hx => ?_, by simp [Exp.subs], by simp⟩
          · show (("number" : Str) == o || (("field" : Str) == o || (("place" : Str) == o || (("mark" : Str) == o || false)))) = false
            rw [beq_eq_false_iff_ne.mpr n1.symm, beq_eq_false_iff_ne.mpr n2.symm, beq_eq_false_iff_ne.mpr n3.symm, beq_eq_false_iff_ne.mpr n4.symm]; rfl
          · simp only [List.mem_cons, List.mem_nil_iff, or_false] at hx
            rcases hx with rfl | rfl
            · exact oa
            · exact ob
      have s4 := subs4 oe hn4
      repeat walk_at "w"
      refine w_new fun f H1 n1 s1 f1 => ?_
      have hv1 := dp_ts (TS.of s1) _ _ e.tup hv
      rcases kind with ⟨p, u, s, rfl, hp, hin, es⟩ | ⟨p, o, us, es, rfl, hp, hin, hus, hes, esub, esl⟩
      · have hp1 := s1.sqT hp
        repeat walk_at "w"
        refine w_new fun t H2 n2 s2 f2 => ?_
        refine w_niL (SqL.of f2) rfl rfl ?_
        rw [hin]
        repeat walk_at "w"
        refine q f _ H2 (s2 _ _ f1) ?_ (s1.trans s2) n1
        rw [es]; exact .cons (dp_ts (TS.of s2) _ _ e.tup hv1) .nil
      · have hp1 := s1.sqT hp
        repeat walk_at "w"
        refine w_new fun t H2 n2 s2 f2 => ?_
        refine w_niL (SqL.of f2) rfl rfl ?_
        rw [hin]
        have hp2 := s2.sqT hp1
        repeat walk_at "w"
        refine w_slT1 (σ := []) hp2 ?_
        refine w_new fun tl H3 n3 s3 f3 => ?_
        have s13 := s1.trans (s2.trans s3)
        have hul : us.length = es.length := by rw [dpa_len hus, List.length_map]
        refine fl_tup us (fun i σ H' => ∃ g ws o2, σ = [some (.ref p), some (.ref g), o2] ∧ Same H3 H' ∧ H g = none ∧ H' g = some (.lst ws) ∧ DpAll K H' ws ((e :: (es.take i).flatMap Exp.subs).map Exp.d)) (SqT.of f3)
          ⟨f, _, _, rfl, Same.refl _, n1, (s3 _ _ (s2 _ _ f1)), .cons (dp_ts (TS.of (s2.trans s3)) _ _ e.tup hv1) .nil⟩ (fun i σ H' hi hp => ?_) (fun i x σ H' hx hp => ?_) (fun σ H' hp => ?_)
        · obtain ⟨_, _, _, _, e3, _⟩ := hp
          exact SqT.of (e3 _ _ f3)
        · obtain ⟨g, ws, o2, rfl, e3, ng, hg, hws⟩ := hp
          obtain ⟨d, hd1, hd2⟩ := dpa_at' (dpAll_ts (TS.of (s13.trans e3)) _ _ (exps_tup _) hus) hx
          rw [List.getElem?_map] at hd1
          obtain ⟨e', he, rfl⟩ := Option.map_eq_some_iff.mp hd1
          have oe' := hes e' (List.mem_of_getElem? he)
          have w1 : ws.length ≤ 15 := by
            have l1 := dpa_len hws
            rw [List.length_map] at l1
            have l2 : (e :: es.flatMap Exp.subs).length ≤ 15 := by rw [← esub]; exact s4
            have l3 : es.flatMap Exp.subs = (es.take i).flatMap Exp.subs ++ (es.drop i).flatMap Exp.subs := by rw [← List.flatMap_append, List.take_append_drop]
            rw [l3] at l2
            simp only [List.length_cons, List.length_append] at l1 l2
            omega
          repeat walk_at "w"
          refine ⟨by omega, x, e', rfl, hd2, oe', fun p2 us2 H4 h4 hd4 s4' n4 => ?_⟩
          have w2 : us2.length ≤ 15 := by
            have := dpa_len hd4
            rw [List.length_map] at this
            have := subs4 oe' (by omega)
            omega
          repeat walk_at "w"
          refine w_addL (s4' _ _ hg) h4 (by rw [hz]; omega) ?_
          refine w_new fun g2 H5 n5 s5 f5 => ?_
          repeat walk_at "w"
          refine ⟨g2, _, _, rfl, e3.trans (s4'.trans s5), (s13.trans (e3.trans s4')).free n5, f5, ?_⟩
          have eq : e :: (es.take (i + 1)).flatMap Exp.subs = (e :: (es.take i).flatMap Exp.subs) ++ e'.subs := by
            rw [take_snoc he, List.flatMap_append]; simp
          rw [eq, List.map_append]
          exact dpa_app (dpAll_ts (TS.of (s4'.trans s5)) _ _ (exps_tup _) hws) (dpAll_ts (TS.of s5) _ _ (exps_tup _) hd4)
        · obtain ⟨g, ws, o2, rfl, e3, ng, hg, hws⟩ := hp
          rw [hul, List.take_length, ← esub] at hws
          repeat walk_at "w"
          exact q g ws H' hg hws (s13.trans e3) ng
theorem ok_law_through [c : Facts K mg] (G__law_own : Fn P w K mg "_law_own" 1 ["part"] ((spOwnP K))) : ∀ n : Nat, Fn P w K mg "_law_through" (n + 2) ["parts", "number", "needs", "order"] ((spThr K n))
  | 0 => by
    obtain ⟨fd, F⟩ := c.d_law_through
    exact Fn.mk' (k := 1) F c.g_law_through sc_law_through (fun vs H Q E h => (no_law_through h).elim) (fun _ _ _ _ _ _ us hl => match us, hl with | [_, _, _, _], _ => rfl) (fun base cdv A outer s H vs Q E hr h => (no_law_through h).elim)
  | n + 1 => by
    have G__law_through := ok_law_through G__law_own n
    obtain ⟨fd, F⟩ := c.d_law_through
    refine Fn.mk' F c.g_law_through sc_law_through (k := n + 2) (fun vs H Q E h => ?_) (fun _ _ _ _ _ _ us hl => match us, hl with | [_, _, _, _], _ => rfl) (fun base cdv A outer s H vs Q E hr h => ?_)
    · exact len_law_through h
    · have nd := sc_law_through.nd
      have hu := hu_of hr
      have hr__law_own : Room 1 _ := hr.mono (by omega)
      have hr__law_through : Room (n + 2) _ := hr.mono (by omega)
      refine ⟨_, (pss_cons (ps_set (i := 4) nd rfl (Or.inl rfl) (pe_fn G__law_own hr__law_own (by rfl) (pa_cons (pe_ix (ix_any (K := K) rfl) (pv 0) (pv 1) (fun _ _ => rfl)) pa_nil)))
      (pss_cons (ps_if (PW.pt (pw_and (pt_cmpR (op_eqA (K := K) rfl hr.units) (pe_callB (call_lenA (K := K) rfl) (by rfl) c.f_len boot_len (pa_cons (pv 4) pa_nil)) pe_int (nomark _)) (pw_and1 (pt_cmpR op_gt (pe_ix (ix_any (K := K) rfl) (pv 2) (pe_ix (ix_any (K := K) rfl) (pv 4) pe_int (fun _ _ => rfl)) (fun _ _ => rfl)) (pe_ix (ix_any (K := K) rfl) (pv 2) (pe_ix (ix_any (K := K) rfl) (pv 4) pe_int (fun _ _ => rfl)) (fun _ _ => rfl)) (nomark _))))) (pss_one (ps_set (i := 4) nd rfl (Or.inl rfl) (pe_lst (pa_cons (pe_ix (ix_any (K := K) rfl) (pv 4) pe_int (fun _ _ => rfl)) (pa_cons (pe_ix (ix_any (K := K) rfl) (pv 4) pe_int (fun _ _ => rfl)) pa_nil))))) pss_nil)
      (pss_cons (ps_for PassesOwn.never rfl (pi_list (pv 4)) (pg_name (i := 5) nd rfl (Or.inl rfl)) (pss_one (ps_expr (pe_fn G__law_through hr__law_through (by rfl) (pa_cons (pv 0) (pa_cons (pv 5) (pa_cons (pv 2) (pa_cons (pv 3) pa_nil))))))))
      (pss_one (ps_expr (pe_bm PySem.F.plainAttrs_list PySem.F.slot_list_append PySem.F.type_list_append mt_append (pv 3) (pa_cons (pv 1) pa_nil))))))), ?_⟩
      try dsimp only [cxOf, Cx.nox, Cx.wish]
      obtain ⟨l, nl, ol, ss, e, b, os, rfl, oe, hc, ta, pk, nlo, non, hol, hnl, hsz, q⟩ := h
      obtain ⟨xs2, v2, d2, hx2, ha2, hd2, hr2, ho2⟩ := pk.at (x := b + e.cnt - 1) (by have := ta.lo; omega) (by have := ta.hi; omega)
      obtain ⟨ks, kk⟩ := kids_of ta oe hc
      repeat walk_at "w"
      refine ⟨v2, d2, rfl, hd2, hr2, fun w1 H1 f1 s1 n1 => ?_⟩
      rw [ho2, kk.own] at f1
      have hnl1 := s1 _ _ hnl
      have hol1 := s1 _ _ hol
      refine w_gName ?_
      refine w_seq ?_
      refine w_cutN (fun σ' H' => ∃ cs w2 o3, σ' = [some (.ref l), some (.int (b + e.cnt - 1)), some (.ref nl), some (.ref ol), some (.ref w2), o3] ∧ Same H1 H' ∧ H' w2 = some (.lst ((cs.map rootO).map V.int)) ∧ w2 ≠ ol ∧ e.ord b = ordK cs ++ [b + e.cnt - 1] ∧ (cs.map fun q => q.1.cnt).sum + 1 = e.cnt ∧ ∀ q ∈ cs, OkE n q.1 ∧ 0 < q.1.cnt ∧ TreeAt ss q.1 q.2) (fun σ' H' hp' => ?_) (fun N hN => ?_)
      · obtain ⟨cs, w2, o3, rfl, sm, hw2, nw2, eo, ec, hk⟩ := hp'
        have hnl2 := sm _ _ hnl1
        have hol2 := sm _ _ hol1
        have pk2 := (pk.sm s1).sm sm
        repeat walk_at "w"
        refine fl_list ((cs.map rootO).map V.int) (fun i σ H3 => ∃ o3, σ = [some (.ref l), some (.int (b + e.cnt - 1)), some (.ref nl), some (.ref ol), some (.ref w2), o3] ∧ But ol H' H3 ∧ H3 ol = some (.lst ((os ++ ordK (cs.take i)).map V.int))) (SqL.of hw2) ⟨_, rfl, But.refl _ _, by rw [List.take_zero, show ordK [] = [] from rfl, List.append_nil]; exact hol2⟩ (fun i σ H3 hi hp' => ?_) (fun i x σ H3 hx hp' => ?_) (fun σ H3 hp' => ?_)
        · obtain ⟨_, _, bb, _⟩ := hp'
          exact SqL.of (bb _ _ nw2 hw2)
        · obtain ⟨o3, rfl, bb, ho3⟩ := hp'
          rw [List.getElem?_map] at hx
          obtain ⟨r, hr, rfl⟩ := Option.map_eq_some_iff.mp hx
          rw [List.getElem?_map] at hr
          obtain ⟨c, hcx, rfl⟩ := Option.map_eq_some_iff.mp hr
          obtain ⟨k1, k2, k3⟩ := hk c (List.mem_of_getElem? hcx)
          have sz : ((cs.take i).map fun q => q.1.cnt).sum + c.1.cnt ≤ (cs.map fun q => q.1.cnt).sum := by
            have e1 : cs = cs.take i ++ c :: cs.drop (i + 1) := by
              obtain ⟨hi, rfl⟩ := List.getElem?_eq_some_iff.mp hcx
              rw [List.getElem_cons_drop, List.take_append_drop]
            conv => rhs; rw [e1]
            rw [List.map_append, List.sum_append, List.map_cons, List.sum_cons]; omega
          have ol' : (ordK (cs.take i)).length = ((cs.take i).map fun q => q.1.cnt).sum := by
            have one : ∀ (e : Exp) (b : Int), (e.ord b).length = e.cnt := fun e => by
              induction e with
              | num => intro b; rfl
              | fld => intro b; rfl
              | plc => intro b; rfl
              | mrk => intro b; rfl
              | cell a ih => intro b; rw [Exp.ord, List.length_append, ih]; rfl
              | two o a c iha ihc =>
                intro b
                rw [Exp.ord, List.length_append]
                by_cases z : 0 < a.cnt ∧ 0 < c.cnt ∧ a.need < c.need
                · rw [if_pos z, List.length_append, iha, ihc]; simp [Exp.cnt]; omega
                · rw [if_neg z, List.length_append, iha, ihc]; simp [Exp.cnt]
            generalize cs.take i = l
            induction l with
            | nil => rfl
            | cons a l ih => rw [show ordK (a :: l) = a.1.ord a.2 ++ ordK l from List.flatMap_cons, List.length_append, one, ih, List.map_cons, List.sum_cons]
          repeat walk_at "w"
          refine ⟨l, nl, ol, ss, c.1, c.2, os ++ ordK (cs.take i), rfl, k1, k2, k3, pk2.bl hol2 nlo bb, nlo, non, ho3, bb _ _ non.symm hnl2, by rw [List.length_append, ol']; omega, fun H4 h4 e4 => ?_⟩
          repeat walk_at "w"
          refine ⟨_, rfl, bb.trans e4, ?_⟩
          rw [take_snoc hcx]
          have : ordK (cs.take i ++ [c]) = ordK (cs.take i) ++ c.1.ord c.2 := by unfold ordK; rw [List.flatMap_append]; simp
          rw [this, ← List.append_assoc]; exact h4
        · obtain ⟨o3, rfl, bb, ho3⟩ := hp'
          rw [List.length_map, List.length_map, List.take_length] at ho3
          have oll : (os ++ ordK cs).length ≤ 1000 := by
            have : (e.ord b).length = e.cnt := by
              have one : ∀ (e : Exp) (b : Int), (e.ord b).length = e.cnt := fun e => by
                induction e with
                | num => intro b; rfl
                | fld => intro b; rfl
                | plc => intro b; rfl
                | mrk => intro b; rfl
                | cell a ih => intro b; rw [Exp.ord, List.length_append, ih]; rfl
                | two o a c iha ihc =>
                  intro b
                  rw [Exp.ord, List.length_append]
                  by_cases z : 0 < a.cnt ∧ 0 < c.cnt ∧ a.need < c.need
                  · rw [if_pos z, List.length_append, iha, ihc]; simp [Exp.cnt]; omega
                  · rw [if_neg z, List.length_append, iha, ihc]; simp [Exp.cnt]
              exact one e b
            rw [eo, List.length_append, List.length_singleton] at this
            rw [List.length_append]; omega
          repeat walk_at "w"
          refine w_append ho3 (by rw [sizeLine_eq, List.length_map]; omega) ?_
          refine w_chg fun H4 e4 f4 => ?_
          repeat walk_at "w"
          refine q H4 ?_ (((But.of (s1.trans sm)).trans bb).trans e4)
          rw [eo, ← List.append_assoc, List.map_append]; exact f4
      · have nw1 : w1 ≠ ol := (ne_of_none hol n1).symm
        match ks, kk, f1 with
        | [], kk, f1 =>
          repeat walk_at "w"
          refine ite2 (fun h => absurd h (by simp)) (fun _ => ?_)
          repeat walk_at "w"
          exact hN _ _ ⟨[], w1, _, rfl, Same.refl _, f1, nw1, kk.ord0 rfl, kk.cnt, kk.ok⟩
        | [x], kk, f1 =>
          repeat walk_at "w"
          refine ite2 (fun h => absurd h (by simp)) (fun _ => ?_)
          repeat walk_at "w"
          exact hN _ _ ⟨[x], w1, _, rfl, Same.refl _, f1, nw1, by rw [kk.ord1 x rfl]; simp [ordK], kk.cnt, kk.ok⟩
        | [x, y], kk, f1 =>
          have f1' : H1 w1 = some (.lst [.int (rootO x), .int (rootO y)]) := f1
          obtain ⟨x1, x2, x3⟩ := kk.ok x List.mem_cons_self
          obtain ⟨y1, y2, y3⟩ := kk.ok y (List.mem_cons_of_mem _ List.mem_cons_self)
          have hat : ∀ z : Exp × Int, 0 < z.1.cnt → TreeAt ss z.1 z.2 → atI (natV (ndsL (restsL ss))) (rootO z) = some (.int (z.1.need : Nat)) := fun z h1 h2 => by
            have lo := h2.lo
            have hi := h2.hi
            have e1 := nd_root h2.nd h1
            refine natV_at (by unfold rootO; omega) ?_
            unfold nedF at e1
            rw [List.getD_eq_getElem?_getD] at e1
            have hl : (rootO z).toNat < (ndsL (restsL ss)).length := by rw [ndsL_len]; unfold nOf at hi; unfold rootO; omega
            rw [List.getElem?_eq_getElem hl]
            rw [show z.2 + (z.1.cnt : Int) - 1 = rootO z from rfl, List.getElem?_eq_getElem hl] at e1
            exact congrArg some e1
          have hx' := hat x x2 x3
          have hy' := hat y y2 y3
          repeat walk_at "w"
          refine ite2 (fun _ => ?_) (fun h => (h (by simp)).elim)
          repeat walk_at "w"
          refine ite2 (fun h3 => ?_) (fun h3 => ?_)
          · rw [decide_eq_true_eq] at h3
            repeat walk_at "w"
            refine w_new fun w2 H2 n2 s2 f2 => ?_
            repeat walk_at "w"
            refine hN _ _ ⟨[y, x], w2, _, rfl, s2, f2, (ne_of_none hol1 n2).symm, ?_, ?_, fun q hq => ?_⟩
            · rw [kk.ord2 x y rfl, if_pos (by omega)]; simp [ordK]
            · have := kk.cnt
              simp only [List.map_cons, List.map_nil, List.sum_cons, List.sum_nil] at this ⊢
              omega
            · simp only [List.mem_cons, List.not_mem_nil, or_false] at hq
              rcases hq with rfl | rfl
              · exact ⟨y1, y2, y3⟩
              · exact ⟨x1, x2, x3⟩
          · rw [decide_eq_true_eq] at h3
            repeat walk_at "w"
            refine hN _ _ ⟨[x, y], w1, _, rfl, Same.refl _, f1, nw1, ?_, kk.cnt, kk.ok⟩
            rw [kk.ord2 x y rfl, if_neg (by omega)]; simp [ordK]
        | _ :: _ :: _ :: _, kk, _ => exact absurd kk.few (by simp)
theorem ok_law_held [c : Facts K mg] (G__law_own : Fn P w K mg "_law_own" 1 ["part"] ((spOwnP K))) (G__law_parts : Fn P w K mg "_law_parts" 6 ["sets"] ((spLP K))) : Fn P w K mg "_law_held" 7 ["sets", "order"] ((spLHeld2 K)) := by
  obtain ⟨fd, F⟩ := c.d_law_held
  refine Fn.mk' F c.g_law_held sc_law_held (k := 6) (fun vs H Q E h => ?_) (fun _ _ _ _ _ _ us hl => match us, hl with | [_, _], _ => rfl) (fun base cdv A outer s H vs Q E hr h => ?_)
  · exact len_law_held h
  · have nd := sc_law_held.nd
    have hu := hu_of hr
    have hr__law_own : Room 1 _ := hr.mono (by omega)
    have hr__law_parts : Room 6 _ := hr.mono (by omega)
    refine ⟨_, (pss_cons (ps_asg (pe_fn G__law_parts hr__law_parts (by rfl) (pa_cons (pv 0) pa_nil)) (pg_seq 2 (K := K) rfl rfl (pgs_cons (pg_name (i := 2) nd rfl (Or.inr rfl)) (pgs_cons (pg_name (i := 3) nd rfl (Or.inl rfl)) pgs_nil))))
      (pss_cons (ps_set (i := 4) nd rfl (Or.inl rfl) (pe_lst pa_nil))
      (pss_cons (ps_set (i := 5) nd rfl (Or.inl rfl) (pe_lst pa_nil))
      (pss_cons (ps_for PassesOwn.never rfl (pi_list (pv 1)) (pg_name (i := 6) nd rfl (Or.inr rfl)) (pss_cons (ps_set (i := 4) nd rfl (Or.inl rfl) (pe_op (op_addA (K := K) rfl) (pe_lc (own := [("one", 7)]) rfl nd (pi_list (pv 4)) (blkOk_by (N := N_law_held) (sc := defScope s_law_held) (by decide +kernel)) (fun _ _ _ _ _ => (pg_name (i := 7) nd rfl (Or.inl rfl))) (fun _ _ _ _ _ => pts_one (pt_cmpR (op_notInA (K := K) rfl) (pv 7) (pe_fn G__law_own hr__law_own (by rfl) (pa_cons (pe_ix (ix_any (K := K) rfl) (pv 2) (pv 6) (fun _ _ => rfl)) pa_nil)) (by rfl))) (fun _ _ _ _ _ => (pv 7))) (pe_lst (pa_cons (pv 6) pa_nil))))
      (pss_one (ps_expr (pe_bm PySem.F.plainAttrs_list PySem.F.slot_list_append PySem.F.type_list_append mt_append (pv 5) (pa_cons (pe_callB (call_lenA (K := K) rfl) (by rfl) c.f_len boot_len (pa_cons (pv 4) pa_nil)) pa_nil))))))
      (pss_one (ps_ret (pv 5))))))), ?_⟩
    try dsimp only [cxOf, Cx.nox, Cx.wish]
    obtain ⟨v, p, ss, o, rfl, hv, hl, ho, hp0, hf, q⟩ := h
    have hz : sizeLine = 16777216 := sizeLine_eq
    have hol : o.length ≤ 120 := by have := hf.len; have := nOf_le ho hl; omega
    repeat walk_at "w"
    refine ⟨v, ss, rfl, hv, hl, ho, fun t l r H0 ht hP hR nl nr s0 nlr => ?_⟩
    have pk : PK K H0 l ss := ⟨hP, ho, hl⟩
    have hp := s0 _ _ hp0
    repeat walk_at "w"
    refine w_new fun ph H1 n1 s1 f1 => ?_
    repeat walk_at "w"
    refine w_new fun f H2 n2 s2 f2 => ?_
    repeat walk_at "w"
    have s02 := s1.trans s2
    have nf : H0 f = none := s1.free n2
    refine fl_list (o.map V.int) (fun i σ H' => ∃ o4 o5 qh, σ = [some v, some (.ref p), some (.ref l), some (.ref r), some (.ref qh), some (.ref f), o4, o5] ∧ qh ≠ f ∧ Same H0 H' ∧ H' qh = some (.lst ((held (ownF ss) (o.take i).reverse).reverse.map V.int)) ∧ H' f = some (.lst (((heldL (ownF ss) o).take i).map V.int))) (SqL.of (s02 _ _ hp))
      ⟨_, _, ph, rfl, ne_of_none f1 n2, s02, s2 _ _ f1, f2⟩ (fun i σ H' hi hp' => ?_) (fun i x σ H' hx hp' => ?_) (fun σ H' hp' => ?_)
    · obtain ⟨_, _, _, _, _, e, _⟩ := hp'
      exact SqL.of (e _ _ hp)
    · obtain ⟨o4, o5, qh, rfl, nqf, e, hq, hfd⟩ := hp'
      rw [List.getElem?_map] at hx
      obtain ⟨y, hy, rfl⟩ := Option.map_eq_some_iff.mp hx
      have hil := (List.getElem?_eq_some_iff.mp hy).1
      have by' := (hf.mem y).mp (List.mem_of_getElem? hy)
      have hR : (held (ownF ss) (o.take i).reverse).length ≤ i := by
        have : ∀ R : List Int, (held (ownF ss) R).length ≤ R.length := fun R => by
          induction R with
          | nil => exact Nat.le_refl _
          | cons z R ih => rw [held, List.length_cons, List.length_cons]; have := List.length_filter_le (fun y => !decide (y ∈ ownF ss z)) (held (ownF ss) R); omega
        have := this (o.take i).reverse
        rw [List.length_reverse, List.length_take] at this
        omega
      generalize hRe : held (ownF ss) (o.take i).reverse = R at hq hR
      repeat walk_at "w"
      refine lc_L (R.reverse.map V.int) (fun D j ys H'' => Same H' H'' ∧ ys = ((R.reverse.take j).filter (fun z => !decide (z ∈ ownF ss y))).map V.int) (SqL.of hq) (fun D H'' hD e f => ⟨e, rfl⟩) (fun D hD j ys H'' hi hy hp => SqL.of (hp.1 _ _ hq)) (fun D hD j z ys H'' hzj hll hys hp2 => ?_) (fun D hD ys H'' hll hys hp2 => ?_)
      · obtain ⟨e2, rfl⟩ := hp2
        rw [List.getElem?_map] at hzj
        obtain ⟨z', hz', rfl⟩ := Option.map_eq_some_iff.mp hzj
        obtain ⟨xs2, v2, d2, hx2, ha2, hd2, hr2, ho2⟩ := (pk.sm (e.trans e2)).at by'.1 by'.2
        repeat walk_at "w"
        refine ⟨v2, d2, rfl, hd2, hr2, fun pw H6 fw s6 nw => ?_⟩
        rw [ho2] at fw
        refine w_niIL (SqL.of fw) ?_
        repeat walk_at "w"
        have hjl := (List.getElem?_eq_some_iff.mp hz').1
        rw [List.length_reverse] at hjl
        refine ite2 (fun h2 => ?_) (fun h2 => ?_)
        · repeat walk_at "w"
          refine lc_end (s6 _ _ hys) hll (by rw [hz]; omega) fun H8 e8 f8 => ⟨But.new (e2.trans s6) hD e8, ?_⟩
          rw [take_snoc hz', List.filter_append, List.filter_cons, if_pos h2, List.map_append]; rfl
        · refine lc_skip (s6 _ _ hys) hll ⟨e2.trans s6, ?_⟩
          rw [take_snoc hz', List.filter_append, List.filter_cons, if_neg h2, List.filter_nil, List.append_nil]
      · obtain ⟨e2, rfl⟩ := hp2
        rw [List.length_map, List.take_length] at hys
        repeat walk_at "w"
        refine w_new fun p5 H5 n5 s5 f5 => ?_
        refine w_addL (s5 _ _ hys) f5 (by rw [hz, List.length_map]; have := List.length_filter_le (fun z => !decide (z ∈ ownF ss y)) R.reverse; rw [List.length_reverse] at this; show _ + 1 ≤ _; omega) ?_
        refine w_new fun p6 H6 n6 s6 f6 => ?_
        have e6 : Same H' H6 := e2.trans (s5.trans s6)
        have e3 : (o.take (i + 1)).reverse = y :: (o.take i).reverse := rev_snoc hy
        have e4 : (held (ownF ss) (o.take (i + 1)).reverse).reverse.map V.int = (R.reverse.filter (fun z => !decide (z ∈ ownF ss y))).map V.int ++ [.int y] := by
          rw [e3, held, hRe, List.reverse_cons, List.map_append, List.filter_reverse]; rfl
        rw [← e4] at f6
        repeat walk_at "w"
        have e7 : ((((held (ownF ss) (o.take (i + 1)).reverse).reverse.map V.int).length : Nat) : Int) = cnts' (ownF ss) o i := by
          rw [List.length_map, List.length_reverse]; rfl
        rw [e7]
        refine w_append (e6 _ _ hfd) (by rw [hz, List.length_map, List.length_take]; omega) ?_
        refine w_chg fun H7 e8 f7 => ?_
        repeat walk_at "w"
        have n6f : p6 ≠ f := fun z => by
          have := (e2.trans s5) _ _ hfd
          rw [← z, n6] at this; cases this
        refine ⟨_, _, p6, rfl, n6f, But.new (e.trans e6) nf e8, e8 _ _ n6f f6, ?_⟩
        rw [heldL_take _ _ hil, List.map_append]; exact f7
    · obtain ⟨o4, o5, qh, rfl, nqf, e, hq, hfd⟩ := hp'
      rw [List.length_map, List.take_of_length_le (by rw [heldL_len]; exact Nat.le_refl _)] at hfd
      repeat walk_at "w"
      exact q f H' hfd (s0.trans e) (s0.free nf)
end

end J
namespace J
open PySem PySem.Spec PyProof.Rows L2
local macro_rules | `(tactic| walk_at "cls") => `(tactic| first
  | with_reducible exact Facts.cl_Parts
  | with_reducible exact Facts.cl_Order)
local macro_rules | `(tactic| walk_at "na") => `(tactic| first
  | with_reducible exact Facts.na_Parts_rows
  | with_reducible exact Facts.na_Order_parts
  | with_reducible exact Facts.na_Order_order
  | with_reducible exact Facts.na_Order_needed)
local macro_rules | `(tactic| walk_at "ty") => `(tactic| first
  | with_reducible exact ty_int
  | with_reducible exact ty_bl
  | with_reducible exact ty_str
  | with_reducible exact ty_non
  | ((with_reducible refine' ty_lst ?vv); (case vv => walk_at "tr"))
  | ((with_reducible refine' ty_sqT ?vv); (case vv => walk_at "tr"))
  | ((with_reducible refine' ty_dic ?vv); (case vv => walk_at "tr")))
local macro_rules | `(tactic| walk_at "ix") => `(tactic| first | exact at0 | exact at1 | exact at2 | assumption)
local macro_rules | `(tactic| walk_at "size") => `(tactic| first
  | assumption
  | (show _ < sizeLine; rw [sizeLine_eq]; (try simp only [List.length_cons, List.length_nil, List.length_append, List.length_map]); omega)
  | (show _ ≤ sizeLine; rw [sizeLine_eq]; (try simp only [List.length_cons, List.length_nil, List.length_append, List.length_map]); omega))
local macro_rules | `(tactic| walk_at "side") => `(tactic| first
  | assumption
  | ((with_reducible refine cdw ?_ ?_) <;> omega)
  | omega
  | (exact ⟨by omega, by omega⟩)
  | (exact Or.inl ⟨by omega, by omega⟩)
  | (exact Or.inr ⟨by omega, by omega⟩)
  | decide
  | (simp only [List.length_cons, List.length_nil, List.length_append, List.length_map]; omega)
  | (show _ ≤ _; decide))
local macro_rules | `(tactic| walk_at "as") => `(tactic| with_reducible assumption)
local macro_rules | `(tactic| walk_at "tr") => `(tactic| first
  | with_reducible assumption
  | with_reducible exact upd_same
  | ((with_reducible refine' SqL.of ?hh); (case hh => walk_at "as"))
  | ((with_reducible refine' SqT.of ?hh); (case hh => walk_at "as"))
  | ((with_reducible refine' Same.stm ?ee ?gg); (case ee => walk_at "as"); (case gg => walk_at "tr"))
  | ((with_reducible refine' Same.sqT ?ee ?gg); (case ee => walk_at "as"); (case gg => walk_at "tr"))
  | ((with_reducible refine' Same.sqL ?ee ?gg); (case ee => walk_at "as"); (case gg => walk_at "tr"))
  | ((with_reducible refine' Same.at ?ee ?gg); (case ee => walk_at "as"); (case gg => walk_at "tr"))
  | ((with_reducible refine' But.stm ?ee ?ff ?gg); (case ee => walk_at "as"); (case ff => walk_at "ne"); (case gg => walk_at "tr"))
  | ((with_reducible refine' But.tup ?ee ?ff ?gg); (case ee => walk_at "as"); (case ff => walk_at "tr1"); (case gg => walk_at "tr"))
  | ((with_reducible refine' But.sqT ?ee ?ff ?gg); (case ee => walk_at "as"); (case ff => walk_at "tr1"); (case gg => walk_at "tr"))
  | ((with_reducible refine' But.tupL ?ee ?ff ?gg); (case ee => walk_at "as"); (case ff => walk_at "tr1"); (case gg => walk_at "tr"))
  | ((with_reducible refine' But.sqTL ?ee ?ff ?gg); (case ee => walk_at "as"); (case ff => walk_at "tr1"); (case gg => walk_at "tr"))
  | ((with_reducible refine' But.sqL ?ee ?ff ?gg); (case ee => walk_at "as"); (case ff => walk_at "ne"); (case gg => walk_at "tr"))
  | ((with_reducible refine' But.at ?ee ?ff ?gg); (case ee => walk_at "as"); (case ff => walk_at "ne"); (case gg => walk_at "tr")))
local macro_rules | `(tactic| walk_at "ts") => `(tactic| first
  | with_reducible assumption
  | with_reducible exact TS.refl _
  | ((with_reducible refine' TS.trans ?gg (TS.of ?ee)); (case ee => walk_at "as"); (case gg => walk_at "ts"))
  | ((with_reducible refine' TS.trans ?gg (TS.butS ?ee ?ff)); (case ee => walk_at "as"); (case ff => walk_at "tr1"); (case gg => walk_at "ts"))
  | ((with_reducible refine' TS.trans ?gg (TS.butL ?ee ?ff)); (case ee => walk_at "as"); (case ff => walk_at "tr1"); (case gg => walk_at "ts"))
  | ((with_reducible refine' TS.trans ?gg (TS.butI ?ee ?ff)); (case ee => walk_at "as"); (case ff => walk_at "tr1"); (case gg => walk_at "ts")))
local macro_rules | `(tactic| walk_at "sm") => `(tactic| first
  | with_reducible assumption
  | with_reducible exact Same.refl _
  | ((with_reducible refine' Same.trans ?gg ?ee); (case ee => walk_at "as"); (case gg => walk_at "sm"))
  | ((with_reducible refine' But.new ?gg ?nn ?ee); (case ee => walk_at "as"); (case nn => walk_at "fr"); (case gg => walk_at "sm")))
local macro_rules | `(tactic| walk_at "fr") => `(tactic| first
  | with_reducible assumption
  | ((with_reducible refine' Same.back ?ee ?nn); (case nn => walk_at "as"); (case ee => walk_at "sm"))
  | ((with_reducible refine' But.back ?ee ?ff ?nn); (case nn => walk_at "as"); (case ff => walk_at "ne0"); (case ee => walk_at "bu")))
local macro_rules | `(tactic| walk_at "bu") => `(tactic| first
  | with_reducible assumption
  | with_reducible exact But.refl _ _
  | ((with_reducible refine' But.trans ?gg ?ee); (case ee => walk_at "as"); (case gg => walk_at "bu"))
  | ((with_reducible refine' But.trans ?gg (But.of ?ee)); (case ee => walk_at "as"); (case gg => walk_at "bu"))
  | ((with_reducible refine' But.new2 ?gg ?nn ?ee); (case ee => walk_at "as"); (case nn => walk_at "frB"); (case gg => walk_at "bu")))
local macro_rules | `(tactic| walk_at "frB") => `(tactic| first
  | with_reducible assumption
  | ((with_reducible refine' Same.back ?ee ?nn); (case nn => walk_at "as"); (case ee => walk_at "sm"))
  | ((with_reducible refine' But.back' ?ee ?ff ?nn); (case nn => walk_at "as"); (case ee => walk_at "bu"); (case ff => walk_at "tr1")))
local macro_rules | `(tactic| walk_at "tr1") => `(tactic| first
  | with_reducible assumption
  | ((with_reducible refine' Same.stm ?ee ?gg); (case ee => walk_at "as"); (case gg => walk_at "tr1"))
  | ((with_reducible refine' Same.at ?ee ?gg); (case ee => walk_at "as"); (case gg => walk_at "tr1"))
  | ((with_reducible refine' But.at ?ee ?ff ?gg); (case ee => walk_at "as"); (case ff => walk_at "ne0"); (case gg => walk_at "tr1"))
  | ((with_reducible refine' But.stm ?ee ?ff ?gg); (case ee => walk_at "as"); (case ff => walk_at "ne0"); (case gg => walk_at "tr1")))
local macro_rules | `(tactic| walk_at "ne0") => `(tactic| first
  | with_reducible assumption
  | (with_reducible apply Ne.symm; with_reducible assumption))
local macro_rules | `(tactic| walk_at "ne") => `(tactic| first
  | with_reducible assumption
  | (with_reducible apply Ne.symm; with_reducible assumption)
  | ((with_reducible refine' stm_ne ?hh ?nn); (case nn => walk_at "as"); (case hh => walk_at "tr1"))
  | ((with_reducible refine' ne_of_none ?hh ?nn); (case nn => walk_at "as"); (case hh => walk_at "tr1"))
  | ((with_reducible apply Ne.symm); (with_reducible refine' ne_of_none ?hh ?nn); (case nn => walk_at "as"); (case hh => walk_at "tr1")))
local macro_rules | `(tactic| walk_at "v") => `(tactic| first
  | with_reducible refine w_seq ?_
  | ((with_reducible refine' w_var ?vv ?_); (case vv => exact rfl))
  | with_reducible refine w_c ?_
  | with_reducible refine w_op ?_
  | with_reducible refine w_asg ?_
  | with_reducible refine w_gName ?_
  | with_reducible refine w_ret ?_
  | with_reducible refine w_ifS ?_
  | with_reducible refine w_drop ?_
  | with_reducible refine w_next ?_
  | with_reducible refine w_cons ?_
  | with_reducible refine w_nil ?_
  | with_reducible refine w_call ?_
  | with_reducible refine w_cb ?_
  | with_reducible refine w_rI0 ?_
  | with_reducible refine w_addI ?_
  | with_reducible refine w_eqI ?_
  | with_reducible refine w_neI ?_
  | with_reducible refine w_eqS ?_
  | with_reducible refine w_neS ?_
  | with_reducible refine w_eqB ?_
  | with_reducible refine w_neB ?_
  | with_reducible refine w_chain ?_
  | with_reducible refine w_test ?_
  | with_reducible refine w_tB ?_
  | with_reducible refine w_bl ?_
  | ((with_reducible refine' w_mulI ?vv ?_); (case vv => walk_at "side"))
  | ((with_reducible refine' w_rI ?vv ?_); (case vv => walk_at "side"))
  | with_reducible refine w_int1 ?_
  | with_reducible refine w_int1b ?_
  | with_reducible refine w_tup ?_
  | with_reducible refine w_lst ?_
  | with_reducible refine w_un ?_
  | with_reducible refine w_rU ?_
  | with_reducible refine w_not ?_
  | with_reducible refine w_notV ?_
  | with_reducible refine w_ifE ?_
  | with_reducible refine w_nT ?_
  | with_reducible refine w_nF ?_
  | with_reducible refine iteT ?_
  | with_reducible refine iteF ?_
  | ((with_reducible refine' w_ixT ?vv ?ww ?_); (case vv => walk_at "tr"); (case ww => walk_at "ix"))
  | ((with_reducible refine' w_ixL ?vv ?ww ?_); (case vv => walk_at "tr"); (case ww => walk_at "ix"))
  | with_reducible refine w_gSub ?_
  | ((with_reducible refine' w_setL ?vv ?ww ?_); (case vv => walk_at "tr"); (case ww => first | rfl | decide | assumption))
  | ((with_reducible refine' w_lenL ?vv ?_); (case vv => walk_at "tr"))
  | ((with_reducible refine' w_lenT ?vv ?_); (case vv => walk_at "tr"))
  | with_reducible refine w_max2 ?_
  | with_reducible refine w_max3 ?_
  | with_reducible refine w_din ?_
  | with_reducible refine w_dnotin ?_
  | with_reducible refine w_dput ?_
  | with_reducible refine w_min2 ?_
  | with_reducible refine w_bm ?_
  | with_reducible refine w_bm0 ?_
  | ((with_reducible refine' w_tyL ?vv ?_); (case vv => walk_at "tr"))
  | ((with_reducible refine' w_append ?vv ?ww ?_); (case vv => walk_at "tr"); (case ww => walk_at "size"))
  | ((with_reducible refine' w_size ?vv ?_); (case vv => walk_at "size"))
  | with_reducible refine w_forL ?_
  | with_reducible refine w_forT ?_
  | with_reducible refine w_forR1 ?_
  | with_reducible refine w_forR2 ?_
  | with_reducible refine w_lcL ?_
  | with_reducible refine w_lcT ?_
  | with_reducible refine w_lcR1 ?_
  | with_reducible refine w_yes ?_
  | with_reducible refine w_sl ?_
  | with_reducible refine w_noPart ?_
  | with_reducible refine w_part ?_
  | with_reducible refine w_int ?_
  | ((with_reducible refine' w_slL ?vv ?_); (case vv => walk_at "tr"))
  | ((with_reducible refine' w_seqL ?vv ?ww ?_); (case vv => walk_at "tr"); (case ww => rfl))
  | ((with_reducible refine' w_seqT ?vv ?ww ?_); (case vv => walk_at "tr"); (case ww => rfl))
  | with_reducible refine w_gNil ?_
  | with_reducible refine w_gCons ?_
  | with_reducible refine w_forZ ?_
  | with_reducible refine w_forM ?_
  | with_reducible refine w_forE ?_
  | with_reducible refine w_forV ?_
  | with_reducible refine w_lcZ ?_
  | with_reducible refine w_lcE ?_
  | ((with_reducible refine' w_isi (b := true) ?vv ?ww ?_); (case vv => walk_at "ty"); (case ww => decide +kernel))
  | ((with_reducible refine' w_isi (b := false) ?vv ?ww ?_); (case vv => walk_at "ty"); (case ww => decide +kernel))
  | with_reducible refine w_revL ?_
  | with_reducible refine w_pairN ?_
  | with_reducible refine w_pairC ?_
  | with_reducible refine w_dget ?_
  | with_reducible refine w_met ?_
  | ((with_reducible refine' w_metAt ?vv ?ww ?_); (case vv => walk_at "tr"); (case ww => rfl))
  | with_reducible refine w_mkI ?_
  | with_reducible refine w_fld ?_
  | ((with_reducible refine' w_fldAt ?vv ?cc ?nn ?ww ?_); (case vv => walk_at "tr"); (case cc => walk_at "cls"); (case nn => walk_at "na"); (case ww => rfl))
  | with_reducible refine w_sfld ?_
  | ((with_reducible refine' w_sfldAt ?vv ?cc ?nn ?ll ?ee ?_); (case vv => walk_at "tr"); (case cc => walk_at "cls"); (case nn => walk_at "na"); (case ll => simp); (case ee => rfl))
  | ((with_reducible refine' w_tupL ?vv ?_); (case vv => walk_at "tr"))
  | ((with_reducible refine' w_tupT ?vv ?_); (case vv => walk_at "tr"))
  | ((with_reducible refine' w_listL ?vv ?_); (case vv => walk_at "tr"))
  | ((with_reducible refine' w_listT ?vv ?_); (case vv => walk_at "tr"))
  | with_reducible refine w_tyS ?_
  | with_reducible refine w_retN ?_
  | with_reducible refine w_break ?_
  | with_reducible refine w_cont ?_)
local macro_rules | `(tactic| walk_at "w") => `(tactic| first
  | walk_at "v"
  | with_reducible refine w_or ?_
  | with_reducible refine w_and ?_
  | with_reducible refine w_andV ?_
  | with_reducible refine w_orV ?_)
local macro_rules | `(tactic| walk_at "wd") => `(tactic| first
  | walk_at "w"
  | ((with_reducible refine' w_decT ?vv ?_); (case vv => decide +kernel))
  | ((with_reducible refine' w_decF ?vv ?_); (case vv => decide +kernel)))
local macro_rules | `(tactic| walk_at "tz") => `(tactic| (intro S z; (repeat walk_at "w"); exact z))
local macro_rules | `(tactic| walk_at "wf") => `(tactic| first
  | walk_at "wd"
  | ((with_reducible refine' w_decF ?vv ?_); (case vv => with_reducible assumption)))
/-! ### k29: needs, part by part, as the law tells them -/
def spPN (K : PySem.W.Frag) : Sp := fun vs H Q _ => ∃ l ss, vs = [.ref l] ∧ PK K H l ss ∧ ∀ nl H', H' nl = some (.lst (natV (ndsL (restsL ss)))) → Same H H' → H nl = none → Q (.ref nl) H'
theorem len_law_part_needs {K : PySem.W.Frag} {vs H Q E} (h : spPN K vs H Q E) : vs.length = 1 := by obtain ⟨_, _, rfl, _⟩ := h; rfl
theorem rowN_gone {nd : Int → Nat} {s : Str} {items : List PyData} (l1 : 1 ≤ items.length) (l2 : items.length ≤ 2) (h : intsD items = []) : rowN nd (.tuple (.str s :: items)) = 1 := by
  have : ∀ x ∈ items, valD nd x = 0 := fun x hx => by
    unfold valD
    cases e : intD x with
    | none => rfl
    | some j =>
      have : j ∈ intsD items := List.mem_filterMap.mpr ⟨x, hx, e⟩
      rw [h] at this
      exact (List.not_mem_nil this).elim
  match items, l1, l2, this with
  | [x], _, _, t => show max 1 (valD nd x) = 1; rw [t x List.mem_cons_self]; rfl
  | [x, y], _, _, t =>
    show (if valD nd x = valD nd y ∧ 0 < valD nd x then valD nd x + 1 else max 1 (max (valD nd x) (valD nd y))) = 1
    rw [t x List.mem_cons_self, t y (List.mem_cons_of_mem _ List.mem_cons_self)]; rfl
section
variable {P : Program} {w : World} {K : PySem.W.Frag} {mg : Str → Option Value}
theorem ok_law_part_needs [c : Facts K mg] : Fn P w K mg "_law_part_needs" 1 ["parts"] ((spPN K)) := by
  obtain ⟨fd, F⟩ := c.d_law_part_needs
  refine Fn.mk' F c.g_law_part_needs sc_law_part_needs (k := 0) (fun vs H Q E h => ?_) (fun _ _ _ _ _ _ us hl => match us, hl with | [_], _ => rfl) (fun base cdv A outer s H vs Q E hr h => ?_)
  · exact len_law_part_needs h
  · have nd := sc_law_part_needs.nd
    have hu := hu_of hr
    refine ⟨_, (pss_cons (ps_set (i := 1) nd rfl (Or.inr rfl) (pe_lst pa_nil))
      (pss_cons (ps_for PassesOwn.never rfl (pi_list (pv 0)) (pg_name (i := 2) nd rfl (Or.inl rfl)) (pss_cons (ps_set (i := 3) nd rfl (Or.inl rfl) (pe_lst (pa_cons pe_int (pa_cons pe_int pa_nil))))
      (pss_cons (ps_if (pt_cmpR (op_notInA (K := K) rfl) (pe_ix (ix_any (K := K) rfl) (pv 2) pe_int (fun _ _ => rfl)) (pe_lst (pa_cons pe_str (pa_cons pe_str pa_nil))) (by rfl)) (pss_one (ps_set (i := 3) nd rfl (Or.inl rfl) (pe_callB cr_sorted (by rfl) c.f_sorted boot_sorted (pa_cons (pe_lc (own := [("one", 4)]) rfl nd (pi_tup (pe_slice (sl_any (K := K) rfl) (pv 2) (po_some pe_int) po_none)) (blkOk_by (N := N_law_part_needs) (sc := defScope s_law_part_needs) (by decide +kernel)) (fun _ _ _ _ _ => (pg_name (i := 4) nd rfl (Or.inl rfl))) (fun _ _ _ _ _ => pts_nil) (fun _ _ _ _ _ => (pe_ifExp (pt_val (pe_callB (call_isiA (K := K) rfl) (by rfl) c.f_isinstance boot_isinstance (pa_cons (pv 4) (pa_cons (pe_bltn (v := .ty "int") (by rfl) c.f_int boot_int rfl) pa_nil)))) (pe_ix (ix_any (K := K) rfl) (pv 1) (pv 4) (fun _ _ => rfl)) pe_int))) pa_nil)))) pss_nil)
      (pss_one (ps_if (PW.pt (pw_and (pt_cmpR (op_eqA (K := K) rfl hr.units) (pe_callB (call_lenA (K := K) rfl) (by rfl) c.f_len boot_len (pa_cons (pv 3) pa_nil)) pe_int (nomark _)) (pw_and (pt_cmpR (op_eqA (K := K) rfl hr.units) (pe_ix (ix_any (K := K) rfl) (pv 3) pe_int (fun _ _ => rfl)) (pe_ix (ix_any (K := K) rfl) (pv 3) pe_int (fun _ _ => rfl)) (nomark _)) (pw_and1 (pt_cmpR op_gt (pe_ix (ix_any (K := K) rfl) (pv 3) pe_int (fun _ _ => rfl)) pe_int (nomark _)))))) (pss_one (ps_expr (pe_bm PySem.F.plainAttrs_list PySem.F.slot_list_append PySem.F.type_list_append mt_append (pv 1) (pa_cons (pe_op (op_addA (K := K) rfl) (pe_ix (ix_any (K := K) rfl) (pv 3) pe_int (fun _ _ => rfl)) pe_int) pa_nil)))) (pss_one (ps_expr (pe_bm PySem.F.plainAttrs_list PySem.F.slot_list_append PySem.F.type_list_append mt_append (pv 1) (pa_cons (pe_callB (call_max2A rfl) (by rfl) c.f_max boot_max (pa_cons pe_int (pa_cons (pe_ix (ix_any (K := K) rfl) (pv 3) (pe_un un_neg pe_int) (fun _ _ => rfl)) pa_nil))) pa_nil)))))))))
      (pss_one (ps_ret (pv 1))))), ?_⟩
    try dsimp only [cxOf, Cx.nox, Cx.wish]
    obtain ⟨l, ss, rfl, pk, q⟩ := h
    have hz : sizeLine = 16777216 := sizeLine_eq
    obtain ⟨us, hus, hun, hul⟩ := pk.len
    repeat walk_at "w"
    refine w_new fun nl H1 n1 s1 f1 => ?_
    repeat walk_at "w"
    refine fl_list us (fun i σ H' => ∃ o2 o3 o4, σ = [some (.ref l), some (.ref nl), o2, o3, o4] ∧ Same H H' ∧ H' nl = some (.lst (natV ((ndsL (restsL ss)).take i)))) (SqL.of (s1 _ _ hus))
      ⟨_, _, _, rfl, s1, f1⟩ (fun i σ H' hi hp' => ?_) (fun i x σ H' hx hp' => ?_) (fun σ H' hp' => ?_)
    · obtain ⟨_, _, _, _, e, _⟩ := hp'
      exact SqL.of (e _ _ hus)
    · obtain ⟨o2, o3, o4, rfl, e, hnl⟩ := hp'
      have hil := (List.getElem?_eq_some_iff.mp hx).1
      have pk' := pk.sm e
      have own := ownF_ok ss
      have hlen : (ndsL (restsL ss)).length = us.length := by rw [ndsL_len]; unfold nOf at hun; omega
      obtain ⟨us3, hu3, hdu, _⟩ := id pk'.pl
      cases Option.some.inj (hu3.symm.trans (e _ _ hus))
      obtain ⟨d3, hd3, hdp3⟩ := dpa_at' hdu hx
      have ed : rowN (nedF ss) d3 = nedF ss i := rowN_all hd3
      have hr3 := proots_prow ss pk.ok rows_nil (fun _ q => (List.not_mem_nil q).elim) d3 (List.mem_of_getElem? hd3)
      have ho3 := ownF_at hd3
      have hj : ∀ j ∈ ownD d3, atI (natV ((ndsL (restsL ss)).take i)) j = some (.int (nedF ss j : Nat)) := fun j hj => by
        rw [← ho3] at hj
        have bj := own.lt i (by omega) (by unfold nOf at hun; omega) j hj
        refine natV_at bj.1 ?_
        rw [List.getElem?_take, if_pos (by omega)]
        unfold nedF
        rw [List.getD_eq_getElem?_getD, List.getElem?_eq_getElem (by omega)]; rfl
      obtain ⟨s, items, rfl, so, hitm, l1, l2, hg⟩ := hr3
      obtain ⟨a, ws, rfl, ha, hws⟩ := exp_n hdp3
      have hwl : ws.length = items.length := dpa_len hws
      have e8 : (ndsL (restsL ss))[i]? = some (rowN (nedF ss) (.tuple (.str s :: items))) := by
        rw [ed]
        unfold nedF
        rw [Int.toNat_natCast, List.getD_eq_getElem?_getD, List.getElem?_eq_getElem (by omega)]; rfl
      generalize hm : rowN (nedF ss) (.tuple (.str s :: items)) = m at e8
      repeat walk_at "w"
      refine w_new fun q0 H2 n2 s2 f2 => ?_
      refine w_gName ?_
      refine w_seq ?_
      refine w_cutN (fun σ' H3 => ∃ qo o4, σ' = [some (.ref l), some (.ref nl), some (.ref a), some (.ref qo), o4] ∧ Same H' H3 ∧
          ((∃ y : Nat, H3 qo = some (.lst [.int (y : Nat)]) ∧ m = max 1 y) ∨ ∃ y z : Nat, H3 qo = some (.lst [.int (y : Nat), .int (z : Nat)]) ∧ y ≤ z ∧ m = if y = z ∧ 0 < y then y + 1 else max 1 z)) (fun σ' H3 hp' => ?_) (fun N hN => ?_)
      · obtain ⟨qo, o4, rfl, sm, hc⟩ := hp'
        have hnl3 := sm _ _ hnl
        have fin : ∀ H4, H4 nl = some (.lst (natV ((ndsL (restsL ss)).take i) ++ [.int (m : Nat)])) → But nl H3 H4 → Same H H4 ∧ H4 nl = some (.lst (natV ((ndsL (restsL ss)).take (i + 1)))) := fun H4 f4 e4 => by
          refine ⟨But.new (e.trans sm) n1 e4, ?_⟩
          rw [take_snoc e8]
          unfold natV at f4 ⊢
          rw [List.map_append]; exact f4
        have hsz : (natV ((ndsL (restsL ss)).take i)).length < 1000 := by
          rw [natV_len, List.length_take]
          have := nOf_le pk.ok pk.few
          unfold nOf at this hun
          omega
        rcases hc with ⟨y, hq, em⟩ | ⟨y, z, hq, hyz, em⟩
        · repeat walk_at "w"
          rw [decide_eq_false (show ¬ ((([V.int (y : Nat)].length : Nat) : Int) = 2) by simp)]
          repeat walk_at "w"
          refine w_ixL (v := .int (y : Nat)) (SqL.of hq) rfl ?_
          repeat walk_at "w"
          rw [show max (1 : Int) (y : Nat) = ((m : Nat) : Int) by omega]
          refine w_chg fun H4 e4 f4 => ?_
          repeat walk_at "w"
          exact ⟨_, _, _, rfl, fin H4 f4 e4⟩
        · repeat walk_at "w"
          rw [decide_eq_true (show ((([V.int (y : Nat), V.int (z : Nat)].length : Nat) : Int) = 2) by simp), if_pos rfl]
          refine w_andP (((y : Nat) : Int) = (z : Nat)) ((0 : Int) < (y : Nat)) (by walk_at "tz") (by walk_at "tz") (fun c hc => ?_)
          refine ite2 (fun h1 => ?_) (fun h1 => ?_)
          · have g := hc.mp h1
            repeat walk_at "w"
            rw [show ((y : Nat) : Int) + 1 = ((m : Nat) : Int) by rw [em, if_pos ⟨by omega, by omega⟩]; omega]
            refine w_chg fun H4 e4 f4 => ?_
            repeat walk_at "w"
            exact ⟨_, _, _, rfl, fin H4 f4 e4⟩
          · have g : ¬ (((y : Nat) : Int) = (z : Nat) ∧ (0 : Int) < (y : Nat)) := fun u => h1 (hc.mpr u)
            repeat walk_at "w"
            refine w_ixL (v := .int (z : Nat)) (SqL.of hq) rfl ?_
            repeat walk_at "w"
            rw [show max (1 : Int) (z : Nat) = ((m : Nat) : Int) by rw [em, if_neg (by omega)]; omega]
            refine w_chg fun H4 e4 f4 => ?_
            repeat walk_at "w"
            exact ⟨_, _, _, rfl, fin H4 f4 e4⟩
      · repeat walk_at "w"
        refine w_new fun t H3 n3 s3 f3 => ?_
        refine w_niL (SqL.of f3) rfl rfl ?_
        rw [in_two]
        by_cases g : s = "get" ∨ s = "ask"
        · rw [decide_eq_true g]
          repeat walk_at "w"
          refine hN _ _ ⟨q0, _, rfl, s2.trans s3, .inr ⟨0, 0, s3 _ _ f2, Nat.le_refl _, ?_⟩⟩
          rw [← hm, rowN_gone l1 l2 (hg g)]; rfl
        · rw [decide_eq_false g]
          have ha3 := s3.sqT (s2.sqT ha)
          have hws3 := dpAll_ts (TS.of (s2.trans s3)) _ _ (items_all hitm).1 hws
          repeat walk_at "w"
          refine w_slT1 (σ := []) ha3 ?_
          refine w_new fun tl H4 n4 s4 f4 => ?_
          have hws4 := dpAll_ts (TS.of s4) _ _ (items_all hitm).1 hws3
          have s24 := s2.trans (s3.trans s4)
          refine lc_T ws (fun D j ys H5 => Same H4 H5 ∧ ys = natV ((items.take j).map (valD (nedF ss)))) (SqT.of f4) (fun D H5 hD e f => ⟨e, rfl⟩) (fun D hD j ys H5 hi hy hp => SqT.of (hp.1 _ _ f4)) (fun D hD j x ys H5 hx2 hll hy hp2 => ?_) (fun D hD ys H5 hll hy hp2 => ?_)
          · obtain ⟨e5, rfl⟩ := hp2
            obtain ⟨d', hdx, hdp⟩ := dpa_at' (dpAll_ts (TS.of e5) _ _ (items_all hitm).1 hws4) hx2
            have it := hitm d' (List.mem_of_getElem? hdx)
            have hjl := (List.getElem?_eq_some_iff.mp hdx).1
            have hnl5 : H5 nl = some (.lst (natV ((ndsL (restsL ss)).take i))) := e5 _ _ (s24 _ _ hnl)
            have fin : LcEnd D (fun j ys H5 => Same H4 H5 ∧ ys = natV ((items.take j).map (valD (nedF ss)))) j (.int (valD (nedF ss) d' : Nat)) H5 :=
              lc_end hy hll (by rw [hz]; omega) fun H6 e6 f6 => ⟨But.new e5 hD e6, by rw [take_snoc hdx, List.map_append]; unfold natV; rw [List.map_append]; rfl⟩
            cases it with
            | int n =>
              cases dp_int hdp
              have hat := hj n (show n ∈ intsD items from List.mem_filterMap.mpr ⟨.int n, List.mem_of_getElem? hdx, rfl⟩)
              repeat walk_at "w"
              exact fin
            | str hs' =>
              cases dp_str hdp
              repeat walk_at "w"
              exact fin
            | pair hs' n =>
              obtain ⟨a2, us2, rfl, ha2, _⟩ := dp_tup hdp
              repeat walk_at "w"
              exact fin
          · obtain ⟨e5, rfl⟩ := hp2
            rw [hwl, List.take_length] at hy
            repeat walk_at "w"
            refine ⟨D, (items.map (valD (nedF ss))).map fun n : Nat => (n : Int), rfl, SqL.of (by unfold natV at hy; rw [List.map_map]; exact hy), by rw [List.length_map, List.length_map]; omega, fun ns' p3 hpm hpw np => ?_⟩
            have s6 := Same.one (o := .lst (ns'.map V.int)) np
            have f6 : (upd H5 p3 (.lst (ns'.map V.int))) p3 = some (.lst (ns'.map V.int)) := upd_same
            generalize upd H5 p3 (.lst (ns'.map V.int)) = H6 at s6 f6
            repeat walk_at "w"
            refine hN _ _ ⟨p3, _, rfl, s24.trans (e5.trans s6), ?_⟩
            match items, l1, l2, hpm, hm with
            | [x], _, _, hpm, hm =>
              have e1 : ns' = [((valD (nedF ss) x : Nat) : Int)] := List.perm_singleton.mp hpm
              subst e1
              exact .inl ⟨_, f6, hm.symm⟩
            | [x, y], _, _, hpm, hm =>
              have hm' : (if valD (nedF ss) x = valD (nedF ss) y ∧ 0 < valD (nedF ss) x then valD (nedF ss) x + 1 else max 1 (max (valD (nedF ss) x) (valD (nedF ss) y))) = m := hm
              have hl := hpm.length_eq
              match ns', hl, hpm, hpw, f6 with
              | [u, v], _, hpm, hpw, f6 =>
                have huv := (List.pairwise_cons.mp hpw).1 v List.mem_cons_self
                have hu := hpm.mem_iff.mp (List.mem_cons_self (a := u) (l := [v]))
                rcases List.mem_cons.mp hu with hu | hu
                · subst hu
                  have hv : [v] = [((valD (nedF ss) y : Nat) : Int)] := List.perm_singleton.mp ((List.perm_cons _).mp hpm)
                  cases hv
                  have huv' : _ ≤ _ := Int.ofNat_le.mp huv
                  exact .inr ⟨_, _, f6, huv', by rw [← hm']; split <;> (try split) <;> omega⟩
                · have hu := List.mem_singleton.mp hu
                  subst hu
                  have hv : [v] = [((valD (nedF ss) x : Nat) : Int)] := List.perm_singleton.mp ((List.perm_cons _).mp (hpm.trans (List.Perm.swap _ _ _)))
                  cases hv
                  have huv' : _ ≤ _ := Int.ofNat_le.mp huv
                  exact .inr ⟨_, _, f6, huv', by rw [← hm']; split <;> (try split) <;> omega⟩
    · obtain ⟨o2, o3, o4, rfl, e, hnl⟩ := hp'
      have hlen : (ndsL (restsL ss)).length = us.length := by rw [ndsL_len]; unfold nOf at hun; omega
      rw [List.take_of_length_le (by omega)] at hnl
      repeat walk_at "w"
      exact q nl H' hnl e n1
end

end J
namespace J
open PySem PySem.Spec PyProof.Rows L2
--plain
/-! ### what rests, sorted by need and place -/
def restI (ss : List SetE) : List Int := (pos (restsL ss) 0).map rootO
theorem root_inj {a b : Exp × Int} (h : Apart a b) (ha : 0 < a.1.cnt) (hb : 0 < b.1.cnt) : rootO a ≠ rootO b := by
  unfold rootO
  rcases h with z | z <;> omega
theorem pos_apart (ss : List SetE) : (pos (restsL ss) 0).Pairwise Apart := offs_apart.sublist List.filter_sublist
theorem pos_cnt {ss : List SetE} {p : Exp × Int} (h : p ∈ pos (restsL ss) 0) : p ∈ offs (restsL ss) 0 ∧ 0 < p.1.cnt := by
  have := mem_of_mem_offs h
  exact ⟨this.1, (need_cnt _).mp this.2⟩
theorem restI_nd (ss : List SetE) : (restI ss).Nodup := by
  refine List.pairwise_map.mpr ?_
  have := pos_apart ss
  exact (List.Pairwise.and_mem.mp this).imp fun {a b} ⟨ha, hb, h⟩ => root_inj h (pos_cnt ha).2 (pos_cnt hb).2
def keyI (ss : List SetE) (r : Int) : List Int := [0 - ((nedF ss r : Nat) : Int), (((restI ss).idxOf r : Nat) : Int)]
theorem idx_at {ss : List SetE} {p : (Exp × Int) × Nat} (h : p ∈ (pos (restsL ss) 0).zipIdx) : (restI ss).idxOf (rootO p.1) = p.2 := by
  have hp := List.mem_zipIdx_iff_getElem?.mp h
  have h2 : (restI ss)[p.2]? = some (rootO p.1) := by unfold restI; rw [List.getElem?_map, hp]; rfl
  obtain ⟨hl, he⟩ := List.getElem?_eq_some_iff.mp h2
  have := (restI_nd ss).idxOf_getElem p.2 hl
  rw [he] at this
  exact this
theorem key_at {ss : List SetE} {p : (Exp × Int) × Nat} (h : p ∈ (pos (restsL ss) 0).zipIdx) : keyI ss (rootO p.1) = [0 - ((p.1.1.need : Nat) : Int), ((p.2 : Nat) : Int)] := by
  have h1 := pos_cnt (List.fst_mem_of_mem_zipIdx (x := p) h)
  unfold keyI
  rw [idx_at h]
  have := nd_root (nedF_nd ss p.1 h1.1) h1.2
  unfold rootO
  rw [this]
theorem lex_pair {a b c d : Int} : lexI [a, b] [c, d] = if a = c then (if b = d then false else decide (b < d)) else decide (a < c) := rfl
theorem due_sorted {ss : List SetE} {L : List ((Exp × Int) × Nat)} {os : List Int} (srt : Srt ss L) (hp : os.Perm (restI ss)) (hw : os.Pairwise fun a b => lexI (keyI ss b) (keyI ss a) = false) : os = L.map fun p => rootO p.1 := by
  have hm : ∀ p ∈ L, p ∈ (pos (restsL ss) 0).zipIdx := fun p h => srt.perm.mem_iff.mp h
  have h1 : (L.map fun p => rootO p.1).Perm (restI ss) := by
    have := srt.perm.map fun p => rootO p.1
    have e : ((pos (restsL ss) 0).zipIdx.map fun p => rootO p.1) = restI ss := by
      unfold restI
      conv => rhs; rw [← List.zipIdx_map_fst 0 (pos (restsL ss) 0)]
      rw [List.map_map]; rfl
    rw [e] at this
    exact this
  refine sorted_uniq (R := fun a b => lexI (keyI ss b) (keyI ss a) = false) (hp.trans h1.symm) hw ?_ fun a ha b hb h1 h2 => ?_
  · refine List.pairwise_map.mpr ((List.Pairwise.and_mem.mp srt.pw).imp fun {a b} ⟨ha, hb, h⟩ => ?_)
    rw [key_at (hm a ha), key_at (hm b hb), lex_pair]
    unfold entI lexI at h
    by_cases g : (0 - ((b.1.1.need : Nat) : Int)) = 0 - ((a.1.1.need : Nat) : Int)
    · rw [if_pos g] at h ⊢
      unfold lexI at h
      by_cases g2 : ((b.2 : Nat) : Int) = (a.2 : Nat)
      · rw [if_pos g2]
      · rw [if_neg g2] at h ⊢; exact h
    · rw [if_neg g] at h ⊢; exact h
  · have e := lexI_eq h1 h2
    have e2 : (restI ss).idxOf b = (restI ss).idxOf a := by
      unfold keyI at e
      simp only [List.cons.injEq] at e
      omega
    have ma := hp.mem_iff.mp ha
    have mb := hp.mem_iff.mp hb
    have la := List.idxOf_lt_length_of_mem ma
    have lb := List.idxOf_lt_length_of_mem mb
    have ga := List.getElem_idxOf la
    have gb := List.getElem_idxOf lb
    rw [← ga, ← gb]
    congr 1
    exact e2.symm
theorem held_sum2 {ss : List SetE} {o : List Int} (h : Full (ownF ss) (nOf ss) o) : ∀ i, i ≤ o.length → ((held (ownF ss) (o.take i).reverse).length : Int) = sumO (ownF ss) (o.take i)
  | 0, _ => by rw [List.take_zero]; rfl
  | i + 1, hi => by
    have ih := held_sum2 h i (by omega)
    have hx : o[i]? = some o[i] := List.getElem?_eq_getElem hi
    have := h.cnt hx
    unfold cnts' at this
    rw [this, ih, take_snoc hx, sumO_snoc]
/-- the most that the best order holds is what the sets need -/
theorem most_held {ss : List SetE} {L : List ((Exp × Int) × Nat)} {m : Int} (srt : Srt ss L) (hm : m ∈ 0 :: heldL (ownF ss) (ordL L)) (hy : ∀ y ∈ 0 :: heldL (ownF ss) (ordL L), y ≤ m) : m = topN L L.length := by
  have ge := topN_ge0 L L.length
  have a : topN L L.length ≤ m := by
    obtain ⟨S, a, b⟩ := low_top srt.full srt.perm srt.pw
    have e : ((topN L L.length).toNat : Int) ≤ m := heldL_max hy ⟨S, a, by omega⟩
    omega
  have b : m ≤ topN L L.length := by
    rcases List.mem_cons.mp hm with z | z
    · omega
    · unfold heldL at z
      obtain ⟨i, hi, rfl⟩ := List.mem_map.mp z
      have hil := List.mem_range.mp hi
      have := held_sum2 srt.full (i + 1) (by omega)
      have u := srt.up (i + 1)
      unfold cnts'
      omega
  omega

end J
namespace J
open PySem PySem.Spec PyProof.Rows L2
--plain
/-! ### defs that make a lambda: what they keep over a base that has the table of their code object -/
section
open PySem PySem.Spec PyProof.Rows LamX
structure FnT (P : Program) (w : World) (K : PySem.W.Frag) (mg : Str → Option Value) (tb : Heap → Prop) (x : Str) (k : Nat) (ps : List Str) (sp : Sp) : Prop where
  ex : ∃ fd, (∀ base, tb base → FnOk P w K mg base CX0 k (He.ga K x) fd ps sp) ∧ Binds K fd ps [] ∧ ∀ (s : Shared) (us : List Value), us.length = ps.length → BindsTo s fd ⟨us, []⟩ (ps.zip us)
  gl : mg x = some (.ref (He.ga K x))
  kp : PySem.W.keepIn K (.ref (He.ga K x)) = true
section
variable {X : Cx} {k : Nat} {x : Str} {ps : List Str} {sp : Sp} {p pos : Pos} {e : Expr} {es : List Expr} {t : TA} {tb : Heap → Prop}
theorem pe_fnT (F : FnT X.prog X.w X.K X.mg tb x k ps sp) (htb : tb X.base) (hr : Room k X.A) (hg : Gl X x) (ha : PA X (e :: es) t)
    (hdb : (x == ("__debug__" : Str)) = false := by decide) (he : starEach (e :: es) X.env = (false, eval e X.env) :: starEach es X.env := by rfl) (hpl : (backTo pos (starEach es X.env)).any (·.1) = false := by rfl) :
    PE X (.Call (.Name x p) (e :: es) [] pos) (tCall sp [] E0 t) := by
  obtain ⟨fd, G, b, _⟩ := F.ex
  exact pe_call (G X.base htb) hr hg F.gl F.kp b .nil pass0 ha hdb he hpl
end
theorem FnT.mk' {P : Program} {w : World} {K : PySem.W.Frag} {mg : Str → Option Value} {tb : Heap → Prop} {x : Str} {k : Nat} {N ps : List Str} {sp : Sp} {args : Arguments} {body : List Stmt} {sc : Scope} {fd : FuncData}
    (F : FunD K x x args body sc [] [] (He.ga K x) fd) (gl : mg x = some (.ref (He.ga K x))) (S : FnScope N ps sc) (len : ∀ vs H Q E, sp vs H Q E → vs.length = ps.length)
    (hb : ∀ (kV doc pm : Value) (an : Option Addr) (cdv ct : Value) (us : List Value), us.length = ps.length → bindArgs (PySem.W.fnOf x x args body sc .none kV doc pm an cdv ct) ⟨us, []⟩ = pure (ps.zip us))
    (hbody : ∀ (base : Heap) (cdv : Value), tb base → cdv = .ref (He.cT K (x, none)).1 → ∀ (A : Around) (outer : List Env) (s : Shared) (H : Hp) (vs : List V) (Q : VK) (E : XK), Room k (A.deeper (envOfC x sc s.heap.objs.size (He.ga K x) cdv)) → sp vs H Q E →
      ∃ t, PSs (cxOf CX0 P w K mg base N x sc (He.ga K x) cdv A outer s H E).nox body t ∧ t ⟨fun _ H' => Q .non H', Q, fun _ _ => False, fun _ _ => False⟩ (start N vs) H) : FnT P w K mg tb x (k + 1) ps sp := by
  refine ⟨⟨fd, fun base htb => ?_, F.bindsN hb, F.bindsA hb⟩, gl, F.kp⟩
  obtain ⟨oc, od, dV, kV, doc, pm, an, cdv, ct, osl, rfl, lk, hcd, _, _⟩ := F.ex
  have hc : cdv = .ref (He.cT K (x, none)).1 := by
    obtain ⟨c, rfl⟩ := He.codeIn_ref hcd
    exact congrArg Value.ref (He.codeOf_eq (p := (x, none)) lk rfl).symm
  exact fn_of lk hcd S len fun A outer s H vs Q E hr hsp => by
    obtain ⟨t, d, q⟩ := hbody base cdv htb hc A outer s H vs Q E hr hsp
    exact ⟨t, d.nox, q⟩
theorem walk_ofTE {l : PySem.W.OpenLaw} {n k : Nat} {q : Program} {loose : List Str} {XP : (Str → Option Value) → Heap → Prop} {YP : World → Heap → Prop} {d : DefRec} {CX : CXT} {x : Str}
    (hn : l.most = some n) (hn2 : n ≤ sizeLine) (hdf : d.params.defaults = []) (hr : Room k callerA)
    (F : ∀ (w : World) (mg : Str → Option Value) (fa : Addr) (h : Heap), YP w h → h.Ns mainGlobals mg → mg d.name = some (.ref fa) → ∃ K : PySem.W.Frag, K.In h ∧ LawAtS l w K CX k n x mg fa h)
    (hCX : ∀ (H : Hp) (s : Shared) (e : Value) (s' : Shared), CX [] H s (fun _ _ _ => False) e s' → False) :
    PySem.W.WalkO q loose XP YP l.row.toRowW d [] (fun f vs => PySem.call f vs) := by
  refine Att.attach_callB hn hdf fun w s₀ s₁ mg mb fa o pm cd doc a vs ns G Y ho hd hcd hmg hobj hints hlen hbits hg => ?_
  obtain ⟨K, KX, fd, cs, sp, hT, nT, C, hb, hsp, hF⟩ := F w mg fa _ Y G.T.g hmg
  exact law_callTs KX G.T.g G.T.b G.T.builtins G.T.nolimit hg hT nT C G.T.bmain hobj hints (Nat.le_trans hlen hn2) hr hF hb (fun H hH hS => hsp H a ns hlen hbits hH hS) fun H e s' => hCX H s₁ e s'
end

end J
namespace J
open PySem PySem.Spec PyProof.Rows L2
local macro_rules | `(tactic| walk_at "cls") => `(tactic| first
  | with_reducible exact Facts.cl_Parts
  | with_reducible exact Facts.cl_Order)
local macro_rules | `(tactic| walk_at "na") => `(tactic| first
  | with_reducible exact Facts.na_Parts_rows
  | with_reducible exact Facts.na_Order_parts
  | with_reducible exact Facts.na_Order_order
  | with_reducible exact Facts.na_Order_needed)
local macro_rules | `(tactic| walk_at "ty") => `(tactic| first
  | with_reducible exact ty_int
  | with_reducible exact ty_bl
  | with_reducible exact ty_str
  | with_reducible exact ty_non
  | ((with_reducible refine' ty_lst ?vv); (case vv => walk_at "tr"))
  | ((with_reducible refine' ty_sqT ?vv); (case vv => walk_at "tr"))
  | ((with_reducible refine' ty_dic ?vv); (case vv => walk_at "tr")))
local macro_rules | `(tactic| walk_at "ix") => `(tactic| first | exact at0 | exact at1 | exact at2 | assumption)
local macro_rules | `(tactic| walk_at "size") => `(tactic| first
  | assumption
  | (show _ < sizeLine; rw [sizeLine_eq]; (try simp only [List.length_cons, List.length_nil, List.length_append, List.length_map]); omega)
  | (show _ ≤ sizeLine; rw [sizeLine_eq]; (try simp only [List.length_cons, List.length_nil, List.length_append, List.length_map]); omega))
local macro_rules | `(tactic| walk_at "side") => `(tactic| first
  | assumption
  | ((with_reducible refine cdw ?_ ?_) <;> omega)
  | omega
  | (exact ⟨by omega, by omega⟩)
  | (exact Or.inl ⟨by omega, by omega⟩)
  | (exact Or.inr ⟨by omega, by omega⟩)
  | decide
  | (simp only [List.length_cons, List.length_nil, List.length_append, List.length_map]; omega)
  | (show _ ≤ _; decide))
local macro_rules | `(tactic| walk_at "as") => `(tactic| with_reducible assumption)
local macro_rules | `(tactic| walk_at "tr") => `(tactic| first
  | with_reducible assumption
  | with_reducible exact upd_same
  | ((with_reducible refine' SqL.of ?hh); (case hh => walk_at "as"))
  | ((with_reducible refine' SqT.of ?hh); (case hh => walk_at "as"))
  | ((with_reducible refine' Same.stm ?ee ?gg); (case ee => walk_at "as"); (case gg => walk_at "tr"))
  | ((with_reducible refine' Same.sqT ?ee ?gg); (case ee => walk_at "as"); (case gg => walk_at "tr"))
  | ((with_reducible refine' Same.sqL ?ee ?gg); (case ee => walk_at "as"); (case gg => walk_at "tr"))
  | ((with_reducible refine' Same.at ?ee ?gg); (case ee => walk_at "as"); (case gg => walk_at "tr"))
  | ((with_reducible refine' But.stm ?ee ?ff ?gg); (case ee => walk_at "as"); (case ff => walk_at "ne"); (case gg => walk_at "tr"))
  | ((with_reducible refine' But.tup ?ee ?ff ?gg); (case ee => walk_at "as"); (case ff => walk_at "tr1"); (case gg => walk_at "tr"))
  | ((with_reducible refine' But.sqT ?ee ?ff ?gg); (case ee => walk_at "as"); (case ff => walk_at "tr1"); (case gg => walk_at "tr"))
  | ((with_reducible refine' But.tupL ?ee ?ff ?gg); (case ee => walk_at "as"); (case ff => walk_at "tr1"); (case gg => walk_at "tr"))
  | ((with_reducible refine' But.sqTL ?ee ?ff ?gg); (case ee => walk_at "as"); (case ff => walk_at "tr1"); (case gg => walk_at "tr"))
  | ((with_reducible refine' But.sqL ?ee ?ff ?gg); (case ee => walk_at "as"); (case ff => walk_at "ne"); (case gg => walk_at "tr"))
  | ((with_reducible refine' But.at ?ee ?ff ?gg); (case ee => walk_at "as"); (case ff => walk_at "ne"); (case gg => walk_at "tr")))
local macro_rules | `(tactic| walk_at "ts") => `(tactic| first
  | with_reducible assumption
  | with_reducible exact TS.refl _
  | ((with_reducible refine' TS.trans ?gg (TS.of ?ee)); (case ee => walk_at "as"); (case gg => walk_at "ts"))
  | ((with_reducible refine' TS.trans ?gg (TS.butS ?ee ?ff)); (case ee => walk_at "as"); (case ff => walk_at "tr1"); (case gg => walk_at "ts"))
  | ((with_reducible refine' TS.trans ?gg (TS.butL ?ee ?ff)); (case ee => walk_at "as"); (case ff => walk_at "tr1"); (case gg => walk_at "ts"))
  | ((with_reducible refine' TS.trans ?gg (TS.butI ?ee ?ff)); (case ee => walk_at "as"); (case ff => walk_at "tr1"); (case gg => walk_at "ts")))
local macro_rules | `(tactic| walk_at "sm") => `(tactic| first
  | with_reducible assumption
  | with_reducible exact Same.refl _
  | ((with_reducible refine' Same.trans ?gg ?ee); (case ee => walk_at "as"); (case gg => walk_at "sm"))
  | ((with_reducible refine' But.new ?gg ?nn ?ee); (case ee => walk_at "as"); (case nn => walk_at "fr"); (case gg => walk_at "sm")))
local macro_rules | `(tactic| walk_at "fr") => `(tactic| first
  | with_reducible assumption
  | ((with_reducible refine' Same.back ?ee ?nn); (case nn => walk_at "as"); (case ee => walk_at "sm"))
  | ((with_reducible refine' But.back ?ee ?ff ?nn); (case nn => walk_at "as"); (case ff => walk_at "ne0"); (case ee => walk_at "bu")))
local macro_rules | `(tactic| walk_at "bu") => `(tactic| first
  | with_reducible assumption
  | with_reducible exact But.refl _ _
  | ((with_reducible refine' But.trans ?gg ?ee); (case ee => walk_at "as"); (case gg => walk_at "bu"))
  | ((with_reducible refine' But.trans ?gg (But.of ?ee)); (case ee => walk_at "as"); (case gg => walk_at "bu"))
  | ((with_reducible refine' But.new2 ?gg ?nn ?ee); (case ee => walk_at "as"); (case nn => walk_at "frB"); (case gg => walk_at "bu")))
local macro_rules | `(tactic| walk_at "frB") => `(tactic| first
  | with_reducible assumption
  | ((with_reducible refine' Same.back ?ee ?nn); (case nn => walk_at "as"); (case ee => walk_at "sm"))
  | ((with_reducible refine' But.back' ?ee ?ff ?nn); (case nn => walk_at "as"); (case ee => walk_at "bu"); (case ff => walk_at "tr1")))
local macro_rules | `(tactic| walk_at "tr1") => `(tactic| first
  | with_reducible assumption
  | ((with_reducible refine' Same.stm ?ee ?gg); (case ee => walk_at "as"); (case gg => walk_at "tr1"))
  | ((with_reducible refine' Same.at ?ee ?gg); (case ee => walk_at "as"); (case gg => walk_at "tr1"))
  | ((with_reducible refine' But.at ?ee ?ff ?gg); (case ee => walk_at "as"); (case ff => walk_at "ne0"); (case gg => walk_at "tr1"))
  | ((with_reducible refine' But.stm ?ee ?ff ?gg); (case ee => walk_at "as"); (case ff => walk_at "ne0"); (case gg => walk_at "tr1")))
local macro_rules | `(tactic| walk_at "ne0") => `(tactic| first
  | with_reducible assumption
  | (with_reducible apply Ne.symm; with_reducible assumption))
local macro_rules | `(tactic| walk_at "ne") => `(tactic| first
  | with_reducible assumption
  | (with_reducible apply Ne.symm; with_reducible assumption)
  | ((with_reducible refine' stm_ne ?hh ?nn); (case nn => walk_at "as"); (case hh => walk_at "tr1"))
  | ((with_reducible refine' ne_of_none ?hh ?nn); (case nn => walk_at "as"); (case hh => walk_at "tr1"))
  | ((with_reducible apply Ne.symm); (with_reducible refine' ne_of_none ?hh ?nn); (case nn => walk_at "as"); (case hh => walk_at "tr1")))
local macro_rules | `(tactic| walk_at "v") => `(tactic| first
  | with_reducible refine w_seq ?_
  | ((with_reducible refine' w_var ?vv ?_); (case vv => exact rfl))
  | with_reducible refine w_c ?_
  | with_reducible refine w_op ?_
  | with_reducible refine w_asg ?_
  | with_reducible refine w_gName ?_
  | with_reducible refine w_ret ?_
  | with_reducible refine w_ifS ?_
  | with_reducible refine w_drop ?_
  | with_reducible refine w_next ?_
  | with_reducible refine w_cons ?_
  | with_reducible refine w_nil ?_
  | with_reducible refine w_call ?_
  | with_reducible refine w_cb ?_
  | with_reducible refine w_rI0 ?_
  | with_reducible refine w_addI ?_
  | with_reducible refine w_eqI ?_
  | with_reducible refine w_neI ?_
  | with_reducible refine w_eqS ?_
  | with_reducible refine w_neS ?_
  | with_reducible refine w_eqB ?_
  | with_reducible refine w_neB ?_
  | with_reducible refine w_chain ?_
  | with_reducible refine w_test ?_
  | with_reducible refine w_tB ?_
  | with_reducible refine w_bl ?_
  | ((with_reducible refine' w_mulI ?vv ?_); (case vv => walk_at "side"))
  | ((with_reducible refine' w_rI ?vv ?_); (case vv => walk_at "side"))
  | with_reducible refine w_int1 ?_
  | with_reducible refine w_int1b ?_
  | with_reducible refine w_tup ?_
  | with_reducible refine w_lst ?_
  | with_reducible refine w_un ?_
  | with_reducible refine w_rU ?_
  | with_reducible refine w_not ?_
  | with_reducible refine w_notV ?_
  | with_reducible refine w_ifE ?_
  | with_reducible refine w_nT ?_
  | with_reducible refine w_nF ?_
  | with_reducible refine iteT ?_
  | with_reducible refine iteF ?_
  | ((with_reducible refine' w_ixT ?vv ?ww ?_); (case vv => walk_at "tr"); (case ww => walk_at "ix"))
  | ((with_reducible refine' w_ixL ?vv ?ww ?_); (case vv => walk_at "tr"); (case ww => walk_at "ix"))
  | with_reducible refine w_gSub ?_
  | ((with_reducible refine' w_setL ?vv ?ww ?_); (case vv => walk_at "tr"); (case ww => first | rfl | decide | assumption))
  | ((with_reducible refine' w_lenL ?vv ?_); (case vv => walk_at "tr"))
  | ((with_reducible refine' w_lenT ?vv ?_); (case vv => walk_at "tr"))
  | with_reducible refine w_max2 ?_
  | with_reducible refine w_max3 ?_
  | with_reducible refine w_din ?_
  | with_reducible refine w_dnotin ?_
  | with_reducible refine w_dput ?_
  | with_reducible refine w_min2 ?_
  | with_reducible refine w_bm ?_
  | with_reducible refine w_bm0 ?_
  | ((with_reducible refine' w_tyL ?vv ?_); (case vv => walk_at "tr"))
  | ((with_reducible refine' w_append ?vv ?ww ?_); (case vv => walk_at "tr"); (case ww => walk_at "size"))
  | ((with_reducible refine' w_size ?vv ?_); (case vv => walk_at "size"))
  | with_reducible refine w_forL ?_
  | with_reducible refine w_forT ?_
  | with_reducible refine w_forR1 ?_
  | with_reducible refine w_forR2 ?_
  | with_reducible refine w_lcL ?_
  | with_reducible refine w_lcT ?_
  | with_reducible refine w_lcR1 ?_
  | with_reducible refine w_yes ?_
  | with_reducible refine w_sl ?_
  | with_reducible refine w_noPart ?_
  | with_reducible refine w_part ?_
  | with_reducible refine w_int ?_
  | ((with_reducible refine' w_slL ?vv ?_); (case vv => walk_at "tr"))
  | ((with_reducible refine' w_seqL ?vv ?ww ?_); (case vv => walk_at "tr"); (case ww => rfl))
  | ((with_reducible refine' w_seqT ?vv ?ww ?_); (case vv => walk_at "tr"); (case ww => rfl))
  | with_reducible refine w_gNil ?_
  | with_reducible refine w_gCons ?_
  | with_reducible refine w_forZ ?_
  | with_reducible refine w_forM ?_
  | with_reducible refine w_forE ?_
  | with_reducible refine w_forV ?_
  | with_reducible refine w_lcZ ?_
  | with_reducible refine w_lcE ?_
  | ((with_reducible refine' w_isi (b := true) ?vv ?ww ?_); (case vv => walk_at "ty"); (case ww => decide +kernel))
  | ((with_reducible refine' w_isi (b := false) ?vv ?ww ?_); (case vv => walk_at "ty"); (case ww => decide +kernel))
  | with_reducible refine w_revL ?_
  | with_reducible refine w_pairN ?_
  | with_reducible refine w_pairC ?_
  | with_reducible refine w_dget ?_
  | with_reducible refine w_met ?_
  | ((with_reducible refine' w_metAt ?vv ?ww ?_); (case vv => walk_at "tr"); (case ww => rfl))
  | with_reducible refine w_mkI ?_
  | with_reducible refine w_fld ?_
  | ((with_reducible refine' w_fldAt ?vv ?cc ?nn ?ww ?_); (case vv => walk_at "tr"); (case cc => walk_at "cls"); (case nn => walk_at "na"); (case ww => rfl))
  | with_reducible refine w_sfld ?_
  | ((with_reducible refine' w_sfldAt ?vv ?cc ?nn ?ll ?ee ?_); (case vv => walk_at "tr"); (case cc => walk_at "cls"); (case nn => walk_at "na"); (case ll => simp); (case ee => rfl))
  | ((with_reducible refine' w_tupL ?vv ?_); (case vv => walk_at "tr"))
  | ((with_reducible refine' w_tupT ?vv ?_); (case vv => walk_at "tr"))
  | ((with_reducible refine' w_listL ?vv ?_); (case vv => walk_at "tr"))
  | ((with_reducible refine' w_listT ?vv ?_); (case vv => walk_at "tr"))
  | with_reducible refine w_tyS ?_
  | with_reducible refine w_retN ?_
  | with_reducible refine w_break ?_
  | with_reducible refine w_cont ?_)
local macro_rules | `(tactic| walk_at "w") => `(tactic| first
  | walk_at "v"
  | with_reducible refine w_or ?_
  | with_reducible refine w_and ?_
  | with_reducible refine w_andV ?_
  | with_reducible refine w_orV ?_)
local macro_rules | `(tactic| walk_at "wd") => `(tactic| first
  | walk_at "w"
  | ((with_reducible refine' w_decT ?vv ?_); (case vv => decide +kernel))
  | ((with_reducible refine' w_decF ?vv ?_); (case vv => decide +kernel)))
local macro_rules | `(tactic| walk_at "tz") => `(tactic| (intro S z; (repeat walk_at "w"); exact z))
local macro_rules | `(tactic| walk_at "wf") => `(tactic| first
  | walk_at "wd"
  | ((with_reducible refine' w_decF ?vv ?_); (case vv => with_reducible assumption)))
/-! ### k29: the law (the promise of _law_due_order is not proved yet) -/
def tabP (K : PySem.W.Frag) : Addr := (He.cT K ("_law_due_order", none)).2
def lamQ : Str := "_law_due_order.<locals>.<lambda>"
def TabL (K : PySem.W.Frag) (H : Hp) : Prop := LamX.TabS H (tabP K) lamQ
theorem TabL.tbl {K : PySem.W.Frag} {H : Hp} (h : TabL K H) : ∃ ps, H (tabP K) = some (.tbl ps) := by
  obtain ⟨ps, h, _⟩ := h
  exact ⟨ps, h⟩
theorem TabL.sm {K : PySem.W.Frag} {H H' : Hp} (h : TabL K H) (e : Same H H') : TabL K H' := LamX.TabS.ext h e
theorem extN_ts {H H' : Hp} (e : LamX.ExtN H H') : TS H H' := fun b _ => ⟨fun g => e b _ g (by intro _ q; cases q), fun _ g => e b _ g (by intro _ q; cases q)⟩
theorem extN_same {H H' : Hp} (e : Same H H') : LamX.ExtN H H' := fun b o h _ => e b o h
theorem extN_new {H H1 H2 : Hp} {q : Addr} (e : LamX.ExtN H H1) (n : H q = none) (b : But q H1 H2) : LamX.ExtN H H2 := fun c o h t => b c o (ne_of_none h n) (e c o h t)
theorem extN_sqL {K : PySem.W.Frag} {H H' : Hp} {a : Addr} {xs : List V} (e : LamX.ExtN H H') (h : SqL K H a xs) : SqL K H' a xs := by
  rcases h with (h | ⟨o, h⟩) | h
  · exact .inl (.inl (e _ _ h (fun ps z => by cases z)))
  · exact .inl (.inr ⟨o, e _ _ h (fun ps z => by cases z)⟩)
  · exact .inr h
def tbK (K : PySem.W.Frag) (mg : Str → Option Value) (base : Heap) : Prop := LamX.TabB base mg (He.cT K ("_law_due_order", none)).1 (tabP K)
theorem TabL.ne {K : PySem.W.Frag} {H : Hp} {a : Addr} {xs : List V} (h : TabL K H) (g : H a = some (.lst xs)) : a ≠ tabP K := by
  obtain ⟨ps, h⟩ := h.tbl
  exact ne_of g h (by intro q; cases q)
theorem TabL.bl {K : PySem.W.Frag} {H H' : Hp} {q : Addr} {ys : List V} (h : TabL K H) (hq : H q = some (.lst ys)) (e : But q H H') : TabL K H' := by
  obtain ⟨ps, hP, ht, hc⟩ := h
  refine ⟨ps, e _ _ (ne_of hP hq (by intro z; cases z)) hP, ht, fun pos cv g => ?_⟩
  obtain ⟨c, e1, e2⟩ := hc pos cv g
  exact ⟨c, e1, e _ _ (ne_of e2 hq (by unfold LamX.CodeO; intro z; cases z)) e2⟩
def spDueO (K : PySem.W.Frag) : Sp := fun vs H Q _ => ∃ v ss, vs = [v] ∧ Dp K H v (setsD ss) ∧ ss.length ≤ 4 ∧ (∀ x ∈ ss, OkS 4 x) ∧ TabL K H ∧ ∀ q H' L, Srt ss L → H' q = some (.lst ((ordL L).map V.int)) → LamX.ExtN H H' → TabL K H' → H q = none → Q (.ref q) H'
theorem len_law_due_order {K : PySem.W.Frag} {vs H Q E} (h : spDueO K vs H Q E) : vs.length = 1 := by obtain ⟨_, _, rfl, _⟩ := h; rfl
def spLawT (K : PySem.W.Frag) : Sp := fun vs H Q _ => ∃ (a : Addr) (ns : List Int), vs = [.ref a] ∧ SqL K H a (ns.map V.int) ∧ ns.length ≤ 63 ∧ a ≠ tabP K ∧ TabL K H ∧ ∀ H', Q (.bl true) H'
theorem len_lawT {K : PySem.W.Frag} {vs H Q E} (h : spLawT K vs H Q E) : vs.length = 1 := by obtain ⟨_, _, rfl, _⟩ := h; rfl
section
variable {P : Program} {w : World} {K : PySem.W.Frag} {mg : Str → Option Value}
theorem ok_law [c : Facts K mg] (G__law_cell : Fn P w K mg "_law_cell" 1 ["script", "k"] ((spCell K))) (G__law_due_order : FnT P w K mg (tbK K mg) "_law_due_order" 8 ["sets"] ((spDueO K))) (G__law_held : Fn P w K mg "_law_held" 7 ["sets", "order"] ((spLHeld2 K))) (G__law_inner : Fn P w K mg "_law_inner" 5 ["e"] ((spInner K 4))) (G__law_need : Fn P w K mg "_law_need" 5 ["e"] ((spLNeed K 4))) (G__law_needs : Fn P w K mg "_law_needs" 6 ["sets"] ((spLNeeds K))) (G__law_sets : Fn P w K mg "_law_sets" 7 ["stream"] ((spSets K))) (G__law_stream : Fn P w K mg "_law_stream" 1 ["cell"] (spStream)) (G__law_trees : Fn P w K mg "_law_trees" 1 ["sets"] ((spTrees K))) (G__law_whole : Fn P w K mg "_law_whole" 1 ["found", "due"] (spWhole2)) (G_best_order : Fn P w K mg "best_order" 9 ["sets"] ((spBest K))) (G_held_by : Fn P w K mg "held_by" 8 ["sets", "order"] ((spHeldBy K))) (G_needs_of : Fn P w K mg "needs_of" 5 ["e"] ((spNeed K 4))) (G_needs_of_sets : Fn P w K mg "needs_of_sets" 9 ["sets"] ((spNeedS K))) : FnT P w K mg (tbK K mg) "law" 10 ["script"] ((spLawT K)) := by
  obtain ⟨fd, F⟩ := c.d_law
  refine FnT.mk' F c.g_law sc_law (k := 9) (fun vs H Q E h => ?_) (fun _ _ _ _ _ _ us hl => match us, hl with | [_], _ => rfl) (fun base cdv htb hcd A outer s H vs Q E hr h => ?_)
  · exact len_lawT h
  · have nd := sc_law.nd
    have hu := hu_of hr
    have hr__law_cell : Room 1 _ := hr.mono (by omega)
    have hr__law_due_order : Room 8 _ := hr.mono (by omega)
    have hr__law_held : Room 7 _ := hr.mono (by omega)
    have hr__law_inner : Room 5 _ := hr.mono (by omega)
    have hr__law_need : Room 5 _ := hr.mono (by omega)
    have hr__law_needs : Room 6 _ := hr.mono (by omega)
    have hr__law_sets : Room 7 _ := hr.mono (by omega)
    have hr__law_stream : Room 1 _ := hr.mono (by omega)
    have hr__law_trees : Room 1 _ := hr.mono (by omega)
    have hr__law_whole : Room 1 _ := hr.mono (by omega)
    have hr_best_order : Room 9 _ := hr.mono (by omega)
    have hr_held_by : Room 8 _ := hr.mono (by omega)
    have hr_needs_of : Room 5 _ := hr.mono (by omega)
    have hr_needs_of_sets : Room 9 _ := hr.mono (by omega)
    refine ⟨_, (pss_cons (ps_for PassesOwn.never rfl (pi_range1 (by rfl) c.f_range (pa_cons (pe_callB (call_max2A rfl) (by rfl) c.f_max boot_max (pa_cons pe_int (pa_cons (pe_callB (call_min2A rfl) (by rfl) c.f_min boot_min (pa_cons (pe_callB (call_lenA (K := K) rfl) (by rfl) c.f_len boot_len (pa_cons (pv 0) pa_nil)) (pa_cons pe_int pa_nil))) pa_nil))) pa_nil)) (pg_name (i := 1) nd rfl (Or.inl rfl)) (pss_cons (ps_set (i := 2) nd rfl (Or.inl rfl) (pe_fn G__law_sets hr__law_sets (by rfl) (pa_cons (pe_fn G__law_stream hr__law_stream (by rfl) (pa_cons (pe_fn G__law_cell hr__law_cell (by rfl) (pa_cons (pv 0) (pa_cons (pv 1) pa_nil))) pa_nil)) pa_nil)))
      (pss_cons (ps_set (i := 3) nd rfl (Or.inl rfl) (pe_fn G__law_needs hr__law_needs (by rfl) (pa_cons (pv 2) pa_nil)))
      (pss_one (ps_for PassesOwn.never rfl (pi_range1 (by rfl) c.f_range (pa_cons pe_int pa_nil)) (pg_name (i := 4) nd rfl (Or.inl rfl)) (pss_cons (ps_set (i := 5) nd rfl (Or.inl rfl) (pe_fn G_best_order hr_best_order (by rfl) (pa_cons (pv 2) pa_nil)))
      (pss_cons (ps_if (PW.pt (pw_or (pt_not (pt_val (pe_callB (call_isiA (K := K) rfl) (by rfl) c.f_isinstance boot_isinstance (pa_cons (pv 5) (pa_cons (pe_bltn (v := .ty "list") (by rfl) c.f_list boot_list rfl) pa_nil))))) (pw_or1 (pt_cmpR (op_neA (K := K) rfl hr.units) (pv 5) (pe_fnT G__law_due_order htb hr__law_due_order (by rfl) (pa_cons (pv 2) pa_nil)) (nomark _))))) (pss_one (ps_ret pe_bl)) pss_nil)
      (pss_cons (ps_if (pt_not (pt_val (pe_fn G__law_whole hr__law_whole (by rfl) (pa_cons (pe_fn G_needs_of_sets hr_needs_of_sets (by rfl) (pa_cons (pv 2) pa_nil)) (pa_cons (pv 3) pa_nil))))) (pss_one (ps_ret pe_bl)) pss_nil)
      (pss_cons (ps_set (i := 6) nd rfl (Or.inl rfl) (pe_fn G_held_by hr_held_by (by rfl) (pa_cons (pv 2) (pa_cons (pv 5) pa_nil))))
      (pss_cons (ps_if (PW.pt (pw_or (pt_not (pt_val (pe_callB (call_isiA (K := K) rfl) (by rfl) c.f_isinstance boot_isinstance (pa_cons (pv 6) (pa_cons (pe_bltn (v := .ty "list") (by rfl) c.f_list boot_list rfl) pa_nil))))) (pw_or (pt_cmpR (op_neA (K := K) rfl hr.units) (pv 6) (pe_fn G__law_held hr__law_held (by rfl) (pa_cons (pv 2) (pa_cons (pv 5) pa_nil))) (nomark _)) (pw_or1 (pt_cmpR (op_neA (K := K) rfl hr.units) (pe_callB (call_maxL (K := K) rfl rfl) (by rfl) c.f_max boot_max (pa_cons (pe_op (op_addA (K := K) rfl) (pe_lst (pa_cons pe_int pa_nil)) (pv 6)) pa_nil)) (pv 3) (nomark _)))))) (pss_one (ps_ret pe_bl)) pss_nil)
      (pss_cons (ps_for PassesOwn.never rfl (pi_list (pe_fn G__law_trees hr__law_trees (by rfl) (pa_cons (pv 2) pa_nil))) (pg_name (i := 7) nd rfl (Or.inl rfl)) (pss_one (ps_for PassesOwn.never rfl (pi_list (pe_fn G__law_inner hr__law_inner (by rfl) (pa_cons (pv 7) pa_nil))) (pg_name (i := 8) nd rfl (Or.inl rfl)) (pss_one (ps_if (pt_not (pt_val (pe_fn G__law_whole hr__law_whole (by rfl) (pa_cons (pe_fn G_needs_of hr_needs_of (by rfl) (pa_cons (pv 8) pa_nil)) (pa_cons (pe_fn G__law_need hr__law_need (by rfl) (pa_cons (pv 8) pa_nil)) pa_nil))))) (pss_one (ps_ret pe_bl)) pss_nil)))))
      (pss_one (ps_expr (pe_bm PySem.F.plainAttrs_list PySem.F.slot_list_append PySem.F.type_list_append mt_append (pv 5) (pa_cons pe_int pa_nil)))))))))))))))
      (pss_one (ps_ret pe_bl))), ?_⟩
    try dsimp only [cxOf, Cx.nox, Cx.wish]
    obtain ⟨a, ns, rfl, hS, hl, haP, hT, q⟩ := h
    have hz : sizeLine = 16777216 := sizeLine_eq
    repeat walk_at "w"
    refine fl_rng1 (fun i σ H' => ∃ o1 o2 o3 o4 o5 o6 o7 o8, σ = [some (.ref a), o1, o2, o3, o4, o5, o6, o7, o8] ∧ SqL K H' a (ns.map V.int) ∧ TabL K H') (by omega) (by omega) ⟨_, _, _, _, _, _, _, _, rfl, hS, hT⟩ (fun i σ H1 hi hp => ?_) (fun σ H1 hp => ?_)
    · obtain ⟨o1, o2, o3, o4, o5, o6, o7, o8, rfl, hS1, hT1⟩ := hp
      repeat walk_at "w"
      refine ⟨a, ns, i, rfl, hS1, by omega, fun c => ?_⟩
      repeat walk_at "w"
      refine ⟨c, rfl, fun s H2 s2 n2 hs2 => ?_⟩
      have hT2 := hT1.sm s2
      have nst : tabP K ≠ s := fun z => by obtain ⟨ps, g⟩ := hT1.tbl; rw [z, n2] at g; cases g
      repeat walk_at "w"
      refine ⟨s, rfl, hs2, fun v ss H3 d3 l3 ok3 hs3 e3 => ?_⟩
      obtain ⟨_, _, _, gs⟩ := id hs2
      have hT3 : TabL K H3 := hT2.bl gs e3
      have s13 : Same H1 H3 := But.new s2 n2 e3
      repeat walk_at "w"
      refine ⟨v, ss, rfl, d3, l3, ok3, fun m H4 m0 m1 hm s4 => ?_⟩
      have hT4 := hT3.sm s4
      have d4 := dp_ts (TS.of s4) _ _ (setsD_t ss) d3
      repeat walk_at "w"
      refine fl_rng1 (fun j σ H' => ∃ o4 o5 o6 o7 o8, σ = [some (.ref a), some (.int i), some v, some (.int m), o4, o5, o6, o7, o8] ∧ Dp K H' v (setsD ss) ∧ SqL K H' a (ns.map V.int) ∧ TabL K H') (by omega) (by omega) ⟨_, _, _, _, _, rfl, d4, s4.sqL (s13.sqL hS1), hT4⟩ (fun j σ H5 hj hp => ?_) (fun σ H5 hp => ?_)
      · obtain ⟨o4, o5, o6, o7, o8, rfl, d5, hS5, hT5⟩ := hp
        repeat walk_at "w"
        refine ⟨v, ss, rfl, d5, l3, ok3, fun qo H6 L srt hqo s6 n6 => ?_⟩
        have hT6 := hT5.sm s6
        have d6 := dp_ts (TS.of s6) _ _ (setsD_t ss) d5
        repeat walk_at "w"
        refine ⟨v, ss, rfl, d6, l3, ok3, hT6, fun dq H7 L' srt' hdq e7 hT7 n7 => ?_⟩
        obtain rfl := srt.uniq srt'
        have d7 := dp_ts (extN_ts e7) _ _ (setsD_t ss) d6
        have hqo7 := e7 _ _ hqo (by intro _ z; cases z)
        refine w_neIL (SqL.of hqo7) (SqL.of hdq) ?_
        rw [decide_eq_true rfl]
        repeat walk_at "w"
        refine ⟨v, ss, rfl, d7, l3, ok3, fun L2 H8 h1 h2 s8 => ?_⟩
        have srt2 : Srt ss L2 := ⟨h1, h2⟩
        obtain rfl := srt.uniq srt2
        repeat walk_at "w"
        refine ⟨_, m, rfl, ?_⟩
        rw [decide_eq_true (hm L srt)]
        have d8 := dp_ts (TS.of s8) _ _ (setsD_t ss) d7
        have hqo8 := s8 _ _ hqo7
        repeat walk_at "w"
        refine ⟨v, ss, .ref qo, rfl, d8, l3, ok3, .inr ⟨qo, ordL L, rfl, hqo8, srt.full, fun hq H9 h9 s9 n9 => ?_⟩⟩
        have d9 := dp_ts (TS.of s9) _ _ (setsD_t ss) d8
        repeat walk_at "w"
        refine ⟨v, qo, ss, ordL L, rfl, d9, l3, ok3, s9 _ _ hqo8, srt.full, fun lq Ha ha sa na => ?_⟩
        refine w_neIL (SqL.of (sa _ _ h9)) (SqL.of ha) ?_
        rw [decide_eq_true rfl]
        repeat walk_at "w"
        refine w_new fun z1 Hb nb sb fb => ?_
        repeat walk_at "w"
        have hol : (ordL L).length ≤ 120 := by have := srt.full.len; have := nOf_le ok3 l3; omega
        refine w_addL (xs := [.int 0]) fb (sb _ _ (sa _ _ h9)) (by rw [hz, List.length_map, heldL_len]; simp; omega) ?_
        refine w_new fun z2 Hc nc sc fc => ?_
        repeat walk_at "w"
        refine w_maxL (ns := 0 :: heldL (ownF ss) (ordL L)) (SqL.of fc) (by simp) fun mx hmx hmy => ?_
        have emx := most_held srt hmx hmy
        rw [hm L srt] at emx
        subst emx
        have s7c : Same H7 Hc := s8.trans (s9.trans (sa.trans (sb.trans sc)))
        have dc := dp_ts (TS.of s7c) _ _ (setsD_t ss) d7
        repeat walk_at "w"
        rw [decide_eq_true rfl]
        repeat walk_at "w"
        refine ⟨v, ss, rfl, dc, l3, ok3, fun tq ts Hd htq hts sd nd' => ?_⟩
        have oke : ∀ e ∈ restsL ss, OkE 4 e := restsL_ok ok3
        have htl : ts.length = (restsL ss).length := by rw [dpa_len hts, List.length_map]
        refine fl_list ts (fun i' σ H' => ∃ o7 o8, σ = [some (.ref a), some (.int i), some v, some (.int mx), some (.int j), some (.ref qo), some (.ref hq), o7, o8] ∧ Same Hd H') (SqL.of htq) ⟨_, _, rfl, Same.refl _⟩ (fun i' σ H' hi hp => ?_) (fun i' x σ H' hx hp => ?_) (fun σ H' hp => ?_)
        · obtain ⟨_, _, _, e⟩ := hp
          exact SqL.of (e _ _ htq)
        · obtain ⟨o7, o8, rfl, se⟩ := hp
          obtain ⟨d, hd1, hd2⟩ := dpa_at' (dpAll_ts (TS.of se) _ _ (exps_tup _) hts) hx
          rw [List.getElem?_map] at hd1
          obtain ⟨e, he, rfl⟩ := Option.map_eq_some_iff.mp hd1
          have oe := oke e (List.mem_of_getElem? he)
          repeat walk_at "w"
          refine ⟨by omega, x, e, rfl, hd2, oe, fun iq us Hf hiq hus sf nf => ?_⟩
          refine fl_list us (fun i2 σ H2 => ∃ o8, σ = [some (.ref a), some (.int i), some v, some (.int mx), some (.int j), some (.ref qo), some (.ref hq), some x, o8] ∧ Same Hf H2) (SqL.of hiq) ⟨_, rfl, Same.refl _⟩ (fun i2 σ H2 hi hp => ?_) (fun i2 y σ H2 hy hp => ?_) (fun σ H2 hp => ?_)
          · obtain ⟨_, _, e'⟩ := hp
            exact SqL.of (e' _ _ hiq)
          · obtain ⟨o8, rfl, sg⟩ := hp
            obtain ⟨d', hd1', hd2'⟩ := dpa_at' (dpAll_ts (TS.of sg) _ _ (exps_tup _) hus) hy
            rw [List.getElem?_map] at hd1'
            obtain ⟨e', he', rfl⟩ := Option.map_eq_some_iff.mp hd1'
            have oe' := subs_ok e oe e' (List.mem_of_getElem? he')
            repeat walk_at "w"
            refine ⟨y, e', rfl, hd2', oe', ?_⟩
            repeat walk_at "w"
            refine ⟨y, e', rfl, hd2', oe', fun H3 s3' => ?_⟩
            repeat walk_at "w"
            refine ⟨_, _, rfl, ?_⟩
            rw [decide_eq_true rfl]
            repeat walk_at "w"
            exact ⟨_, rfl, sg.trans s3'⟩
          · obtain ⟨o8, rfl, sg⟩ := hp
            exact ⟨_, _, rfl, se.trans (sf.trans sg)⟩
        · obtain ⟨o7, o8, rfl, se⟩ := hp
          have sall : Same H7 H' := s7c.trans (sd.trans se)
          have hqo' := sall _ _ hqo7
          repeat walk_at "w"
          refine w_chg fun Hz e_z f_z => ?_
          repeat walk_at "w"
          have b5z : LamX.ExtN H5 Hz := extN_new (((extN_same s6).trans e7).trans (extN_same sall)) n6 e_z
          exact ⟨_, _, _, _, _, rfl, dp_ts ((TS.of sall).trans (TS.butL e_z hqo')) _ _ (setsD_t ss) d7, extN_sqL b5z hS5, (hT7.sm sall).bl hqo' e_z⟩
      · obtain ⟨o4, o5, o6, o7, o8, rfl, d5, hS5, hT5⟩ := hp
        exact ⟨_, _, _, _, _, _, _, _, rfl, hS5, hT5⟩
    · obtain ⟨o1, o2, o3, o4, o5, o6, o7, o8, rfl, hS1, hT1⟩ := hp
      repeat walk_at "w"
      exact q _
end

end J
namespace J
open PySem PySem.Spec PyProof.Rows L2
--plain
/-! ### a lambda of one parameter, called -/
section
open PySem PySem.Spec PyProof.Rows LamX NdefX
variable {CX : CXT} {P : Program} {w : World} {K : PySem.W.Frag} {mg : Str → Option Value} {base : Heap} {N fr : List Str} {f c : Addr} {k : Nat}
def lamF (q : Str) (params : Arguments) (scope : Scope) (cl : List (Str × Addr)) (c : Addr) : NF := ⟨"<lambda>", q, params, [], scope, cl, c⟩
theorem lam1_call {x : Str} {q : Str} {params : Arguments} {body : Expr} {scope : Scope} {cl : List (Str × Addr)} {pm ctv : Value} {A : Around} {outer : List Env} {s : Shared} {H : Hp} {u : Value} {v : V} {ws : List (Option V)} {Q : VK} {E : XK}
    (hr : Room (k + 1) A) (e0 : Env0 P w K mg base A outer s H) (ho : s.heap.get? f = some (PySem.W.kla_obj "<lambda>" q params body scope cl pm c ctv)) (hc : s.heap.CodeRec (.ref c) q)
    (S : NScope N [x] fr scope) (hb : bindArgs (PySem.W.kla_fn "<lambda>" q params body scope cl pm (.ref c) ctv) ⟨[u], []⟩ = pure [(x, u)]) (C : CellsAt cl fr ws s.heap H) (r : L2.RelV v u) {tb : TE}
    (hbody : PE (ncx CX P w K mg base N (lamF q params scope cl c) f A outer s H E) body tb) (hq : tb (startF N [v] ws) H Q) :
    codeAny (model P w) A (.call (.ref f) ⟨[u], []⟩) (CR CX outer P w H s Q E) s := by
  have lim : s.heap.NoLimit := e0.mod.nolimit.keeps fun b o e => (e0.bs b o e).1
  refine PySem.W.kla_callFunE hr.depth ho rfl S.co S.gen rfl hc ?_
  rw [hb]
  refine wpAny_pure (wpAny_newFunctionEnv S.nocell (fun y hy => ?_) (fun h₁ hns hsb => ⟨lim.fresh _ hsb, ?_⟩) S.kind)
  · rw [List.mem_singleton.mp hy]
    exact S.par x List.mem_cons_self
  · show codeAny _ _ (.expr body (envF (lamF q params scope cl c) f s.heap.objs.size)) _ _
    have kp : ∀ b o, s.heap.get? b = some o → h₁.get? b = some o := fun b o e => hsb.extBut b o (Nat.ne_of_lt (Heap.lt_size e)) (Heap.get?_push_of_some _ e)
    have I : Inv (ncx CX P w K mg base N (lamF q params scope cl c) f A outer s H E) [] (startF N [v] ws) H { s with heap := h₁, toks := s.toks + [(x, u)].length } :=
      inv_startN (F := lamF q params scope cl c) (ps := [x]) (us := [u]) S hr.hd e0 rfl (.cons r .nil) C hns kp
    refine PySem.W.kla_codeExpr (wpAny_mono (hbody.run [] _ (startF N [v] ws) H Q I hq) (fun v s' hq => ?_) fun e s' hq => hq)
    obtain ⟨w', H', J', rv, q⟩ := hq
    exact ⟨w', H', J'.os, J'.bare, J'.base, J'.hok, rv, q⟩
end

end J
namespace J
open PySem PySem.Spec PyProof.Rows L2
--plain
/-! ### the key of a part, evaluated raw -/
section
open PySem PySem.Spec PyProof.Rows
variable {prog : Program} {w : World} {A : Around} {E : Value → Shared → Prop} {s : Shared} {env : Env}
theorem raw_first {m : Str → Option Value} {l1 c1 : Addr} {p1 p2 p3 p4 p5 : Pos} {jk : Nat} {x a : Int} {t u : Tok} {its : Array Value} {Q : Value → Shared → Prop} {nm nd : Str}
    (hk : env.scope.kind = .function) (kn : env.kindOf nm = some .local) (hn : s.heap.Ns env.locals m) (hv : m nm = some (.int x t))
    (k1 : env.kindOf nd = some .free) (e1 : env.cells.lookup nd = some c1) (i1 : s.heap.IsCell c1 (some (.ref l1))) (hl : s.heap.IsList l1 its) (h0 : 0 ≤ x) (hx : x < 2 ^ 63) (hi : its[x.toNat]? = some (.int a u))
    (hd1 : (nm == ("__debug__" : Str)) = false) (hd2 : (nd == ("__debug__" : Str)) = false) (hd3 : (nd == ("__classdict__" : Str)) = false)
    (h : ∀ t' tk, Q (.int (0 - a) t') { s with toks := tk }) :
    wpAny (model prog w) A (eval (.BinOp (.Constant (.int 0) jk p1) .Sub (.Subscript (.Name nd p2) (.Name nm p3) p4) p5) env) Q E s := by
  refine wpAny_BinOp (wpAny_Constant_int ?_)
  refine Subscript_ (wpAny_Name (wpAny_loadName_free hk k1 e1 i1 ?_ hd3) hd2)
  refine wpAny_Name (wpAny_loadName_local hk kn hn hv ?_) hd1
  refine item_listR hl h0 hx hi ?_
  exact PyProof.Rows.sub_int (h _ _)
theorem raw_index {m : Str → Option Value} {l2 c2 : Addr} {p1 p2 apos cpos : Pos} {x : Int} {t : Tok} {ns : List Int} {its : List Value} {n : Nat} {sl : Array (Option Value)} {j : Nat} {Q : Value → Shared → Prop} {nm rs : Str}
    (hk : env.scope.kind = .function) (kn : env.kindOf nm = some .local) (hn : s.heap.Ns env.locals m) (hv : m nm = some (.int x t))
    (k2 : env.kindOf rs = some .free) (e2 : env.cells.lookup rs = some c2) (i2 : s.heap.IsCell c2 (some (.ref l2)))
    (ho : s.heap.get? l2 = some { cls := .type "list", dict := none, data := .seq its.toArray n, slots := sl }) (rv : Vals (ns.map V.int) its) (hz : ns.length ≤ 1000) (hj : ns[j]? = some x) (hno : ∀ k, k < j → ns[k]? ≠ some x)
    (hd1 : (nm == ("__debug__" : Str)) = false) (hd2 : (rs == ("__debug__" : Str)) = false) (hd3 : (rs == ("__classdict__" : Str)) = false) (hline : (apos.endLine == cpos.line) = true)
    (h : ∀ t' tk, Q (.int (j : Nat) t') { s with toks := tk }) :
    wpAny (model prog w) A (eval (.Call (.Attribute (.Name rs p1) "index" apos) [.Name nm p2] [] cpos) env) Q E s := by
  refine wpAny_Call_method_late (by rfl) (by rfl) hline rfl (wpAny_Name (wpAny_loadName_free hk k2 e2 i2 ?_ hd3) hd2)
  refine ⟨"list", "list.index", PySem.F.plainAttrs_list, PySem.F.slot_list_index, PySem.F.type_list_index, ⟨_, ho, rfl⟩, fun a e => by cases e; exact ⟨_, ho, rfl⟩, ?_⟩
  refine Calls.callWith_builtin (by rfl) (Calls.evalArgs_plain ?_)
  refine Calls.spliced_cons (wpAny_Name (wpAny_loadName_local hk kn hn hv ?_) hd1)
  refine Calls.spliced_nil ?_
  have hl := rv.length
  rw [List.length_map] at hl
  obtain ⟨hjn, hje⟩ := List.getElem?_eq_some_iff.mp hj
  have hji : j < its.toArray.size := by rw [List.size_toArray]; omega
  have ry : RelV (V.int x) (Value.int x t) := ⟨t, rfl⟩
  have fys : (ns.map V.int).all flatV = true := flat_ints ns
  have at_ : ∀ (k : Nat) (y : Int), ns[k]? = some y → ∃ u, its[k]? = some u ∧ RelV (V.int y) u := fun k y e => rv.get (by rw [List.getElem?_map, e]; rfl)
  refine call_meets PySem.F.slot_list_index ⟨_, ho, rfl⟩ PySem.F.entry_list_index (PySem.F.args_list_index_2 _ _)
    (SeqAt.list_indexAt l2 its.toArray n none sl (.int x t) (eqU (V.int x)) j hji (by omega) ?_ ?_) ⟨ho, fun u' hu' => mem_eqAt ry rfl rv fys u' (by simpa using hu'), h _ _⟩
  · obtain ⟨u, hu, ru⟩ := at_ j x hj
    obtain ⟨_, hue⟩ := List.getElem?_eq_some_iff.mp hu
    have e1 : its.toArray[j] = u := by simpa using hue
    rw [e1, eqU_of ru rfl]
    simp [eqV]
  · intro k hks hkj
    have hkn : k < ns.length := by rw [List.size_toArray] at hks; omega
    have hk' : ns[k]? = some ns[k] := List.getElem?_eq_getElem hkn
    obtain ⟨u, hu, ru⟩ := at_ k _ hk'
    obtain ⟨_, hue⟩ := List.getElem?_eq_some_iff.mp hu
    have e1 : its.toArray[k] = u := by simpa using hue
    rw [e1, eqU_of ru rfl]
    have ne : ns[k] ≠ x := fun z => hno k hkj (by rw [hk', z])
    simp [eqV, ne]
theorem raw_key {m : Str → Option Value} {l1 c1 l2 c2 : Addr} {p1 p2 p3 p4 p5 q1 q2 apos cpos pos : Pos} {jk : Nat} {x a : Int} {t u : Tok} {its1 : Array Value} {ns : List Int} {its : List Value} {n : Nat} {sl : Array (Option Value)} {j : Nat} {nm nd rs : Str} {x1 : Nat}
    (hk : env.scope.kind = .function) (kn : env.kindOf nm = some .local) (hn : s.heap.Ns env.locals m) (hv : m nm = some (.int x t))
    (k1 : env.kindOf nd = some .free) (e1 : env.cells.lookup nd = some c1) (i1 : s.heap.IsCell c1 (some (.ref l1))) (hl : s.heap.IsList l1 its1) (h0 : 0 ≤ x) (hx : x < 2 ^ 63) (hi : its1[x.toNat]? = some (.int a u))
    (k2 : env.kindOf rs = some .free) (e2 : env.cells.lookup rs = some c2) (i2 : s.heap.IsCell c2 (some (.ref l2)))
    (ho : s.heap.get? l2 = some { cls := .type "list", dict := none, data := .seq its.toArray n, slots := sl }) (rv : Vals (ns.map V.int) its) (hz : ns.length ≤ 1000) (hj : ns[j]? = some x) (hno : ∀ k, k < j → ns[k]? ≠ some x)
    (hd1 : (nm == ("__debug__" : Str)) = false) (hd2 : (nd == ("__debug__" : Str)) = false) (hd3 : (nd == ("__classdict__" : Str)) = false) (hd4 : (rs == ("__debug__" : Str)) = false) (hd5 : (rs == ("__classdict__" : Str)) = false) (hline : (apos.endLine == cpos.line) = true) :
    wpAny (model prog w) A (eval (.Tuple [.BinOp (.Constant (.int 0) jk p1) .Sub (.Subscript (.Name nd p2) (.Name nm p3) p4) p5, .Call (.Attribute (.Name rs q1) "index" apos) [.Name nm q2] [] cpos] x1 pos) env) (PySem.W.KeyPure (.tuple [.int (0 - a), .int (j : Nat)]) s) E s := by
  refine wpAny_Tuple_spliced ?_
  refine Calls.spliced_cons (raw_first hk kn hn hv k1 e1 i1 hl h0 hx hi hd1 hd2 hd3 fun t1 tk1 => ?_)
  refine Calls.spliced_cons (raw_index (s := { s with toks := tk1 }) hk kn hn hv k2 e2 i2 ho rv hz hj hno hd1 hd4 hd5 hline fun t2 tk2 => ?_)
  refine Calls.spliced_nil ⟨by rw [sizeLine_eq]; simp, ?_⟩
  exact ⟨_, tk2, rfl, fun b o e => Heap.get?_push_of_some _ e, .tuple (Heap.get?_push_size _ rfl) rfl rfl (.cons (.int _ _) (.cons (.int _ _) .nil))⟩
end

end J
namespace J
open PySem PySem.Spec PyProof.Rows L2
--plain
/-! ### the key's lambda, called: the whole heap stays -/
section
open PySem PySem.Spec PyProof.Rows LamX NdefX
variable {P : Program} {w : World} {A : Around} {E : Value → Shared → Prop} {s : Shared} {f c : Addr} {N fr : List Str}
theorem lam_raw {q : Str} {params : Arguments} {scope : Scope} {cl : List (Str × Addr)} {pm ctv : Value} {l1 c1 l2 c2 : Addr} {p1 p2 p3 p4 p5 q1 q2 apos cpos pos : Pos} {jk : Nat} {x a : Int} {t u : Tok} {its1 : Array Value} {ns : List Int} {its : List Value} {n : Nat} {sl : Array (Option Value)} {j : Nat} {nm nd rs : Str} {x1 : Nat}
    (hdep : A.depth < recursionLimit) (lim : s.heap.NoLimit)
    (hf : s.heap.get? f = some (PySem.W.kla_obj "<lambda>" q params (.Tuple [.BinOp (.Constant (.int 0) jk p1) .Sub (.Subscript (.Name nd p2) (.Name nm p3) p4) p5, .Call (.Attribute (.Name rs q1) "index" apos) [.Name nm q2] [] cpos] x1 pos) scope cl pm c ctv)) (hc : s.heap.CodeRec (.ref c) q)
    (S : NScope N [nm] fr scope)
    (hb : bindArgs (PySem.W.kla_fn "<lambda>" q params (.Tuple [.BinOp (.Constant (.int 0) jk p1) .Sub (.Subscript (.Name nd p2) (.Name nm p3) p4) p5, .Call (.Attribute (.Name rs q1) "index" apos) [.Name nm q2] [] cpos] x1 pos) scope cl pm (.ref c) ctv) ⟨[.int x t], []⟩ = pure [(nm, .int x t)])
    (k1 : scope.names.lookup nd = some .free) (e1 : cl.lookup nd = some c1) (i1 : s.heap.IsCell c1 (some (.ref l1))) (hl : s.heap.IsList l1 its1) (h0 : 0 ≤ x) (hx : x < 2 ^ 63) (hi : its1[x.toNat]? = some (.int a u))
    (k2 : scope.names.lookup rs = some .free) (e2 : cl.lookup rs = some c2) (i2 : s.heap.IsCell c2 (some (.ref l2)))
    (ho : s.heap.get? l2 = some { cls := .type "list", dict := none, data := .seq its.toArray n, slots := sl }) (rv : Vals (ns.map V.int) its) (hz : ns.length ≤ 1000) (hj : ns[j]? = some x) (hno : ∀ k, k < j → ns[k]? ≠ some x)
    (hd1 : (nm == ("__debug__" : Str)) = false) (hd2 : (nd == ("__debug__" : Str)) = false) (hd3 : (nd == ("__classdict__" : Str)) = false) (hd4 : (rs == ("__debug__" : Str)) = false) (hd5 : (rs == ("__classdict__" : Str)) = false) (hline : (apos.endLine == cpos.line) = true) :
    wpAny (model P w) A (call (.ref f) [.int x t]) (PySem.W.KeyPure (.tuple [.int (0 - a), .int (j : Nat)]) s) E s := by
  refine wpAny_call ?_
  refine PySem.W.kla_callFunE hdep hf rfl S.co S.gen rfl hc ?_
  rw [hb]
  refine wpAny_pure (wpAny_newFunctionEnv S.nocell (fun y hy => ?_) (fun h₁ hns hsb => ⟨lim.fresh _ hsb, ?_⟩) S.kind)
  · rw [List.mem_singleton.mp hy]
    exact S.par nm List.mem_cons_self
  · show codeAny _ _ (.expr _ (envF (lamF q params scope cl c) f s.heap.objs.size)) _ _
    have kp : ∀ b o, s.heap.get? b = some o → h₁.get? b = some o := fun b o e => hsb.extBut b o (Nat.ne_of_lt (Heap.lt_size e)) (Heap.get?_push_of_some _ e)
    have cellK : ∀ {c : Addr} {v : Option Value}, s.heap.IsCell c v → h₁.IsCell c v := fun {c v} ⟨o, ho, hd⟩ => ⟨o, kp _ _ ho, hd⟩
    obtain ⟨ol, hol, hrest⟩ := id hl
    refine PySem.W.kla_codeExpr (wpAny_mono (raw_key (env := envF (lamF q params scope cl c) f s.heap.objs.size) (s := { s with heap := h₁, toks := s.toks + [(nm, Value.int x t)].length }) S.kind (S.par nm List.mem_cons_self) hns (t := t) (by simp [List.lookup]) k1 e1 (cellK i1) ⟨ol, kp _ _ hol, hrest⟩ h0 hx hi k2 e2 (cellK i2) (kp _ _ ho) rv hz hj hno hd1 hd2 hd3 hd4 hd5 hline) (fun v s' hq => ?_) fun e s' hq => hq)
    obtain ⟨h', tk, e, k, r⟩ := hq
    exact ⟨h', tk, e, fun b o g => k b o (kp b o g), r⟩
end

end J
namespace J
open PySem PySem.Spec PyProof.Rows L2
--plain
/-! ### what sorted by the key gives -/
theorem sort_ii {ss : List SetE} : ((restI ss).mergeSort (PySem.W.dataLe false fun r : Int => PyData.tuple [.int (0 - ((nedF ss r : Nat) : Int)), .int (((restI ss).idxOf r : Nat) : Int)])).Perm (restI ss) ∧
    ((restI ss).mergeSort (PySem.W.dataLe false fun r : Int => PyData.tuple [.int (0 - ((nedF ss r : Nat) : Int)), .int (((restI ss).idxOf r : Nat) : Int)])).Pairwise fun a b => lexI (keyI ss b) (keyI ss a) = false := by
  refine ⟨List.mergeSort_perm _ _, ?_⟩
  rw [PySem.W.dataLe_ii (fun r : Int => 0 - ((nedF ss r : Nat) : Int)) (fun r : Int => (((restI ss).idxOf r : Nat) : Int))]
  refine (List.pairwise_mergeSort (fun a b c h1 h2 => ?_) (fun a b => ?_) _).imp fun {a b} h => ?_
  · rw [decide_eq_true_eq] at h1 h2 ⊢
    omega
  · rw [Bool.or_eq_true, decide_eq_true_eq, decide_eq_true_eq]
    omega
  · rw [decide_eq_true_eq] at h
    unfold keyI
    rw [lex_pair]
    by_cases g : (0 - ((nedF ss b : Nat) : Int)) = 0 - ((nedF ss a : Nat) : Int)
    · rw [if_pos g]
      by_cases g2 : (((restI ss).idxOf b : Nat) : Int) = ((restI ss).idxOf a : Nat)
      · rw [if_pos g2]
      · rw [if_neg g2]
        exact decide_eq_false (by omega)
    · rw [if_neg g]
      exact decide_eq_false (by omega)

end J
namespace J
open PySem PySem.Spec PyProof.Rows L2
--plain
/-! ### sorted(rests, key=the lambda), raw: the turn is handed over -/
section
open PySem PySem.Spec PyProof.Rows
theorem each_ints : ∀ {ns : List Int} {vs : List Value}, Vals (ns.map V.int) vs → PySem.W.EachIs (fun (v : Value) (b : Int) => ∃ t, v = .int b t) vs ns
  | [], _, .nil => .nil
  | _ :: _, _, .cons r t => .cons r (each_ints t)
theorem ints_each : ∀ {ns : List Int} {vs : List Value}, PySem.W.EachIs (fun (v : Value) (b : Int) => ∃ t, v = .int b t) vs ns → Vals (ns.map V.int) vs
  | _, _, .nil => .nil
  | _, _, .cons r t => .cons r (ints_each t)
variable {X : Cx} {K : PySem.W.Frag} {pins : List (Addr × Obj)} {σ : L2.St} {H : Hp} {s : Shared}
theorem sorted_keys {l f : Addr} {ns : List Int} {ka kb : Int → Int} {Q : VK} {k : Nat} (I : Inv X pins σ H s) (hr : Room k X.A) (hs : SqL X.K H l (ns.map V.int))
    (turn : ∀ (v : Value) (x : Int), (∃ t, v = .int x t) → x ∈ ns → ∀ (h : Heap) (tk : Nat), (∀ b o, s.heap.get? b = some o → h.get? b = some o) →
      wpAny (model X.prog X.w) X.A.in1.in1 (call (.ref f) [v]) (PySem.W.KeyPure (.tuple [.int (ka x), .int (kb x)]) { s with heap := h, toks := tk }) (fun _ _ => False) { s with heap := h, toks := tk })
    (q : NewO (.lst ((ns.mergeSort (PySem.W.dataLe false fun x : Int => PyData.tuple [.int (ka x), .int (kb x)])).map V.int)) H Q) :
    wpAny (model X.prog X.w) X.A (call (.builtin "sorted") [.ref l] [(Str.ofString "key", .ref f)]) (EP X pins σ Q) X.xe s := by
  obtain ⟨its, rv, hl, hz⟩ := I.list hs
  rw [List.length_map] at hz
  refine PySem.W.sorted_key_data (b := false) (vs := its) (bs := ns) (fun x : Int => PyData.tuple [.int (ka x), .int (kb x)]) hl.isList (each_ints rv) (fun d hd d' hd' => ?_) (.inl fun d hd => ?_) hz (fun x _ => ?_) (PyProof.Rows.ksk_s1 _ _) (fun _ => PyProof.Rows.ksk_l1 _ _) (fun _ => PyProof.Rows.ksk_t1 _ _) turn fun out c h' tk kp fr hat hlen e => ?_
  · obtain ⟨x, _, rfl⟩ := List.mem_map.mp hd
    obtain ⟨y, _, rfl⟩ := List.mem_map.mp hd'
    rfl
  · obtain ⟨x, _, rfl⟩ := List.mem_map.mp hd
    exact ⟨_, _, rfl⟩
  · have := hr.un
    simp only [PyData.depth, PyData.depthAll]
    omega
  · have hv := ints_each e
    refine ⟨.ref _, upd H (s.heap.objs.size + 1) (.lst ((ns.mergeSort (PySem.W.dataLe false fun x : Int => PyData.tuple [.int (ka x), .int (kb x)])).map V.int)), I.laid (t' := tk) kp (Nat.le_succ _) ⟨?_, out, c, hv, hat⟩, rfl, q _ (I.hok.fresh (Nat.le_succ _))⟩
    rw [List.length_map, (List.mergeSort_perm _ _).length_eq]; exact hz
end

end J
namespace J
open PySem PySem.Spec PyProof.Rows L2
--plain
/-! ### sorted(e, key=lambda nm: (0 - nd[nm], rs.index(nm))) as a rule -/
section
open PySem PySem.Spec PyProof.Rows LamX NdefX
def keyS (as ns : List Int) : Int → PyData := fun x => .tuple [.int (0 - as.getD x.toNat 0), .int ((ns.idxOf x : Nat) : Int)]
def tSortLam (K : PySem.W.Frag) (T : List (Addr × Str)) (i1 i2 : Nat) (te : TE) : TE := fun σ H Q => te σ H fun v H1 => ∃ (l : Addr) (ns : List Int) (l1 : Addr) (as : List Int), v = .ref l ∧ SqL K H1 l (ns.map V.int) ∧ σ[i1]? = some (some (.ref l1)) ∧ SqL K H1 l1 (as.map V.int) ∧ σ[i2]? = some (some (.ref l)) ∧
  ns.length ≤ 1000 ∧ (∀ x ∈ ns, 0 ≤ x ∧ x.toNat < as.length) ∧ Tabs T H1 ∧ ∀ H2, ExtN H1 H2 → Tabs T H2 → NewO (.lst ((ns.mergeSort (PySem.W.dataLe false (keyS as ns))).map V.int)) H2 Q
variable {X : Cx}
theorem cell_look {pins : List (Addr × Obj)} {σ : L2.St} {H : Hp} {s : Shared} {i : Nat} {y : Str} {a : Addr} {scope : Scope} (I : Inv X pins σ H s) (hN : X.N[i]? = some y) (hs : σ[i]? = some (some (.ref a))) (hc : X.env.scope.names.lookup y = some .cell)
    (hf : scope.names.lookup y = some .free) (hfree : ∀ y ∈ scope.names, y.2 = .free → ∃ c, X.env.cells.lookup y.1 = some c) :
    ∃ c, (cloFrom X.env.cells scope.names []).lookup y = some c ∧ s.heap.IsCell c (some (.ref a)) := by
  have hy : (y, NameKind.free) ∈ scope.names := PySem.mem_of_lookup hf
  obtain ⟨c, hc1⟩ := mem_lookup (cloFrom_has (cells := X.env.cells) (acc := []) hy)
  have e1 : X.env.cells.lookup y = some c := by
    rcases cloFrom_mem (PySem.mem_of_lookup hc1) with hm | ⟨h1, h2⟩
    · cases hm
    · obtain ⟨c1, hc⟩ := hfree _ h1 rfl
      have hc : X.env.cells.lookup y = some c1 := hc
      have e2 : c = c1 := by
        rw [h2, hc] <;> rfl
      rw [e2]
      exact hc
  obtain ⟨m, hn, hl⟩ := I.loc
  obtain ⟨u, r, q⟩ := hl i y (.ref a) hN hs (.inr (.inl hc))
  obtain rfl : u = Value.ref a := r
  refine ⟨c, hc1, ?_⟩
  rcases q with ⟨k', _⟩ | ⟨_, c3, e', z⟩
  · have k' : X.env.scope.names.lookup y = some .local := k'
    rw [hc] at k'
    cases k'
  · rw [e1] at e'
    cases e'
    exact z
theorem pe_sortedLam {T : List (Addr × Str)} {c P : Addr} {k i1 i2 : Nat} {e : Expr} {te : TE} {N fr : List Str} {params : Arguments} {scope : Scope} {p lpos kpos pos p1 p2 p3 p4 p5 q1 q2 apos cpos tpos : Pos} {jk x1 : Nat} {nm nd rs : Str}
    (hg : Gl X ("sorted" : Str)) (hm : X.mg ("sorted" : Str) = none) (he : PE X e te)
    (TB : TabB X.base X.mg c P) (hcode : X.env.code = .ref c) (hmT : (P, X.env.qual ++ "<lambda>") ∈ T) (hu : ∀ p ∈ T, p.1 = P → p.2 = X.env.qual ++ "<lambda>") (hr : Room (k + 1) X.A)
    (S : NScope N [nm] fr scope) (hlo : ∀ y ∈ scope.names, y.2 = .free → X.env.scope.names.lookup y.1 = some .cell) (hdef : defaultsOf params X.env = ([], []))
    (hbind : ∀ (q : Str) (body : Expr) (cl : List (Str × Addr)) (pm cv ctv v : Value), bindArgs (PySem.W.kla_fn "<lambda>" q params body scope cl pm cv ctv) ⟨[v], []⟩ = pure [(nm, v)])
    (h1 : X.N[i1]? = some nd) (h2 : X.N[i2]? = some rs) (k1 : scope.names.lookup nd = some .free) (k2 : scope.names.lookup rs = some .free)
    (hd1 : (nm == ("__debug__" : Str)) = false := by decide) (hd2 : (nd == ("__debug__" : Str)) = false := by decide) (hd3 : (nd == ("__classdict__" : Str)) = false := by decide) (hd4 : (rs == ("__debug__" : Str)) = false := by decide) (hd5 : (rs == ("__classdict__" : Str)) = false := by decide) (hline : (apos.endLine == cpos.line) = true := by rfl)
    (heq : backTo pos (starEach [e] X.env) = [(false, eval e X.env)] := by rfl) :
    PE X (.Call (.Name "sorted" p) [e] [⟨some "key", .Lambda params (.Tuple [.BinOp (.Constant (.int 0) jk p1) .Sub (.Subscript (.Name nd p2) (.Name nm p3) p4) p5, .Call (.Attribute (.Name rs q1) "index" apos) [.Name nm q2] [] cpos] x1 tpos) scope lpos, kpos⟩] pos) (tSortLam X.K T i1 i2 te) := by
  refine ⟨fun pins s σ H Q I h => ?_⟩
  unfold tSortLam at h
  refine wpAny_Call_Name_kw (ld_blt I hg hm (u := .builtin "sorted") rfl ?_)
  refine PyProof.Rows.callWith_kw (id := "sorted") ?_ heq (by rw [heq]; rfl) (by rfl) (by rfl)
  rw [heq]
  refine Calls.spliced_cons (thn (he.run pins s σ H _ I h) fun u s1 ⟨v, H1, I1, r1, l, ns, l1, as, ev, hns, hs1, has, hs2, hz, hx, hT, hq⟩ => ?_)
  subst ev
  obtain rfl : u = Value.ref l := r1
  refine Calls.spliced_nil ?_
  have hfree : ∀ y ∈ scope.names, y.2 = .free → ∃ c, X.env.cells.lookup y.1 = some c := fun y hy e => I1.ok.has _ (.inl (hlo y hy e))
  refine wpAny_evalAll_cons (wpAny_bind (lam_make2 I1 TB hcode hmT hu hT hdef hfree fun f c' pm ctv H2 s2 I2 eN T2 hf hfn hfr hco => wpAny_bind (wpAny_standAt (wpAny_pure (wpAny_evalAll_nil ?_)))))
  obtain ⟨c1, e1, i1'⟩ := cell_look (scope := scope) I2 h1 hs1 (hlo _ (PySem.mem_of_lookup k1) rfl) k1 hfree
  obtain ⟨c2, e2, i2'⟩ := cell_look (scope := scope) I2 h2 hs2 (hlo _ (PySem.mem_of_lookup k2) rfl) k2 hfree
  obtain ⟨its1, rv1, hl1, _⟩ := I2.list (extN_sqL eN has)
  obtain ⟨its, rv, hl, _⟩ := I2.list (extN_sqL eN hns)
  refine sorted_keys (ka := fun x => 0 - as.getD x.toNat 0) (kb := fun x => ((ns.idxOf x : Nat) : Int)) I2 hr (extN_sqL eN hns) (fun v x hv hmem h tk keep => ?_) (hq H2 eN T2)
  obtain ⟨t, rfl⟩ := hv
  obtain ⟨⟨oc, vs, tc, hoc, hdc, hvc⟩, _, _⟩ := I2.hok c' _ hco
  have lim : h.NoLimit := I2.nolimit.keeps keep
  have cellK : ∀ {c : Addr} {v : Option Value}, s2.heap.IsCell c v → h.IsCell c v := fun {c v} ⟨o, ho, hd⟩ => ⟨o, keep _ _ ho, hd⟩
  obtain ⟨ol, nl, hol, hcl, hdl, hda⟩ := hl1
  obtain ⟨ol2, nl2, hol2, hcl2, hdl2, hda2⟩ := hl
  obtain ⟨h0, hlt⟩ := hx x hmem
  have g1 : (as.map V.int)[x.toNat]? = some (V.int (as.getD x.toNat 0)) := by
    rw [List.getElem?_map, List.getElem?_eq_getElem hlt]
    simp [List.getD, List.getElem?_eq_getElem hlt]
  obtain ⟨u1, hu1, ru1⟩ := rv1.get g1
  obtain ⟨tu, rfl⟩ := ru1
  have hj : ns[ns.idxOf x]? = some x := by
    have := List.idxOf_lt_length_of_mem hmem
    rw [List.getElem?_eq_getElem this, List.getElem_idxOf]
  have hno : ∀ k, k < ns.idxOf x → ns[k]? ≠ some x := fun k hk z => by
    obtain ⟨hkl, hke⟩ := List.getElem?_eq_some_iff.mp z
    have hk2 : k < ns.findIdx (· == x) := hk
    have := List.not_of_lt_findIdx hk2
    simp [hke] at this
  have has63 : x < 2 ^ 63 := by
    have := I2.list (extN_sqL eN has)
    obtain ⟨_, _, _, z⟩ := this
    rw [sizeLine_eq, List.length_map] at z
    omega
  obtain ⟨cl2, dt2, da2, sl2⟩ := ol2
  cases hcl2; cases hdl2; cases hda2
  exact lam_raw (A := X.A.in1.in1) (s := { s2 with heap := h, toks := tk }) (N := N) (fr := fr) (by have := hr.dp; show X.A.depth < _; omega) lim (keep _ _ hf) ⟨c', oc, vs, tc, rfl, keep _ _ hoc, hdc, hvc⟩ S (hbind _ _ _ _ _ _ _)
    k1 e1 (cellK i1') ⟨ol, keep _ _ hol, hcl, nl, hda⟩ h0 has63 (by simpa using hu1) k2 e2 (cellK i2') (keep _ _ hol2) rv hz hj hno hd1 hd2 hd3 hd4 hd5 hline
end

end J
namespace J
open PySem PySem.Spec PyProof.Rows L2
local macro_rules | `(tactic| walk_at "cls") => `(tactic| first
  | with_reducible exact Facts.cl_Parts
  | with_reducible exact Facts.cl_Order)
local macro_rules | `(tactic| walk_at "na") => `(tactic| first
  | with_reducible exact Facts.na_Parts_rows
  | with_reducible exact Facts.na_Order_parts
  | with_reducible exact Facts.na_Order_order
  | with_reducible exact Facts.na_Order_needed)
local macro_rules | `(tactic| walk_at "ty") => `(tactic| first
  | with_reducible exact ty_int
  | with_reducible exact ty_bl
  | with_reducible exact ty_str
  | with_reducible exact ty_non
  | ((with_reducible refine' ty_lst ?vv); (case vv => walk_at "tr"))
  | ((with_reducible refine' ty_sqT ?vv); (case vv => walk_at "tr"))
  | ((with_reducible refine' ty_dic ?vv); (case vv => walk_at "tr")))
local macro_rules | `(tactic| walk_at "ix") => `(tactic| first | exact at0 | exact at1 | exact at2 | assumption)
local macro_rules | `(tactic| walk_at "size") => `(tactic| first
  | assumption
  | (show _ < sizeLine; rw [sizeLine_eq]; (try simp only [List.length_cons, List.length_nil, List.length_append, List.length_map]); omega)
  | (show _ ≤ sizeLine; rw [sizeLine_eq]; (try simp only [List.length_cons, List.length_nil, List.length_append, List.length_map]); omega))
local macro_rules | `(tactic| walk_at "side") => `(tactic| first
  | assumption
  | ((with_reducible refine cdw ?_ ?_) <;> omega)
  | omega
  | (exact ⟨by omega, by omega⟩)
  | (exact Or.inl ⟨by omega, by omega⟩)
  | (exact Or.inr ⟨by omega, by omega⟩)
  | decide
  | (simp only [List.length_cons, List.length_nil, List.length_append, List.length_map]; omega)
  | (show _ ≤ _; decide))
local macro_rules | `(tactic| walk_at "as") => `(tactic| with_reducible assumption)
local macro_rules | `(tactic| walk_at "tr") => `(tactic| first
  | with_reducible assumption
  | with_reducible exact upd_same
  | ((with_reducible refine' SqL.of ?hh); (case hh => walk_at "as"))
  | ((with_reducible refine' SqT.of ?hh); (case hh => walk_at "as"))
  | ((with_reducible refine' Same.stm ?ee ?gg); (case ee => walk_at "as"); (case gg => walk_at "tr"))
  | ((with_reducible refine' Same.sqT ?ee ?gg); (case ee => walk_at "as"); (case gg => walk_at "tr"))
  | ((with_reducible refine' Same.sqL ?ee ?gg); (case ee => walk_at "as"); (case gg => walk_at "tr"))
  | ((with_reducible refine' Same.at ?ee ?gg); (case ee => walk_at "as"); (case gg => walk_at "tr"))
  | ((with_reducible refine' But.stm ?ee ?ff ?gg); (case ee => walk_at "as"); (case ff => walk_at "ne"); (case gg => walk_at "tr"))
  | ((with_reducible refine' But.tup ?ee ?ff ?gg); (case ee => walk_at "as"); (case ff => walk_at "tr1"); (case gg => walk_at "tr"))
  | ((with_reducible refine' But.sqT ?ee ?ff ?gg); (case ee => walk_at "as"); (case ff => walk_at "tr1"); (case gg => walk_at "tr"))
  | ((with_reducible refine' But.tupL ?ee ?ff ?gg); (case ee => walk_at "as"); (case ff => walk_at "tr1"); (case gg => walk_at "tr"))
  | ((with_reducible refine' But.sqTL ?ee ?ff ?gg); (case ee => walk_at "as"); (case ff => walk_at "tr1"); (case gg => walk_at "tr"))
  | ((with_reducible refine' But.sqL ?ee ?ff ?gg); (case ee => walk_at "as"); (case ff => walk_at "ne"); (case gg => walk_at "tr"))
  | ((with_reducible refine' But.at ?ee ?ff ?gg); (case ee => walk_at "as"); (case ff => walk_at "ne"); (case gg => walk_at "tr")))
local macro_rules | `(tactic| walk_at "ts") => `(tactic| first
  | with_reducible assumption
  | with_reducible exact TS.refl _
  | ((with_reducible refine' TS.trans ?gg (TS.of ?ee)); (case ee => walk_at "as"); (case gg => walk_at "ts"))
  | ((with_reducible refine' TS.trans ?gg (TS.butS ?ee ?ff)); (case ee => walk_at "as"); (case ff => walk_at "tr1"); (case gg => walk_at "ts"))
  | ((with_reducible refine' TS.trans ?gg (TS.butL ?ee ?ff)); (case ee => walk_at "as"); (case ff => walk_at "tr1"); (case gg => walk_at "ts"))
  | ((with_reducible refine' TS.trans ?gg (TS.butI ?ee ?ff)); (case ee => walk_at "as"); (case ff => walk_at "tr1"); (case gg => walk_at "ts")))
local macro_rules | `(tactic| walk_at "sm") => `(tactic| first
  | with_reducible assumption
  | with_reducible exact Same.refl _
  | ((with_reducible refine' Same.trans ?gg ?ee); (case ee => walk_at "as"); (case gg => walk_at "sm"))
  | ((with_reducible refine' But.new ?gg ?nn ?ee); (case ee => walk_at "as"); (case nn => walk_at "fr"); (case gg => walk_at "sm")))
local macro_rules | `(tactic| walk_at "fr") => `(tactic| first
  | with_reducible assumption
  | ((with_reducible refine' Same.back ?ee ?nn); (case nn => walk_at "as"); (case ee => walk_at "sm"))
  | ((with_reducible refine' But.back ?ee ?ff ?nn); (case nn => walk_at "as"); (case ff => walk_at "ne0"); (case ee => walk_at "bu")))
local macro_rules | `(tactic| walk_at "bu") => `(tactic| first
  | with_reducible assumption
  | with_reducible exact But.refl _ _
  | ((with_reducible refine' But.trans ?gg ?ee); (case ee => walk_at "as"); (case gg => walk_at "bu"))
  | ((with_reducible refine' But.trans ?gg (But.of ?ee)); (case ee => walk_at "as"); (case gg => walk_at "bu"))
  | ((with_reducible refine' But.new2 ?gg ?nn ?ee); (case ee => walk_at "as"); (case nn => walk_at "frB"); (case gg => walk_at "bu")))
local macro_rules | `(tactic| walk_at "frB") => `(tactic| first
  | with_reducible assumption
  | ((with_reducible refine' Same.back ?ee ?nn); (case nn => walk_at "as"); (case ee => walk_at "sm"))
  | ((with_reducible refine' But.back' ?ee ?ff ?nn); (case nn => walk_at "as"); (case ee => walk_at "bu"); (case ff => walk_at "tr1")))
local macro_rules | `(tactic| walk_at "tr1") => `(tactic| first
  | with_reducible assumption
  | ((with_reducible refine' Same.stm ?ee ?gg); (case ee => walk_at "as"); (case gg => walk_at "tr1"))
  | ((with_reducible refine' Same.at ?ee ?gg); (case ee => walk_at "as"); (case gg => walk_at "tr1"))
  | ((with_reducible refine' But.at ?ee ?ff ?gg); (case ee => walk_at "as"); (case ff => walk_at "ne0"); (case gg => walk_at "tr1"))
  | ((with_reducible refine' But.stm ?ee ?ff ?gg); (case ee => walk_at "as"); (case ff => walk_at "ne0"); (case gg => walk_at "tr1")))
local macro_rules | `(tactic| walk_at "ne0") => `(tactic| first
  | with_reducible assumption
  | (with_reducible apply Ne.symm; with_reducible assumption))
local macro_rules | `(tactic| walk_at "ne") => `(tactic| first
  | with_reducible assumption
  | (with_reducible apply Ne.symm; with_reducible assumption)
  | ((with_reducible refine' stm_ne ?hh ?nn); (case nn => walk_at "as"); (case hh => walk_at "tr1"))
  | ((with_reducible refine' ne_of_none ?hh ?nn); (case nn => walk_at "as"); (case hh => walk_at "tr1"))
  | ((with_reducible apply Ne.symm); (with_reducible refine' ne_of_none ?hh ?nn); (case nn => walk_at "as"); (case hh => walk_at "tr1")))
local macro_rules | `(tactic| walk_at "v") => `(tactic| first
  | with_reducible refine w_seq ?_
  | ((with_reducible refine' w_var ?vv ?_); (case vv => exact rfl))
  | with_reducible refine w_c ?_
  | with_reducible refine w_op ?_
  | with_reducible refine w_asg ?_
  | with_reducible refine w_gName ?_
  | with_reducible refine w_ret ?_
  | with_reducible refine w_ifS ?_
  | with_reducible refine w_drop ?_
  | with_reducible refine w_next ?_
  | with_reducible refine w_cons ?_
  | with_reducible refine w_nil ?_
  | with_reducible refine w_call ?_
  | with_reducible refine w_cb ?_
  | with_reducible refine w_rI0 ?_
  | with_reducible refine w_addI ?_
  | with_reducible refine w_eqI ?_
  | with_reducible refine w_neI ?_
  | with_reducible refine w_eqS ?_
  | with_reducible refine w_neS ?_
  | with_reducible refine w_eqB ?_
  | with_reducible refine w_neB ?_
  | with_reducible refine w_chain ?_
  | with_reducible refine w_test ?_
  | with_reducible refine w_tB ?_
  | with_reducible refine w_bl ?_
  | ((with_reducible refine' w_mulI ?vv ?_); (case vv => walk_at "side"))
  | ((with_reducible refine' w_rI ?vv ?_); (case vv => walk_at "side"))
  | with_reducible refine w_int1 ?_
  | with_reducible refine w_int1b ?_
  | with_reducible refine w_tup ?_
  | with_reducible refine w_lst ?_
  | with_reducible refine w_un ?_
  | with_reducible refine w_rU ?_
  | with_reducible refine w_not ?_
  | with_reducible refine w_notV ?_
  | with_reducible refine w_ifE ?_
  | with_reducible refine w_nT ?_
  | with_reducible refine w_nF ?_
  | with_reducible refine iteT ?_
  | with_reducible refine iteF ?_
  | ((with_reducible refine' w_ixT ?vv ?ww ?_); (case vv => walk_at "tr"); (case ww => walk_at "ix"))
  | ((with_reducible refine' w_ixL ?vv ?ww ?_); (case vv => walk_at "tr"); (case ww => walk_at "ix"))
  | with_reducible refine w_gSub ?_
  | ((with_reducible refine' w_setL ?vv ?ww ?_); (case vv => walk_at "tr"); (case ww => first | rfl | decide | assumption))
  | ((with_reducible refine' w_lenL ?vv ?_); (case vv => walk_at "tr"))
  | ((with_reducible refine' w_lenT ?vv ?_); (case vv => walk_at "tr"))
  | with_reducible refine w_max2 ?_
  | with_reducible refine w_max3 ?_
  | with_reducible refine w_din ?_
  | with_reducible refine w_dnotin ?_
  | with_reducible refine w_dput ?_
  | with_reducible refine w_min2 ?_
  | with_reducible refine w_bm ?_
  | with_reducible refine w_bm0 ?_
  | ((with_reducible refine' w_tyL ?vv ?_); (case vv => walk_at "tr"))
  | ((with_reducible refine' w_append ?vv ?ww ?_); (case vv => walk_at "tr"); (case ww => walk_at "size"))
  | ((with_reducible refine' w_size ?vv ?_); (case vv => walk_at "size"))
  | with_reducible refine w_forL ?_
  | with_reducible refine w_forT ?_
  | with_reducible refine w_forR1 ?_
  | with_reducible refine w_forR2 ?_
  | with_reducible refine w_lcL ?_
  | with_reducible refine w_lcT ?_
  | with_reducible refine w_lcR1 ?_
  | with_reducible refine w_yes ?_
  | with_reducible refine w_sl ?_
  | with_reducible refine w_noPart ?_
  | with_reducible refine w_part ?_
  | with_reducible refine w_int ?_
  | ((with_reducible refine' w_slL ?vv ?_); (case vv => walk_at "tr"))
  | ((with_reducible refine' w_seqL ?vv ?ww ?_); (case vv => walk_at "tr"); (case ww => rfl))
  | ((with_reducible refine' w_seqT ?vv ?ww ?_); (case vv => walk_at "tr"); (case ww => rfl))
  | with_reducible refine w_gNil ?_
  | with_reducible refine w_gCons ?_
  | with_reducible refine w_forZ ?_
  | with_reducible refine w_forM ?_
  | with_reducible refine w_forE ?_
  | with_reducible refine w_forV ?_
  | with_reducible refine w_lcZ ?_
  | with_reducible refine w_lcE ?_
  | ((with_reducible refine' w_isi (b := true) ?vv ?ww ?_); (case vv => walk_at "ty"); (case ww => decide +kernel))
  | ((with_reducible refine' w_isi (b := false) ?vv ?ww ?_); (case vv => walk_at "ty"); (case ww => decide +kernel))
  | with_reducible refine w_revL ?_
  | with_reducible refine w_pairN ?_
  | with_reducible refine w_pairC ?_
  | with_reducible refine w_dget ?_
  | with_reducible refine w_met ?_
  | ((with_reducible refine' w_metAt ?vv ?ww ?_); (case vv => walk_at "tr"); (case ww => rfl))
  | with_reducible refine w_mkI ?_
  | with_reducible refine w_fld ?_
  | ((with_reducible refine' w_fldAt ?vv ?cc ?nn ?ww ?_); (case vv => walk_at "tr"); (case cc => walk_at "cls"); (case nn => walk_at "na"); (case ww => rfl))
  | with_reducible refine w_sfld ?_
  | ((with_reducible refine' w_sfldAt ?vv ?cc ?nn ?ll ?ee ?_); (case vv => walk_at "tr"); (case cc => walk_at "cls"); (case nn => walk_at "na"); (case ll => simp); (case ee => rfl))
  | ((with_reducible refine' w_tupL ?vv ?_); (case vv => walk_at "tr"))
  | ((with_reducible refine' w_tupT ?vv ?_); (case vv => walk_at "tr"))
  | ((with_reducible refine' w_listL ?vv ?_); (case vv => walk_at "tr"))
  | ((with_reducible refine' w_listT ?vv ?_); (case vv => walk_at "tr"))
  | with_reducible refine w_tyS ?_
  | with_reducible refine w_retN ?_
  | with_reducible refine w_break ?_
  | with_reducible refine w_cont ?_)
local macro_rules | `(tactic| walk_at "w") => `(tactic| first
  | walk_at "v"
  | with_reducible refine w_or ?_
  | with_reducible refine w_and ?_
  | with_reducible refine w_andV ?_
  | with_reducible refine w_orV ?_)
local macro_rules | `(tactic| walk_at "wd") => `(tactic| first
  | walk_at "w"
  | ((with_reducible refine' w_decT ?vv ?_); (case vv => decide +kernel))
  | ((with_reducible refine' w_decF ?vv ?_); (case vv => decide +kernel)))
local macro_rules | `(tactic| walk_at "tz") => `(tactic| (intro S z; (repeat walk_at "w"); exact z))
local macro_rules | `(tactic| walk_at "wf") => `(tactic| first
  | walk_at "wd"
  | ((with_reducible refine' w_decF ?vv ?_); (case vv => with_reducible assumption)))
/-! ### k29: the law's own best order -/
theorem parts_rt : ∀ (es : List Exp) (ps : List PyData), intsD (parts es ps).1 = (pos es ps.length).map rootO
  | [], _ => rfl
  | e :: es, ps => by
    have e0 : intsD (parts (e :: es) ps).1 = intsD [(e.part ps).1] ++ intsD (parts es (e.part ps).2).1 := by
      rw [parts]; unfold intsD; rw [← List.filterMap_append]; rfl
    have e1 : ((ps.length + e.cnt : Nat) : Int) = (ps.length : Int) + e.cnt := by omega
    have ih := parts_rt es (e.part ps).2
    rw [e.part_len, e1] at ih
    rw [e0, (part_own e ps).2, ih]
    unfold pos
    rw [offs, List.filter_cons]
    by_cases z : 0 < e.need
    · have c := (need_cnt e).mp z
      rw [if_pos (by simpa using z), List.map_cons]
      unfold Exp.rt
      rw [if_neg (by omega)]; rfl
    · have c : e.cnt = 0 := Nat.eq_zero_of_not_pos fun h => z ((need_cnt e).mpr h)
      rw [if_neg (by simpa using z)]
      unfold Exp.rt
      rw [if_pos c]; rfl
theorem proots_rt : ∀ (ss : List SetE) (ps : List PyData), (proots ss ps).1.flatMap ownD = (pos (restsL ss) ps.length).map rootO
  | [], _ => rfl
  | s :: ss, ps => by
    have e : restsL (s :: ss) = s.rests ++ restsL ss := List.flatMap_cons
    have e1 : ((ps.length + cnts s.rests : Nat) : Int) = (ps.length : Int) + cnts s.rests := by omega
    have ih := proots_rt ss (parts s.rests ps).2
    rw [parts_len, e1] at ih
    rw [e, pos_app, List.map_append, ← ih, ← parts_rt]
    rfl
theorem restI_at (ss : List SetE) : (proots ss []).1.flatMap ownD = restI ss := proots_rt ss []
theorem prow_at {ss : List SetE} (ho : ∀ s ∈ ss, OkS 4 s) : ∀ d ∈ (proots ss []).1, ∃ items, d = .tuple items ∧ (∀ x ∈ items, Item x) ∧ items.length ≤ 2 := by
  have key : ∀ (ss : List SetE) (ps : List PyData), (∀ s ∈ ss, OkS 4 s) → Rows ps → ∀ d ∈ (proots ss ps).1, ∃ items, d = .tuple items ∧ (∀ x ∈ items, Item x) ∧ items.length ≤ 2 := by
    intro ss
    induction ss with
    | nil => intro ps _ _ d hd; exact (List.not_mem_nil hd).elim
    | cons s ss ih =>
      intro ps ho hr d hd
      have g := okS_rests (ho s List.mem_cons_self)
      have pk := parts_ok s.rests (fun e he => (g e he).2) hr
      rcases List.mem_cons.mp hd with rfl | hd
      · refine ⟨_, rfl, pk.1, ?_⟩
        have : ∀ (es : List Exp) (ps : List PyData), (parts es ps).1.length = es.length := fun es => by
          induction es with
          | nil => intro ps; rfl
          | cons e es ih => intro ps; rw [parts, List.length_cons, ih, List.length_cons]
        rw [this]
        cases s <;> simp [SetE.rests]
      · exact ih _ (fun x hx => ho x (List.mem_cons_of_mem _ hx)) pk.2 d hd
  exact key ss [] ho rows_nil
theorem ord_len : ∀ (e : Exp) (b : Int), (e.ord b).length = e.cnt := fun e => by
  induction e with
  | num => intro b; rfl
  | fld => intro b; rfl
  | plc => intro b; rfl
  | mrk => intro b; rfl
  | cell a ih => intro b; rw [Exp.ord, List.length_append, ih]; rfl
  | two o a c iha ihc =>
    intro b
    rw [Exp.ord, List.length_append]
    by_cases z : 0 < a.cnt ∧ 0 < c.cnt ∧ a.need < c.need
    · rw [if_pos z, List.length_append, iha, ihc]; simp [Exp.cnt]; omega
    · rw [if_neg z, List.length_append, iha, ihc]; simp [Exp.cnt]
theorem restI_len (ss : List SetE) : (restI ss).length ≤ (restsL ss).length := by
  unfold restI pos
  rw [List.length_map]
  refine Nat.le_trans (List.length_filter_le _ _) ?_
  have : ∀ (es : List Exp) (b : Int), (offs es b).length = es.length := fun es => by
    induction es with
    | nil => intro b; rfl
    | cons e es ih => intro b; rw [offs, List.length_cons, ih, List.length_cons]
  rw [this]; exact Nat.le_refl _
theorem restsL_len2 : ∀ (ss : List SetE), (restsL ss).length ≤ 2 * ss.length
  | [] => Nat.le_refl _
  | s :: ss => by
    have e : restsL (s :: ss) = s.rests ++ restsL ss := List.flatMap_cons
    have := restsL_len2 ss
    rw [e, List.length_append, List.length_cons]
    have : s.rests.length ≤ 2 := by cases s <;> simp [SetE.rests]
    omega
theorem lex3 (a b c d e f : Int) : lexI [a, b, c] [d, e, f] = if a = d then (if b = e then (if c = f then false else decide (c < f)) else decide (b < e)) else decide (a < d) := rfl
theorem lex3_f (a b c d e f : Int) : lexI [a, b, c] [d, e, f] = false ↔ (a > d ∨ (a = d ∧ (b > e ∨ (b = e ∧ c ≥ f)))) := by
  rw [lex3]
  by_cases h1 : a = d
  · rw [if_pos h1]
    by_cases h2 : b = e
    · rw [if_pos h2]
      by_cases h3 : c = f
      · rw [if_pos h3]; simp; omega
      · rw [if_neg h3, decide_eq_false_iff_not]; omega
    · rw [if_neg h2, decide_eq_false_iff_not]; omega
  · rw [if_neg h1, decide_eq_false_iff_not]; omega
theorem srt_some (ss : List SetE) : ∃ L, Srt ss L := by
  refine ⟨(pos (restsL ss) 0).zipIdx.mergeSort (fun a b => !lexI (entI b) (entI a)), List.mergeSort_perm _ _, ?_⟩
  refine (List.pairwise_mergeSort (fun a b c h1 h2 => ?_) (fun a b => ?_) _).imp fun {a b} h => ?_
  · rw [Bool.not_eq_true'] at h1 h2 ⊢
    unfold entI at h1 h2 ⊢
    rw [lex3_f] at h1 h2 ⊢
    omega
  · rw [Bool.or_eq_true, Bool.not_eq_true', Bool.not_eq_true']
    unfold entI
    rw [lex3_f, lex3_f]
    omega
  · simpa using h
theorem w_ext9 {H : Hp} {Q : VK} {l b : Addr} {xs zs : List V} (h1 : H l = some (.lst xs)) (h2 : H b = some (.lst zs)) (h : xs.length + zs.length ≤ sizeLine) (k : ChgO l (.lst (xs ++ zs)) H (Q .non)) : rExtend (.ref l) [.ref b] H Q := ⟨l, b, xs, zs, rfl, rfl, h1, h2, h, k⟩
theorem w_sortLam {K : PySem.W.Frag} {T : List (Addr × Str)} {i1 i2 : Nat} {te : TE} {σ : L2.St} {H : Hp} {Q : VK} (h : te σ H fun v H1 => ∃ (l : Addr) (ns : List Int) (l1 : Addr) (as : List Int), v = .ref l ∧ SqL K H1 l (ns.map V.int) ∧ σ[i1]? = some (some (.ref l1)) ∧ SqL K H1 l1 (as.map V.int) ∧ σ[i2]? = some (some (.ref l)) ∧
  ns.length ≤ 1000 ∧ (∀ x ∈ ns, 0 ≤ x ∧ x.toNat < as.length) ∧ LamX.Tabs T H1 ∧ ∀ H2, LamX.ExtN H1 H2 → LamX.Tabs T H2 → NewO (.lst ((ns.mergeSort (PySem.W.dataLe false (keyS as ns))).map V.int)) H2 Q) : tSortLam K T i1 i2 te σ H Q := h
theorem natV_ints (ns : List Nat) : natV ns = (ns.map fun n : Nat => (n : Int)).map V.int := by unfold natV; rw [List.map_map]; rfl
theorem keyS_ned (ss : List SetE) : keyS ((ndsL (restsL ss)).map fun n : Nat => (n : Int)) (restI ss) = fun r : Int => PyData.tuple [.int (0 - ((nedF ss r : Nat) : Int)), .int (((restI ss).idxOf r : Nat) : Int)] := by
  funext r
  unfold keyS nedF
  rw [List.getD_eq_getElem?_getD, List.getD_eq_getElem?_getD, List.getElem?_map]
  cases (ndsL (restsL ss))[r.toNat]? <;> rfl
theorem restI_in {ss : List SetE} {x : Int} (h : x ∈ restI ss) : 0 ≤ x ∧ x.toNat < (ndsL (restsL ss)).length := by
  obtain ⟨p, hp, rfl⟩ := List.mem_map.mp h
  obtain ⟨h1, h2⟩ := pos_cnt hp
  have := offs_ge h1
  rw [ndsL_len]
  unfold rootO
  omega
section
variable {P : Program} {w : World} {K : PySem.W.Frag} {mg : Str → Option Value}
theorem ok_law_due_order [c : Facts K mg] (G__law_part_needs : Fn P w K mg "_law_part_needs" 1 ["parts"] ((spPN K))) (G__law_parts : Fn P w K mg "_law_parts" 6 ["sets"] ((spLP K))) (G__law_through : Fn P w K mg "_law_through" 6 ["parts", "number", "needs", "order"] ((spThr K 4))) : FnT P w K mg (tbK K mg) "_law_due_order" 8 ["sets"] ((spDueO K)) := by
  obtain ⟨fd, F⟩ := c.d_law_due_order
  refine FnT.mk' F c.g_law_due_order sc_law_due_order (k := 7) (fun vs H Q E h => ?_) (fun _ _ _ _ _ _ us hl => match us, hl with | [_], _ => rfl) (fun base cdv htb hcd A outer s H vs Q E hr h => ?_)
  · exact len_law_due_order h
  · have nd := sc_law_due_order.nd
    have hu := hu_of hr
    have hr__law_part_needs : Room 1 _ := hr.mono (by omega)
    have hr__law_parts : Room 6 _ := hr.mono (by omega)
    have hr__law_through : Room 6 _ := hr.mono (by omega)
    refine ⟨_, (pss_cons (ps_asg (pe_fn G__law_parts hr__law_parts (by rfl) (pa_cons (pv 0) pa_nil)) (pg_seq 2 (K := K) rfl rfl (pgs_cons (pg_name (i := 1) nd rfl (Or.inl rfl)) (pgs_cons (pg_name (i := 2) nd rfl (Or.inl rfl)) pgs_nil))))
      (pss_cons (ps_set (i := 3) nd rfl (Or.inr rfl) (pe_fn G__law_part_needs hr__law_part_needs (by rfl) (pa_cons (pv 1) pa_nil)))
      (pss_cons (ps_set (i := 4) nd rfl (Or.inr rfl) (pe_lst pa_nil))
      (pss_cons (ps_for PassesOwn.never rfl (pi_list (pv 2)) (pg_name (i := 5) nd rfl (Or.inl rfl)) (pss_one (ps_expr (pe_bm PySem.F.plainAttrs_list PySem.F.slot_list_extend PySem.F.type_list_extend mt_extend (pv 4) (pa_cons (pe_lc (own := [("one", 7)]) rfl nd (pi_tup (pv 5)) (blkOk_by (N := N_law_due_order) (sc := defScope s_law_due_order) (by decide +kernel)) (fun _ _ _ _ _ => (pg_name (i := 7) nd rfl (Or.inl rfl))) (fun _ _ _ _ _ => pts_one (pt_val (pe_callB (call_isiA (K := K) rfl) (by rfl) c.f_isinstance boot_isinstance (pa_cons (pv 7) (pa_cons (pe_bltn (v := .ty "int") (by rfl) c.f_int boot_int rfl) pa_nil))))) (fun _ _ _ _ _ => (pv 7))) pa_nil)))))
      (pss_cons (ps_set (i := 6) nd rfl (Or.inl rfl) (pe_lst pa_nil))
      (pss_cons (ps_for PassesOwn.never rfl (pi_list (pe_sortedLam (i1 := 3) (i2 := 4) (T := [(tabP K, lamQ)]) (N := ["number", "needs", "rests"]) (fr := ["needs", "rests"]) (by rfl) c.f_sorted (pv 4) htb hcd (List.mem_singleton.mpr rfl) (fun p hp _ => by rw [List.mem_singleton.mp hp]; rfl) hr (NdefX.nscope_by (by decide +kernel)) (by show ∀ y ∈ Scope.names _, y.2 = .free → List.lookup y.1 (defScope s_law_due_order).names = some .cell; decide +kernel) (by rfl) (fun _ _ _ _ _ _ _ => rfl) (by rfl) (by rfl) (by decide +kernel) (by decide +kernel))) (pg_name (i := 7) nd rfl (Or.inl rfl)) (pss_one (ps_expr (pe_fn G__law_through hr__law_through (by rfl) (pa_cons (pv 1) (pa_cons (pv 7) (pa_cons (pv 3) (pa_cons (pv 6) pa_nil))))))))
      (pss_one (ps_ret (pv 6))))))))), ?_⟩
    try dsimp only [cxOf, Cx.nox, Cx.wish]
    obtain ⟨v, ss, rfl, hv, hl, ho, hT, q⟩ := h
    have hz : sizeLine = 16777216 := sizeLine_eq
    obtain ⟨L, srt⟩ := srt_some ss
    have fl := srt.full.len
    have nn' := nOf_le ho hl
    have hrl : (restI ss).length ≤ 8 := by have := restI_len ss; have := restsL_len2 ss; omega
    repeat walk_at "w"
    refine ⟨v, ss, rfl, hv, hl, ho, fun t l r H1 ht hP hR nl nr s1 nlr => ?_⟩
    have pk1 : PK K H1 l ss := ⟨hP, ho, hl⟩
    repeat walk_at "w"
    refine ⟨l, ss, rfl, pk1, fun nd H2 hnd s2 nnd => ?_⟩
    repeat walk_at "w"
    refine w_new fun rs H3 nrs s3 frs => ?_
    repeat walk_at "w"
    have s13 := s2.trans s3
    have hR3 := hR.same s13
    obtain ⟨ys, hy, hyd, hyr⟩ := id hR3
    have hyl : ys.length = (proots ss []).1.length := hR3.len hy
    have nrr : r ≠ rs := fun z => by
      obtain ⟨_, g, _⟩ := hR.same s2
      rw [z, nrs] at g; cases g
    have nlr : l ≠ rs := fun z => by
      obtain ⟨_, g, _⟩ := hP.same s2
      rw [z, nrs] at g; cases g
    have nndr : nd ≠ rs := ne_of_none hnd nrs
    refine fl_list ys (fun i σ H' => ∃ o5 o6 o7, σ = [some v, some (.ref l), some (.ref r), some (.ref nd), some (.ref rs), o5, o6, o7] ∧ But rs H3 H' ∧ H' rs = some (.lst ((((proots ss []).1.take i).flatMap ownD).map V.int))) (SqL.of hy) ⟨_, _, _, rfl, But.refl _ _, frs⟩ (fun i σ H' hi hp => ?_) (fun i x σ H' hx hp => ?_) (fun σ H' hp => ?_)
    · obtain ⟨_, _, _, _, b, _⟩ := hp
      exact SqL.of (b _ _ nrr hy)
    · obtain ⟨o5, o6, o7, rfl, b, hrs⟩ := hp
      obtain ⟨d, hd1, hd2⟩ := dpa_at' (dpAll_ts (TS.butL b frs) _ _ (rows_all hyr).1 hyd) hx
      obtain ⟨items, rfl, hit, hil⟩ := prow_at ho d (List.mem_of_getElem? hd1)
      obtain ⟨p, us, rfl, hp, hus⟩ := dp_tup hd2
      have hfl : (((proots ss []).1.take i).flatMap ownD).length + (intsD items).length ≤ 8 := by
        have e1 : restI ss = ((proots ss []).1.take (i + 1)).flatMap ownD ++ ((proots ss []).1.drop (i + 1)).flatMap ownD := by
          rw [← restI_at, ← List.flatMap_append, List.take_append_drop]
        have e2 := congrArg List.length e1
        rw [take_snoc hd1, List.flatMap_append, List.length_append, List.length_append] at e2
        simp only [List.flatMap_cons, List.flatMap_nil, List.append_nil, ownD] at e2
        omega
      repeat walk_at "w"
      refine lc_own hp hus hit hil (fun v d H' R it hd k => ?_) (fun v H' R k => ?_) (fun D H4 hD e nD => ?_)
      · repeat walk_at "w"
        cases it with
        | int n =>
          cases dp_int hd
          repeat walk_at "w"
          exact k
        | str _ =>
          cases dp_str hd
          repeat walk_at "w"
          exact k
        | pair _ _ =>
          obtain ⟨a, xs, rfl, ha, _⟩ := dp_tup hd
          repeat walk_at "w"
          exact k
      · repeat walk_at "w"
        exact k
      · repeat walk_at "w"
        refine w_ext9 (e _ _ hrs) hD (by rw [hz, List.length_map, List.length_map]; omega) ?_
        refine w_chg fun H5 e5 f5 => ?_
        repeat walk_at "w"
        refine ⟨_, _, _, rfl, b.trans ((But.of e).trans e5), ?_⟩
        rw [take_snoc hd1, List.flatMap_append, List.map_append]
        simp only [List.flatMap_cons, List.flatMap_nil, List.append_nil]
        exact f5
    · obtain ⟨o5, o6, o7, rfl, b, hrs⟩ := hp
      rw [hyl, List.take_length, restI_at] at hrs
      have s03 : Same H H3 := s1.trans s13
      have nrsH : H rs = none := s1.free (s2.free nrs)
      have x04 : LamX.ExtN H H' := extN_new (extN_same s03) nrsH b
      have T4 : TabL K H' := (hT.sm s03).bl frs b
      have pk4 : PK K H' l ss := (pk1.sm s13).bl frs nlr b
      have hnd4 := b _ _ nndr (s3 _ _ hnd)
      repeat walk_at "w"
      refine w_new fun od H5 no5 s5 f5 => ?_
      have nodH : H od = none := s03.free (b.back' hrs no5)
      repeat walk_at "w"
      refine w_sortLam ?_
      repeat walk_at "w"
      have hnd5 := s5 _ _ hnd4
      rw [natV_ints] at hnd5
      refine ⟨rs, restI ss, nd, _, rfl, SqL.of (s5 _ _ hrs), rfl, SqL.of hnd5, rfl, by omega, fun x hx => by rw [List.length_map]; exact restI_in hx, fun p hp => by rw [List.mem_singleton.mp hp]; exact T4.sm s5, fun H6 e6 T6 => w_new fun sl H7 n7 s7 f7 => ?_⟩
      have T7 : TabL K H7 := (T6 _ (List.mem_singleton.mpr rfl)).ext s7
      rw [keyS_ned] at f7
      have hso := due_sorted srt (sort_ii (ss := ss)).1 (sort_ii (ss := ss)).2
      rw [hso] at f7
      have f5' : H7 od = some (.lst []) := s7 _ _ (e6 _ _ f5 (by intro _ z; cases z))
      have nso : sl ≠ od := fun z => by rw [z] at n7; rw [e6 _ _ f5 (by intro _ z; cases z)] at n7; cases n7
      have x57 : LamX.ExtN H5 H7 := e6.trans (extN_same s7)
      have pk7 : PK K H7 l ss := ⟨(pk4.sm s5).pl.ts (extN_ts x57) fun _ g => x57 _ _ g (by intro _ z; cases z), ho, hl⟩
      obtain ⟨us', hus', _, _⟩ := (pk4).len
      have nlo : l ≠ od := ne_of_none hus' no5
      have nno : nd ≠ od := ne_of_none hnd4 no5
      have hnd7 : H7 nd = some (.lst (natV (ndsL (restsL ss)))) := x57 _ _ (s5 _ _ hnd4) (by intro _ z; cases z)
      refine fl_list ((L.map fun p => rootO p.1).map V.int) (fun i σ H' => ∃ o5 o7, σ = [some v, some (.ref l), some (.ref r), some (.ref nd), some (.ref rs), o5, some (.ref od), o7] ∧ But od H7 H' ∧ H' od = some (.lst ((ordL (L.take i)).map V.int))) (SqL.of f7) ⟨_, _, rfl, But.refl _ _, f5'⟩ (fun i σ H' hi hp => ?_) (fun i x σ H' hx hp => ?_) (fun σ H' hp => ?_)
      · obtain ⟨_, _, _, bb, _⟩ := hp
        exact SqL.of (bb _ _ nso f7)
      · obtain ⟨o5, o7, rfl, bb, hod⟩ := hp
        rw [List.getElem?_map] at hx
        obtain ⟨x', hx', rfl⟩ := Option.map_eq_some_iff.mp hx
        rw [List.getElem?_map] at hx'
        obtain ⟨p, hp, rfl⟩ := Option.map_eq_some_iff.mp hx'
        have at1 := srt.at (List.mem_of_getElem? hp)
        have osl : (ordL (L.take (i + 1))).length ≤ 120 := by
          have e5 : ordL L = ordL (L.take (i + 1)) ++ ordL (L.drop (i + 1)) := by
            unfold ordL; rw [← List.flatMap_append, List.take_append_drop]
          have := congrArg List.length e5
          rw [List.length_append] at this
          omega
        rw [take_snoc hp, ordL_snoc, List.length_append, ord_len] at osl
        repeat walk_at "w"
        refine ⟨l, nd, od, ss, p.1.1, p.1.2, ordL (L.take i), rfl, restsL_ok ho _ (offs_fst at1.1), at1.2, tree_at at1.1, pk7.bl f5' nlo bb, nlo, nno.symm, hod, bb _ _ nno hnd7, by omega, fun H8 h8 e8 => ?_⟩
        repeat walk_at "w"
        refine ⟨_, _, rfl, bb.trans e8, ?_⟩
        rw [take_snoc hp, ordL_snoc]; exact h8
      · obtain ⟨o5, o7, rfl, bb, hod⟩ := hp
        rw [List.length_map, List.length_map, List.take_length] at hod
        repeat walk_at "w"
        exact q od H' L srt hod (extN_new ((x04.trans (extN_same s5)).trans x57) nodH bb) (T7.bl f5' bb) nodH
end
theorem law_inT {K : PySem.W.Frag} {H : Hp} {a : Addr} {ns : List Int} (hl : ns.length ≤ 63) (hT : H (tabP K) = some (.tbl #[])) (nK : K.lookup (tabP K) = none) (hS : SqL K H a (ns.map V.int)) : spLawT K [.ref a] H (fun v _ => v = .bl true) fun _ _ _ => False := by
  refine ⟨a, ns, rfl, hS, hl, fun z => ?_, LamX.TabS.nil hT, fun _ => rfl⟩
  rw [z] at hS
  rcases hS with (h | ⟨o, h⟩) | ⟨o, its, n, h, _⟩
  · rw [hT] at h; cases h
  · rw [hT] at h; cases h
  · rw [nK] at h; cases h

end J
namespace J
open PySem PySem.Spec PyProof.Rows L2
theorem all_ok {P : Program} {w : World} {K : PySem.W.Frag} {mg : Str → Option Value} [c : Facts K mg] : FnT P w K mg (tbK K mg) "law" 10 ["script"] (spLawT K) := by
  have G__law_cell := ok_law_cell (P := P) (w := w) (K := K)
  have G__law_part_needs := ok_law_part_needs (P := P) (w := w) (K := K)
  have G__law_part := ok_law_part (P := P) (w := w) (K := K) 4
  have G__law_parts := ok_law_parts (P := P) (w := w) (K := K) G__law_part
  have G__law_own := ok_law_own (P := P) (w := w) (K := K)
  have G__law_through := ok_law_through (P := P) (w := w) (K := K) G__law_own 4
  have G__law_due_order := ok_law_due_order (P := P) (w := w) (K := K) G__law_part_needs G__law_parts G__law_through
  have G__law_held := ok_law_held (P := P) (w := w) (K := K) G__law_own G__law_parts
  have G__law_inner := ok_law_inner (P := P) (w := w) (K := K) 4
  have G__law_need := ok_law_need (P := P) (w := w) (K := K) 4
  have G__law_trees := ok_law_trees (P := P) (w := w) (K := K)
  have G__law_needs := ok_law_needs (P := P) (w := w) (K := K) G__law_need G__law_trees
  have G__law_take := ok_law_take (P := P) (w := w) (K := K)
  have G__law_e := ok_law_e (P := P) (w := w) (K := K) G__law_take 4
  have G__law_sets := ok_law_sets (P := P) (w := w) (K := K) G__law_e G__law_take
  have G__law_stream := ok_law_stream (P := P) (w := w) (K := K)
  have G__law_whole := ok_law_whole (P := P) (w := w) (K := K)
  have G_needs_of := ok_needs_of (P := P) (w := w) (K := K) 4
  have G_rests_of := ok_rests_of (P := P) (w := w) (K := K)
  obtain ⟨fd_Parts___init__, F_Parts___init__⟩ := c.dm_Parts___init__
  have GM_Parts___init__ := ok_Partsu_initu (P := P) (w := w) (K := K) F_Parts___init__
  have GM_Parts_part_in := ok_Parts_part_in (P := P) (w := w) (K := K) 4
  have G_parts_and_roots := ok_parts_and_roots (P := P) (w := w) (K := K) G_rests_of GM_Parts___init__ GM_Parts_part_in
  have G_roots_of := ok_roots_of (P := P) (w := w) (K := K) G_parts_and_roots
  have G_falling := ok_falling (P := P) (w := w) (K := K) G_needs_of G_rests_of G_roots_of
  have G_parts_of := ok_parts_of (P := P) (w := w) (K := K) G_parts_and_roots
  obtain ⟨fd_Order_need_at, F_Order_need_at⟩ := c.dm_Order_need_at
  have GM_Order_need_at := ok_Order_need_at (P := P) (w := w) (K := K) F_Order_need_at
  obtain ⟨fd_Order_need_of, F_Order_need_of⟩ := c.dm_Order_need_of
  have GM_Order_need_of := ok_Order_need_of (P := P) (w := w) (K := K) F_Order_need_of GM_Order_need_at
  obtain ⟨fd_Order___init__, F_Order___init__⟩ := c.dm_Order___init__
  have GM_Order___init__ := ok_Orderu_initu (P := P) (w := w) (K := K) F_Order___init__ GM_Order_need_of
  have G_own_parts := ok_own_parts (P := P) (w := w) (K := K)
  have GM_Order_go_through := ok_Order_go_through (P := P) (w := w) (K := K) G_own_parts 4
  have G_best_order := ok_best_order (P := P) (w := w) (K := K) G_falling G_parts_of GM_Order___init__ GM_Order_go_through
  have G_is_whole := ok_is_whole (P := P) (w := w) (K := K)
  have G_is_within := ok_is_within (P := P) (w := w) (K := K) G_is_whole
  have G_is_order := ok_is_order (P := P) (w := w) (K := K) G_is_within G_own_parts
  have G_held_by := ok_held_by (P := P) (w := w) (K := K) G_is_order G_own_parts G_parts_of
  have G_needs_of_sets := ok_needs_of_sets (P := P) (w := w) (K := K) G_falling
  have G_law := ok_law (P := P) (w := w) (K := K) G__law_cell G__law_due_order G__law_held G__law_inner G__law_need G__law_needs G__law_sets G__law_stream G__law_trees G__law_whole G_best_order G_held_by G_needs_of G_needs_of_sets
  exact G_law
theorem heldF {P : Program} {w : World} {K : PySem.W.Frag} {h : Heap} {mg : Str → Option Value} {f : Addr} (X : K.In h) (G : h.Ns mainGlobals mg) (hfa : mg ("law" : Str) = some (.ref f)) (c : He.SaysX fa fn [] tf exB w h K) :
    ∃ fd : FuncData, (∀ (s : Shared) (v : Value), BindsTo s fd ⟨[v], []⟩ [("script", v)]) ∧ ∀ base : Heap, tbK K mg base → FnOk P w K mg base CX0 10 f fd ["script"] (spLawT K) := by
  have C := facts_of X G (congrArg (fun z : He.AlT => z.1) c.t)
  have e := hfa.symm.trans C.g_law
  cases e
  obtain ⟨fd, h1, _, h3⟩ := (all_ok (P := P) (w := w) (K := K)).ex
  exact ⟨fd, fun s v => h3 s [v] rfl, fun base htb => h1 base htb⟩
end J
open PySem PySem.W PySem.Calls PyProof.Rows
theorem PySem.Challenge.cw_rowsjoined_k29_needs_and_the_best_order_holds : PySem.Challenge.rw_rowsjoined_k29_needs_and_the_best_order.Holds := by
  w_on; o_law
  refine HandSHeadRun.head_any (r := J.rowR) (q := view J.rowR.prog [35]) (H := J.hk) (ob := J.ob) (M := 12000) (loose := J.loose) (d := HandSHeadRun.topDef J.rowR.prog 35) (kwd := []) J.ob_eq
    (by kernel_rfl) (fun s => by kernel_rfl) J.run (by kernel_rfl) (by kernel_rfl) (by kernel_rfl) (by rfl) (by first | assumption | decide +kernel) (by decide +kernel) ⟨rfl, rfl, rfl, rfl, rfl, by decide +kernel⟩ ?hw ?hc
  case hw => w_witness2
  case hc =>
    refine J.walk_ofTE (l := PySem.Challenge.rw_rowsjoined_k29_needs_and_the_best_order) (n := 63) (k := 10) (x := "script") (CX := L2.CX0) rfl (by decide) (by kernel_rfl) ⟨rfl, by decide, by decide⟩ ?F (fun _ _ _ _ z => z)
    intro w mg fa h Y G hmg0
    obtain ⟨K, KX, c⟩ := Y
    have hmg : mg ("law" : PySem.Str) = some (.ref fa) := by
      have e : (HandSHeadRun.topDef J.rowR.prog 35).name = ("law" : PySem.Str) := by kernel_rfl
      rw [← e]
      exact hmg0
    obtain ⟨fd, hb, hF⟩ := J.heldF (P := (PySem.Challenge.rw_rowsjoined_k29_needs_and_the_best_order).prog) (w := w) KX G hmg c
    exact ⟨K, KX, fd, [He.cT K ("_law_due_order", none)], _, fun p hp => by rw [List.mem_singleton.mp hp]; exact c.empty _ (List.mem_singleton.mpr rfl), fun p hp => by rw [List.mem_singleton.mp hp]; exact c.out _ (List.mem_singleton.mpr rfl),
      fun p hp => by rw [List.mem_singleton.mp hp]; exact PySem.W.codeHd_of_K KX (c.hd _ (List.mem_singleton.mpr rfl)), hb, fun H a ns hl _ hT hS => J.law_inT hl (hT _ (List.mem_singleton.mpr rfl)) (c.out _ (List.mem_singleton.mpr rfl)) hS,
      fun base _ _ htb => hF base (htb _ (List.mem_singleton.mpr rfl))⟩
