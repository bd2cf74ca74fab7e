import PyProof.Rows.All
import Wide.All
import OpenK.AllK
import Wide.FinOn
import Lean
import HandS.Base
import HandS.Call
import HandS.Ends
import HandS.EndBits
import HandS.List
import HandS.Comp
import HandS.Iter
import HandS.Text
import HandS.Wide
import HandS.Words
import HandS.WordsList
import HandS.Defaults
import HandS.IsInst
import HandS.Rev
import HandS.TupAny
import HandS.TryOnly
import HandS.Zip
import HandS.Walk
import HandS.Style
import HandS.Flow
import HandS.Head0
import HandS.Head1
import HandS.Head2
import HandS.HeadEnd
import HandS.HeadHook1
import HandS.HeadHook2
import HandS.Codes
import HandS.Replace
import HandS.ReplaceLit
import HandS.SortOrd
import HandS.SortRule
import HandS.TupSets
import HandS.SetFor
import HandS.FStr
import HandS.Flt
import HandS.Sort
import HandS.Conv
import HandS.Dict
import HandS.Zip0
import KE.GoesMore
import HandS.ExcInit
import HandS.ClsMeth
import HandS.ExcIs
import HandS.ExcField
import HandS.ExcValue
import HandS.HeadHook4
import PySem.Challenge.RW_rowsjoined_k04_refusals_apart
import HandS.More
import HandS.HeadHook3
import HandS.ListEq
import PyProof.NeKinds
set_option Elab.async false
set_option linter.all false
set_option maxRecDepth 100000
set_option maxHeartbeats 4000000
namespace J
open PySem PySem.Spec PyProof.Rows L2

/-! ### frames -/
def But (s : Addr) (H H' : Hp) : Prop := ∀ b o, b ≠ s → H b = some o → H' b = some o
theorem _root_.L2.Same.one {H : Hp} {p : Addr} {o : HO} (h : H p = none) : Same H (upd H p o) := fun a u e => by
  rw [upd_ne (ne_of_none e h)]; exact e
theorem But.of {s : Addr} {H H' : Hp} (e : Same H H') : But s H H' := fun b o _ h => e b o h
theorem But.refl (s : Addr) (H : Hp) : But s H H := fun _ _ _ h => h
theorem But.trans {s : Addr} {H H1 H2 : Hp} (a : But s H H1) (b : But s H1 H2) : But s H H2 := fun c o n h => b c o n (a c o n h)
theorem But.at {s b : Addr} {H H' : Hp} {o : HO} (e : But s H H') (n : b ≠ s) (h : H b = some o) : H' b = some o := e b o n h
theorem But.upd (s : Addr) (H : Hp) (o : HO) : But s H (upd H s o) := fun b u n h => by rw [upd_ne n]; exact h
/-- all that was there stays, what lies at s was not there -/
theorem But.new {s : Addr} {H H1 H2 : Hp} (e : Same H H1) (n : H s = none) (k : But s H1 H2) : Same H H2 := fun b o h => k b o (ne_of_none h n) (e b o h)

theorem But.new2 {s t : Addr} {H H1 H2 : Hp} (e : But s H H1) (n : H t = none) (k : But t H1 H2) : But s H H2 := fun b o hs h => k b o (ne_of_none h n) (e b o hs h)
theorem But.back {s p : Addr} {H H' : Hp} (e : But s H H') (hp : p ≠ s) (h : H' p = none) : H p = none := by
  cases q : H p with
  | none => rfl
  | some o => rw [e p o hp q] at h; cases h
theorem But.back' {s p : Addr} {H H' : Hp} {o : HO} (e : But s H H') (hs : H' s = some o) (h : H' p = none) : H p = none := e.back (fun z => by rw [z, hs] at h; cases h) h
/-- a stream of draws -/
def Stm (H : Hp) (s : Addr) : Prop := ∃ a b c : Int, H s = some (.lst [.int a, .int b, .int c])
theorem stm_ne {s p : Addr} {H : Hp} (h : Stm H s) (n : H p = none) : p ≠ s := fun q => by
  obtain ⟨_, _, _, g⟩ := h
  rw [← q, n] at g
  cases g
theorem But.tup {s b : Addr} {H H' : Hp} {xs : List V} (e : But s H H') (t : Stm H s) (h : H b = some (.tup xs)) : H' b = some (.tup xs) := by
  obtain ⟨_, _, _, t⟩ := t
  exact e b _ (ne_of h t (by intro q; cases q)) h
theorem But.tupL {s b : Addr} {H H' : Hp} {xs ys : List V} (e : But s H H') (t : H s = some (.lst ys)) (h : H b = some (.tup xs)) : H' b = some (.tup xs) := e b _ (ne_of h t (by intro q; cases q)) h
theorem But.sqTL {K : PySem.W.Frag} {s a : Addr} {H H' : Hp} {xs ys : List V} (e : But s H H') (t : H s = some (.lst ys)) (h : SqT K H a xs) : SqT K H' a xs := by
  rcases h with (h | ⟨o, h⟩) | h
  · exact .inl (.inl (e _ _ (ne_of h t (by intro q; cases q)) h))
  · exact .inl (.inr ⟨o, e _ _ (ne_of h t (by intro q; cases q)) h⟩)
  · exact .inr h
theorem But.stm {s a : Addr} {H H' : Hp} (e : But s H H') (n : a ≠ s) (h : Stm H a) : Stm H' a := by
  obtain ⟨x, y, z, h⟩ := h
  exact ⟨x, y, z, e _ _ n h⟩
theorem _root_.L2.Same.back {H H' : Hp} {p : Addr} (e : Same H H') (h : H' p = none) : H p = none := e.free h
theorem But.frz {s b : Addr} {H H' : Hp} {o : Obj} {u : HO} (e : But s H H') (t : Stm H s) (h : H b = some (.frz o u)) : H' b = some (.frz o u) := by
  obtain ⟨_, _, _, t⟩ := t
  exact e b _ (ne_of h t (by intro q; cases q)) h
theorem But.sqT {K : PySem.W.Frag} {s a : Addr} {H H' : Hp} {xs : List V} (e : But s H H') (t : Stm H s) (h : SqT K H a xs) : SqT K H' a xs := by
  rcases h with (h | ⟨o, h⟩) | h
  · exact .inl (.inl (e.tup t h))
  · exact .inl (.inr ⟨o, e.frz t h⟩)
  · exact .inr h
theorem But.sqL {K : PySem.W.Frag} {s a : Addr} {H H' : Hp} {xs : List V} (e : But s H H') (n : a ≠ s) (h : SqL K H a xs) : SqL K H' a xs := by
  rcases h with (h | ⟨o, h⟩) | h
  · exact .inl (.inl (e a _ n h))
  · exact .inl (.inr ⟨o, e a _ n h⟩)
  · exact .inr h
theorem _root_.L2.Same.sqT {K : PySem.W.Frag} {H H' : Hp} {a : Addr} {xs : List V} (e : Same H H') (h : SqT K H a xs) : SqT K H' a xs := by
  rcases h with (h | ⟨o, h⟩) | h
  · exact .inl (.inl (e _ _ h))
  · exact .inl (.inr ⟨o, e _ _ h⟩)
  · exact .inr h
theorem _root_.L2.Same.sqL {K : PySem.W.Frag} {H H' : Hp} {a : Addr} {xs : List V} (e : Same H H') (h : SqL K H a xs) : SqL K H' a xs := e.seq h
theorem _root_.L2.Same.stm {H H' : Hp} {s : Addr} (e : Same H H') (h : Stm H s) : Stm H' s := by
  obtain ⟨a, b, c, h⟩ := h
  exact ⟨a, b, c, e _ _ h⟩
theorem _root_.L2.Same.at {H H' : Hp} {b : Addr} {o : HO} (e : Same H H') (h : H b = some o) : H' b = some o := e b o h
/-- a list that stands, seen past a list changed elsewhere -/
theorem sqL_upd {K : PySem.W.Frag} {H : Hp} {a p : Addr} {o : HO} {xs : List V} (n : a ≠ p) (h : SqL K H a xs) : SqL K (upd H p o) a xs := by
  rcases h with (h | ⟨u, h⟩) | h
  · exact .inl (.inl (by rw [upd_ne n]; exact h))
  · exact .inl (.inr ⟨u, by rw [upd_ne n]; exact h⟩)
  · exact .inr h
theorem sqT_updL {K : PySem.W.Frag} {H : Hp} {a p : Addr} {o : HO} {xs ys : List V} (hp : H p = some (.lst ys)) (h : SqT K H a xs) : SqT K (upd H p o) a xs := by
  rcases h with (h | ⟨u, h⟩) | h
  · exact .inl (.inl (by rw [upd_ne (ne_of h hp (by intro q; cases q))]; exact h))
  · exact .inl (.inr ⟨u, by rw [upd_ne (ne_of h hp (by intro q; cases q))]; exact h⟩)
  · exact .inr h
theorem stm_upd {H : Hp} {a p : Addr} {o : HO} (n : a ≠ p) (h : Stm H a) : Stm (upd H p o) a := by
  obtain ⟨x, y, z, h⟩ := h
  exact ⟨x, y, z, by rw [upd_ne n]; exact h⟩
theorem at_updL {H : Hp} {a p : Addr} {o u : HO} (n : a ≠ p) (h : H a = some u) : upd H p o a = some u := by rw [upd_ne n]; exact h

/-! ### readings, step by step -/
section
variable {K : PySem.W.Frag} {σ : L2.St} {H : Hp} {i : Nat} {v x y z : V} {ta tb tc te tv : TE} {Q : VK} {nx : L2.St → Hp → Prop} {rt : VK} {bk ct : L2.St → Hp → Prop} {t u : TS} {tt tu : TT}
theorem w_seq (k : t ⟨u ⟨nx, rt, bk, ct⟩, rt, bk, ct⟩ σ H) : tSeq t u ⟨nx, rt, bk, ct⟩ σ H := k
theorem w_asg {g : TG} (k : te σ H fun x H1 => g x σ H1 nx) : tAsg te g ⟨nx, rt, bk, ct⟩ σ H := k
theorem w_gName {R : L2.St → Hp → Prop} (k : R (σ.set i (some v)) H) : gName i v σ H R := k
theorem w_ret (k : te σ H rt) : tRet te ⟨nx, rt, bk, ct⟩ σ H := k
theorem w_retN (k : rt .non H) : tRetN ⟨nx, rt, bk, ct⟩ σ H := k
theorem w_drop (k : te σ H fun _ H1 => nx σ H1) : tDrop te ⟨nx, rt, bk, ct⟩ σ H := k
theorem w_next (k : nx σ H) : tNext ⟨nx, rt, bk, ct⟩ σ H := k
theorem w_break (k : bk σ H) : tBreak ⟨nx, rt, bk, ct⟩ σ H := k
theorem w_cont (k : ct σ H) : tCont ⟨nx, rt, bk, ct⟩ σ H := k
theorem w_ifS (k : tt σ H fun b H1 => if b = true then t ⟨nx, rt, bk, ct⟩ σ H1 else u ⟨nx, rt, bk, ct⟩ σ H1) : tIfS tt t u ⟨nx, rt, bk, ct⟩ σ H := k
theorem w_var (h : σ[i]? = some (some v)) (k : Q v H) : tVar i σ H Q := ⟨v, h, k⟩
theorem w_c (k : Q v H) : tC v σ H Q := k
theorem w_op {r : R2} (k : ta σ H fun x H1 => tb σ H1 fun y H2 => r x y H2 Q) : tOp r ta tb σ H Q := k
theorem w_un {r : V → Hp → VK → Prop} (k : ta σ H fun x H1 => r x H1 Q) : tUn r ta σ H Q := k
theorem w_rU {g : Int → V} {n : Int} (k : Q (g n) H) : rU g (.int n) H Q := ⟨n, rfl, k⟩
theorem w_rI0 {g : Int → Int → V} {m n : Int} (k : Q (g m n) H) : rI0 g (.int m) (.int n) H Q := ⟨m, n, rfl, rfl, k⟩
theorem w_rI {C : Int → Int → Prop} {g : Int → Int → V} {m n : Int} (c : C m n) (k : Q (g m n) H) : rI C g (.int m) (.int n) H Q := ⟨m, n, rfl, rfl, c, k⟩
theorem w_nil {R : List V → Hp → Prop} (k : R [] H) : tNil σ H R := k
theorem w_cons {tr : TA} {R : List V → Hp → Prop} (k : te σ H fun x H1 => tr σ H1 fun xs H2 => R (x :: xs) H2) : tCons te tr σ H R := k
/-- a new object -/
def NewO (o : HO) (H : Hp) (Q : VK) : Prop := ∀ p, H p = none → Q (.ref p) (upd H p o)
theorem w_new {o : HO} (k : ∀ p H', H p = none → Same H H' → H' p = some o → Q (.ref p) H') : NewO o H Q := fun p hp => k p _ hp (Same.one hp) upd_same
/-- an object changed -/
def ChgO (l : Addr) (o : HO) (H : Hp) (R : Hp → Prop) : Prop := R (upd H l o)
theorem w_chg {l : Addr} {o : HO} {R : Hp → Prop} (k : ∀ H', But l H H' → H' l = some o → R H') : ChgO l o H R := k _ (But.upd _ _ _) upd_same
theorem w_tup {tr : TA} (k : tr σ H fun xs H1 => xs.length ≤ sizeLine ∧ NewO (.tup xs) H1 Q) : tTup tr σ H Q := k
theorem w_lst {tr : TA} (k : tr σ H fun xs H1 => xs.length ≤ sizeLine ∧ NewO (.lst xs) H1 Q) : tLst tr σ H Q := k
theorem w_cb {r : List V → Hp → VK → Prop} {tr : TA} (k : tr σ H fun vs H1 => r vs H1 Q) : tCB r tr σ H Q := k
theorem w_call {sp : Sp} {E : XK} {tr : TA} (k : tr σ H fun vs H1 => sp vs H1 Q E) : tCall sp [] E tr σ H Q := by
  show tr σ H fun vs H1 => sp (vs ++ []) H1 Q E
  simp only [List.append_nil]
  exact k
theorem w_chain {r r' : R2} (k : ta σ H fun x H1 => tb σ H1 fun y H2 => r x y H2 fun z H3 => ∃ k, z = .bl k ∧ if k = true then tc σ H3 (fun w H4 => r' y w H4 Q) else Q (.bl false) H3) : tChain r r' ta tb tc σ H Q := k
theorem w_test {R : Bool → Hp → Prop} (k : te σ H fun x H' => ∃ b, x = .bl b ∧ R b H') : tTest te σ H R := k
theorem w_tB {R : Bool → Hp → Prop} (k : te σ H fun x H' => ∃ b, x = .bl b ∧ R b H') : tB te σ H R := k
theorem w_bl {b : Bool} {R : Bool → Prop} (k : R b) : ∃ c, V.bl b = .bl c ∧ R c := ⟨b, rfl, k⟩
theorem w_and {R : Bool → Hp → Prop} (k : tt σ H fun c H1 => if c = true then tu σ H1 R else R false H1) : tAnd tt tu σ H R := k
theorem w_or {R : Bool → Hp → Prop} (k : tt σ H fun c H1 => if c = true then R true H1 else tu σ H1 R) : tOr tt tu σ H R := k
theorem w_not {R : Bool → Hp → Prop} (k : tt σ H fun c H1 => R (!c) H1) : tNot tt σ H R := k
theorem w_andV (k : ta σ H fun x H1 => ∃ c, x = .bl c ∧ if c = true then tb σ H1 Q else Q (.bl false) H1) : tAndV ta tb σ H Q := k
theorem w_orV (k : ta σ H fun x H1 => ∃ c, x = .bl c ∧ if c = true then Q (.bl true) H1 else tb σ H1 Q) : tOrV ta tb σ H Q := k
theorem w_ifE (k : tt σ H fun c H1 => if c = true then ta σ H1 Q else tb σ H1 Q) : tIf tt ta tb σ H Q := k
theorem w_notV (k : ta σ H fun x H1 => ∃ c, x = .bl c ∧ Q (.bl (!c)) H1) : tNotV ta σ H Q := k

/-- or, and: of two tests that leave the heap -/
theorem w_orP (p q : Prop) [Decidable p] [Decidable q] {R : Bool → Hp → Prop} (ht : ∀ S : Bool → Hp → Prop, S (decide p) H → tt σ H S) (hu : ∀ S : Bool → Hp → Prop, S (decide q) H → tu σ H S) (k : ∀ b : Bool, (b = true ↔ p ∨ q) → R b H) : tOr tt tu σ H R := by
  refine w_or (ht _ ?_)
  by_cases hp : p
  · rw [decide_eq_true hp]; exact iteT (k _ (by simp [hp]))
  · rw [decide_eq_false hp]; exact iteF (hu _ (k _ (by simp [hp])))
theorem w_andP (p q : Prop) [Decidable p] [Decidable q] {R : Bool → Hp → Prop} (ht : ∀ S : Bool → Hp → Prop, S (decide p) H → tt σ H S) (hu : ∀ S : Bool → Hp → Prop, S (decide q) H → tu σ H S) (k : ∀ b : Bool, (b = true ↔ p ∧ q) → R b H) : tAnd tt tu σ H R := by
  refine w_and (ht _ ?_)
  by_cases hp : p
  · rw [decide_eq_true hp]; exact iteT (hu _ (k _ (by simp [hp])))
  · rw [decide_eq_false hp]; exact iteF (k _ (by simp [hp]))
/-- and, or: first what either answer comes to, where Φ of the heap -/
theorem w_andK (Φ : Hp → Prop) {R : Bool → Hp → Prop} (hR : ∀ b H', Φ H' → R b H') (k : (∀ b H', Φ H' → R b H') → tt σ H fun c H1 => if c = true then tu σ H1 R else R false H1) : tAnd tt tu σ H R := k hR
theorem w_andF (Φ : Hp → Prop) {R : Bool → Hp → Prop} (hR : ∀ H', Φ H' → R false H') (k : (∀ H', Φ H' → R false H') → tt σ H fun c H1 => if c = true then tu σ H1 R else R false H1) : tAnd tt tu σ H R := k hR
theorem w_orK (Φ : Hp → Prop) {R : Bool → Hp → Prop} (hR : ∀ b H', Φ H' → R b H') (k : (∀ b H', Φ H' → R b H') → tt σ H fun c H1 => if c = true then R true H1 else tu σ H1 R) : tOr tt tu σ H R := k hR
theorem w_nT {A B : Prop} (k : B) : if (!true) = true then A else B := k
theorem w_nF {A B : Prop} (k : A) : if (!false) = true then A else B := k
theorem w_decT {p A B : Prop} [Decidable p] (h : p) (k : A) : if decide p = true then A else B := by rw [decide_eq_true h]; exact iteT k
theorem w_decF {p A B : Prop} [Decidable p] (h : ¬ p) (k : B) : if decide p = true then A else B := by rw [decide_eq_false h]; exact iteF k
/-! ### operators, together -/
def rAddS : R2 := fun x y H Q => ∃ i j, x = .str i ∧ y = .str j ∧ i.length + j.length ≤ sizeLine ∧ Q (.str (i ++ j)) H
def rAddA (K : PySem.W.Frag) : R2 := fun x y H Q => rI0 (fun i j => .int (i + j)) x y H Q ∨ (rAddS x y H Q ∨ (rCat x y H Q ∨ rCatT K x y H Q))
theorem op_addA {X : Cx} {K : PySem.W.Frag} (hK : X.K = K) : OpR X (binaryOp .Add) (rAddA K) := by
  subst hK
  exact op_add.or (OpR.or (r := rAddS) op_add_str (op_cat.or op_catT))
theorem w_addI {m n : Int} (k : Q (.int (m + n)) H) : rAddA K (.int m) (.int n) H Q := .inl ⟨m, n, rfl, rfl, k⟩
theorem w_addS {a b : Str} (h : a.length + b.length ≤ sizeLine) (k : Q (.str (a ++ b)) H) : rAddA K (.str a) (.str b) H Q := .inr (.inl ⟨a, b, rfl, rfl, h, k⟩)
theorem w_addL {l b : Addr} {xs zs : List V} (h1 : H l = some (.lst xs)) (h2 : H b = some (.lst zs)) (h : xs.length + zs.length ≤ sizeLine) (k : NewO (.lst (xs ++ zs)) H Q) :
    rAddA K (.ref l) (.ref b) H Q := .inr (.inr (.inl ⟨l, b, xs, zs, rfl, rfl, h1, h2, h, k⟩))
def rMulA : R2 := fun x y H Q => rI CMul (fun i j => .int (i * j)) x y H Q ∨ rRep x y H Q
theorem op_mulA {X : Cx} : OpR X (binaryOp .Mult) rMulA := op_mul.or op_rep
theorem w_mulI {m n : Int} (c : CMul m n) (k : Q (.int (m * n)) H) : rMulA (.int m) (.int n) H Q := .inl ⟨m, n, rfl, rfl, c, k⟩
def rEqA (K : PySem.W.Frag) : R2 := fun x y H Q => rEq x y H Q ∨ rEqD K x y H Q
def rNeA (K : PySem.W.Frag) : R2 := fun x y H Q => rNe x y H Q ∨ rNeD K x y H Q
theorem op_eqA {X : Cx} {K : PySem.W.Frag} (hK : X.K = K) (hu : X.A.units + 64 < cLine) : OpR X (compareOp .Eq) (rEqA K) := by
  subst hK
  exact op_eq.or (op_eqD hu)
theorem op_neA {X : Cx} {K : PySem.W.Frag} (hK : X.K = K) (hu : X.A.units + 64 < cLine) : OpR X (compareOp .NotEq) (rNeA K) := by
  subst hK
  exact op_ne.or (op_neD hu)
theorem w_eqI {m n : Int} (k : Q (.bl (decide (m = n))) H) : rEqA K (.int m) (.int n) H Q := .inl ⟨rfl, by rw [show decide (V.int m = V.int n) = decide (m = n) by rw [dec_int]; rfl]; exact k⟩
theorem w_neI {m n : Int} (k : Q (.bl (!decide (m = n))) H) : rNeA K (.int m) (.int n) H Q := .inl ⟨rfl, by rw [show decide (V.int m = V.int n) = decide (m = n) by rw [dec_int]; rfl]; exact k⟩
theorem w_eqS {m n : Str} (k : Q (.bl (decide (m = n))) H) : rEqA K (.str m) (.str n) H Q := .inl ⟨rfl, by rw [dec_str]; exact k⟩
theorem w_neS {m n : Str} (k : Q (.bl (!decide (m = n))) H) : rNeA K (.str m) (.str n) H Q := .inl ⟨rfl, by rw [dec_str]; exact k⟩
theorem w_eqB {m n : Bool} (k : Q (.bl (m == n)) H) : rEqA K (.bl m) (.bl n) H Q := .inl ⟨rfl, by rw [dec_bl]; exact k⟩
theorem w_neB {m n : Bool} (k : Q (.bl (!(m == n))) H) : rNeA K (.bl m) (.bl n) H Q := .inl ⟨rfl, by rw [dec_bl]; exact k⟩
theorem w_eqD {d e : PyData} (hd : Dp K H x d) (he : Dp K H y e) (sd : SeqAt.shaped d = true) (se : SeqAt.shaped e = true) (k : Q (.bl (PyData.eqv d e)) H) : rEqA K x y H Q := .inr ⟨d, e, hd, he, sd, se, k⟩
theorem w_neD {d e : PyData} (hd : Dp K H x d) (he : Dp K H y e) (sd : SeqAt.shaped d = true) (se : SeqAt.shaped e = true) (k : Q (.bl (!PyData.eqv d e)) H) : rNeA K x y H Q := .inr ⟨d, e, hd, he, sd, se, k⟩
/-- in, of texts and of things in a list or a tuple -/
def rInStr (neg : Bool) : R2 := fun x y H Q => ∃ i j, x = .str i ∧ y = .str j ∧ Q (.bl (if neg then !(!(Builtin.Str.occurrences j i 0 j.length 1).isEmpty) else !(Builtin.Str.occurrences j i 0 j.length 1).isEmpty)) H
def rInA (K : PySem.W.Frag) (neg : Bool) : R2 := fun x y H Q => rIn K neg x y H Q ∨ rInStr neg x y H Q
theorem op_inA {X : Cx} {K : PySem.W.Frag} (hK : X.K = K) : OpR X (compareOp .In) (rInA K false) := by
  subst hK
  exact op_in_seq.or (fun pins s σ H x y v u Q I rx ry h => op_in_str pins s σ H x y v u Q I rx ry h)
theorem op_notInA {X : Cx} {K : PySem.W.Frag} (hK : X.K = K) : OpR X (compareOp .NotIn) (rInA K true) := by
  subst hK
  exact op_notIn_seq.or (fun pins s σ H x y v u Q I rx ry h => op_notIn_str pins s σ H x y v u Q I rx ry h)
theorem w_inL {p : Addr} {xs : List V} (h : SqL K H p xs) (hx : flatV x = true) (ha : xs.all flatV = true) (k : Q (.bl (inV x xs)) H) : rInA K false x (.ref p) H Q := .inl ⟨p, xs, rfl, .inl h, hx, ha, k⟩
theorem w_inT {p : Addr} {xs : List V} (h : SqT K H p xs) (hx : flatV x = true) (ha : xs.all flatV = true) (k : Q (.bl (inV x xs)) H) : rInA K false x (.ref p) H Q := .inl ⟨p, xs, rfl, .inr h, hx, ha, k⟩
theorem w_niL {p : Addr} {xs : List V} (h : SqL K H p xs) (hx : flatV x = true) (ha : xs.all flatV = true) (k : Q (.bl (!inV x xs)) H) : rInA K true x (.ref p) H Q := .inl ⟨p, xs, rfl, .inl h, hx, ha, k⟩
theorem w_niT {p : Addr} {xs : List V} (h : SqT K H p xs) (hx : flatV x = true) (ha : xs.all flatV = true) (k : Q (.bl (!inV x xs)) H) : rInA K true x (.ref p) H Q := .inl ⟨p, xs, rfl, .inr h, hx, ha, k⟩
/-- subscripts -/
theorem ix_any {X : Cx} {K : PySem.W.Frag} (hK : X.K = K) : IxR X (rIx K) := by
  subst hK
  exact ix_seq
theorem w_ixL {p : Addr} {xs : List V} {n : Int} (h : SqL K H p xs) (ha : atI xs n = some v) (k : Q v H) : rIx K (.ref p) (.int n) H Q := .inl ⟨p, xs, n, v, rfl, rfl, h, ha, k⟩
theorem w_ixT {p : Addr} {xs : List V} {n : Int} (h : SqT K H p xs) (ha : atI xs n = some v) (k : Q v H) : rIx K (.ref p) (.int n) H Q := .inr (.inl ⟨p, xs, n, v, rfl, rfl, h, ha, k⟩)
theorem w_ixS {a : Str} {c : Nat} {n : Int} (h : a.length ≤ sizeLine) (ha : atI a.cps.toList n = some c) (k : Q (.str ⟨#[c]⟩) H) : rIx K (.str a) (.int n) H Q := .inr (.inr ⟨a, n, c, rfl, rfl, h, ha, k⟩)
/-! slices -/
def rSlAny (K : PySem.W.Frag) : V → Option Int → Option Int → Hp → VK → Prop := fun x lo hi H Q => rSlL K x lo hi H Q ∨ (rSlS x lo hi H Q ∨ rSlA K x lo hi H Q)
/-- calls -/
def rInt1 : List V → Hp → VK → Prop := fun xs H Q => (∃ i, xs = [.int i] ∧ Q (.int i) H) ∨ ∃ k, xs = [.bl k] ∧ Q (.int (if k then 1 else 0)) H
theorem call_int1A {X : Cx} : CallR X (.type "int") rInt1 := call_int1
theorem w_int1 {n : Int} (k : Q (.int n) H) : rInt1 [.int n] H Q := .inl ⟨n, rfl, k⟩
theorem w_int1b {b : Bool} (k : Q (.int (if b then 1 else 0)) H) : rInt1 [.bl b] H Q := .inr ⟨b, rfl, k⟩
def rLenA (K : PySem.W.Frag) : List V → Hp → VK → Prop := fun xs H Q => ∃ x n, xs = [x] ∧ LenV K x H n ∧ Q (.int n) H
theorem call_lenA {X : Cx} {K : PySem.W.Frag} (hK : X.K = K) : CallR X (.builtin "len") (rLenA K) := by
  subst hK
  exact call_len
theorem w_lenL {p : Addr} {xs : List V} (h : SqL K H p xs) (k : Q (.int xs.length) H) : rLenA K [.ref p] H Q := ⟨_, _, rfl, .inl ⟨xs, h, rfl⟩, k⟩
theorem w_lenT {p : Addr} {xs : List V} (h : SqT K H p xs) (k : Q (.int xs.length) H) : rLenA K [.ref p] H Q := ⟨_, _, rfl, .inr ⟨xs, h, rfl⟩, k⟩
theorem w_lenS {a : Str} (h : a.length ≤ sizeLine) (k : Q (.int a.length) H) : rLenA K [.str a] H Q := ⟨_, _, rfl, ⟨h, rfl⟩, k⟩
def rAbsA : List V → Hp → VK → Prop := fun xs H Q => ∃ i, xs = [.int i] ∧ Q (.int (if i < 0 then -i else i)) H
theorem call_absA {X : Cx} : CallR X (.builtin "abs") rAbsA := call_abs
def rMax2 : List V → Hp → VK → Prop := fun xs H Q => ∃ i j, xs = [.int i, .int j] ∧ Q (.int (if j > i then j else i)) H
def rMin2 : List V → Hp → VK → Prop := fun xs H Q => ∃ i j, xs = [.int i, .int j] ∧ Q (.int (if j < i then j else i)) H
theorem call_max2A {X : Cx} (hc : X.calm = true) : CallR X (.builtin "max") rMax2 := call_max2 hc
theorem call_min2A {X : Cx} (hc : X.calm = true) : CallR X (.builtin "min") rMin2 := call_min2 hc
theorem max_if (i j : Int) : (if j > i then j else i) = max i j := by split <;> omega
theorem min_if (i j : Int) : (if j < i then j else i) = min i j := by split <;> omega
theorem w_max2 {i j : Int} (k : Q (.int (max i j)) H) : rMax2 [.int i, .int j] H Q := ⟨i, j, rfl, by rw [max_if]; exact k⟩
theorem w_min2 {i j : Int} (k : Q (.int (min i j)) H) : rMin2 [.int i, .int j] H Q := ⟨i, j, rfl, by rw [min_if]; exact k⟩
def rBool1 : List V → Hp → VK → Prop := fun xs H Q => (∃ i, xs = [.int i] ∧ Q (.bl (i != 0)) H) ∨ ∃ k, xs = [.bl k] ∧ Q (.bl k) H
theorem call_bool1A {X : Cx} : CallR X (.type "bool") rBool1 := call_bool1
def rStrI : List V → Hp → VK → Prop := fun xs H Q => ∃ i, xs = [.int i] ∧ i.natAbs.log2 < 1920 ∧ Q (.str (toString i)) H
theorem call_strA {X : Cx} : CallR X (.type "str") rStrI := call_str_int
theorem w_strI {n : Int} (h : n.natAbs.log2 < 1920) (k : Q (.str (toString n)) H) : rStrI [.int n] H Q := ⟨n, rfl, h, k⟩
theorem w_size {xs : List V} {R : Prop} (h : xs.length ≤ sizeLine) (k : R) : xs.length ≤ sizeLine ∧ R := ⟨h, k⟩
/-- stores by place -/
theorem w_gSub {to ti : TE} {ts : TSet} {R : L2.St → Hp → Prop} (k : to σ H fun o H1 => ti σ H1 fun i H2 => ts o i v H2 fun H3 => R σ H3) : gSub to ti ts v σ H R := k
theorem w_setL {l : Addr} {xs : List V} {n : Int} {j : Nat} {R : Hp → Prop} (h : H l = some (.lst xs)) (hj : ixN xs.length n = some j) (k : ChgO l (.lst (xs.set j v)) H R) : rSetL (.ref l) (.int n) v H R := ⟨l, xs, n, j, rfl, rfl, h, hj, k⟩
/-- methods of lists -/
theorem w_bm {T : String} {r : V → List V → Hp → VK → Prop} {tr : TA} (k : ta σ H fun x H1 => tyV K T x H1 ∧ tr σ H1 fun xs H2 => r x xs H2 Q) : tBM K T r ta tr σ H Q := k
theorem w_bm0 {T : String} {r : V → List V → Hp → VK → Prop} (k : ta σ H fun x H1 => tyV K T x H1 ∧ r x [] H1 Q) : tBM0 K T r ta σ H Q := k
theorem w_tyL {p : Addr} {xs : List V} {R : Prop} (h : SqL K H p xs) (k : R) : tyV K "list" (.ref p) H ∧ R := ⟨.inl ⟨rfl, xs, h⟩, k⟩
theorem w_tyS {a : Str} {R : Prop} (k : R) : tyV K "str" (.str a) H ∧ R := ⟨rfl, k⟩
theorem w_append {l : Addr} {xs : List V} (h : H l = some (.lst xs)) (hz : xs.length < sizeLine) (k : ChgO l (.lst (xs ++ [v])) H (Q .non)) : rAppend (.ref l) [v] H Q := ⟨l, xs, v, rfl, rfl, h, hz, k⟩
theorem w_clear {l : Addr} {xs : List V} (h : H l = some (.lst xs)) (k : ChgO l (.lst []) H (Q .non)) : rClear (.ref l) [] H Q := ⟨l, xs, rfl, rfl, h, k⟩
end

/-! ### loops -/
section
variable {K : PySem.W.Frag} {σ : L2.St} {H : Hp} {a D : Addr} {xs : List V} {g : TG} {tb : TS} {nx : L2.St → Hp → Prop} {rt : VK} {bk ct : L2.St → Hp → Prop} {tl te : TE} {ta : TA} {tt : TT} {Q : VK} {vs : List Nat} {j : Nat}
def WFor (J : It) (g : TG) (tb : TS) (nx : L2.St → Hp → Prop) (rt : VK) (σ : L2.St) (H : Hp) : Prop := ∃ W : Nat → Nat → L2.St → Hp → Prop, (∃ m, W 0 m σ H) ∧ ∀ i m σ H, W i m σ H →
  (J.stop i H ∧ nx σ H) ∨ (J.go i H ∧ ∃ N : L2.St → Hp → Prop, (∀ σ' H', N σ' H' → ∃ m', m' < m ∧ W (i + 1) m' σ' H') ∧ ∀ x H', J.yld i H x H' → g x σ H' fun σ2 H2 => tb ⟨N, rt, nx, N⟩ σ2 H2)
theorem w_forL (k : tl σ H fun x H1 => ∃ a, x = .ref a ∧ (∃ xs, SqL K H1 a xs) ∧ WFor (Itl K a) g tb nx rt σ H1) : tFor (iList K tl) g tb ⟨nx, rt, bk, ct⟩ σ H := k
theorem w_forT (k : tl σ H fun x H1 => ∃ a, x = .ref a ∧ (∃ xs, SqT K H1 a xs) ∧ WFor (Itt K a) g tb nx rt σ H1) : tFor (iTup K tl) g tb ⟨nx, rt, bk, ct⟩ σ H := k
theorem w_forR1 (k : ta σ H fun vs H1 => ∃ j : Int, vs = [.int j] ∧ -(2 ^ 62) ≤ j ∧ j < 2 ^ 62 ∧ WFor (Itr 0 j.toNat) g tb nx rt σ H1) : tFor (iRng1 ta) g tb ⟨nx, rt, bk, ct⟩ σ H := k
theorem w_forR2 (k : ta σ H fun vs H1 => ∃ i j : Int, vs = [.int i, .int j] ∧ (-(2 ^ 62) ≤ i ∧ i < 2 ^ 62 ∧ -(2 ^ 62) ≤ j ∧ j < 2 ^ 62) ∧ WFor (Itr i (j - i).toNat) g tb nx rt σ H1) : tFor (iRng2 ta) g tb ⟨nx, rt, bk, ct⟩ σ H := k
/-- over a list that stands: the word by the turn, the slots, the heap -/
theorem fl_list (xs : List V) (Pv : Nat → L2.St → Hp → Prop) (hS : SqL K H a xs) (h0 : Pv 0 σ H) (hl : ∀ i σ H, i ≤ xs.length → Pv i σ H → SqL K H a xs)
    (hs : ∀ i x σ H, xs[i]? = some x → Pv i σ H → g x σ H fun σ2 H2 => tb ⟨Pv (i + 1), rt, nx, Pv (i + 1)⟩ σ2 H2) (hd : ∀ σ H, Pv xs.length σ H → nx σ H) :
    ∃ b, V.ref a = .ref b ∧ (∃ xs, SqL K H b xs) ∧ WFor (Itl K b) g tb nx rt σ H := ⟨a, rfl, ⟨xs, hS⟩, for_list (D := ⟨nx, rt, fun _ _ => False, fun _ _ => False⟩) Pv h0 hl hs hd⟩
theorem fl_tup (xs : List V) (Pv : Nat → L2.St → Hp → Prop) (hS : SqT K H a xs) (h0 : Pv 0 σ H) (hl : ∀ i σ H, i ≤ xs.length → Pv i σ H → SqT K H a xs)
    (hs : ∀ i x σ H, xs[i]? = some x → Pv i σ H → g x σ H fun σ2 H2 => tb ⟨Pv (i + 1), rt, nx, Pv (i + 1)⟩ σ2 H2) (hd : ∀ σ H, Pv xs.length σ H → nx σ H) :
    ∃ b, V.ref a = .ref b ∧ (∃ xs, SqT K H b xs) ∧ WFor (Itt K b) g tb nx rt σ H := ⟨a, rfl, ⟨xs, hS⟩, for_tup (D := ⟨nx, rt, fun _ _ => False, fun _ _ => False⟩) Pv h0 hl hs hd⟩
theorem fl_rng1 {n : Int} (Pv : Nat → L2.St → Hp → Prop) (hb : n < 2 ^ 62) (hb0 : -(2 ^ 62) ≤ n) (h0 : Pv 0 σ H)
    (hs : ∀ i σ H, i < n.toNat → Pv i σ H → g (.int (i : Int)) σ H fun σ2 H2 => tb ⟨Pv (i + 1), rt, nx, Pv (i + 1)⟩ σ2 H2) (hd : ∀ σ H, Pv n.toNat σ H → nx σ H) :
    ∃ j : Int, [V.int n] = [.int j] ∧ -(2 ^ 62) ≤ j ∧ j < 2 ^ 62 ∧ WFor (Itr 0 j.toNat) g tb nx rt σ H := by
  refine ⟨n, rfl, hb0, hb, for_range (D := ⟨nx, rt, fun _ _ => False, fun _ _ => False⟩) Pv h0 (fun i σ H hi p => ?_) hd⟩
  rw [Int.zero_add]
  exact hs i σ H hi p
theorem fl_rng2 {m n : Int} (Pv : Nat → L2.St → Hp → Prop) (hb : -(2 ^ 62) ≤ m ∧ m < 2 ^ 62 ∧ -(2 ^ 62) ≤ n ∧ n < 2 ^ 62) (h0 : Pv 0 σ H)
    (hs : ∀ i σ H, i < (n - m).toNat → Pv i σ H → g (.int (m + (i : Int))) σ H fun σ2 H2 => tb ⟨Pv (i + 1), rt, nx, Pv (i + 1)⟩ σ2 H2) (hd : ∀ σ H, Pv (n - m).toNat σ H → nx σ H) :
    ∃ i j : Int, [V.int m, V.int n] = [.int i, .int j] ∧ (-(2 ^ 62) ≤ i ∧ i < 2 ^ 62 ∧ -(2 ^ 62) ≤ j ∧ j < 2 ^ 62) ∧ WFor (Itr i (j - i).toNat) g tb nx rt σ H :=
  ⟨m, n, rfl, hb, for_range (D := ⟨nx, rt, fun _ _ => False, fun _ _ => False⟩) Pv h0 hs hd⟩
/-- over a short list, turn by turn -/
def runL (K : PySem.W.Frag) (a : Addr) (all : List V) (g : TG) (tb : TS) (nx : L2.St → Hp → Prop) (rt : VK) : List V → L2.St → Hp → Prop
  | [], σ, H => nx σ H
  | x :: r, σ, H => g x σ H fun σ2 H2 => tb ⟨fun σ' H' => SqL K H' a all ∧ runL K a all g tb nx rt r σ' H', rt, nx, fun σ' H' => SqL K H' a all ∧ runL K a all g tb nx rt r σ' H'⟩ σ2 H2
theorem fl_run (xs : List V) (hS : SqL K H a xs) (k : runL K a xs g tb nx rt xs σ H) : ∃ b, V.ref a = .ref b ∧ (∃ xs, SqL K H b xs) ∧ WFor (Itl K b) g tb nx rt σ H := by
  refine fl_list xs (fun i σ H => SqL K H a xs ∧ runL K a xs g tb nx rt (xs.drop i) σ H) hS ⟨hS, by rw [List.drop_zero]; exact k⟩ (fun _ _ _ _ h => h.1) (fun i x σ H hi h => ?_) (fun σ H h => ?_)
  · have e : xs.drop i = x :: xs.drop (i + 1) := by
      obtain ⟨hl, rfl⟩ := List.getElem?_eq_some_iff.mp hi
      exact List.drop_eq_getElem_cons hl
    have h2 := h.2
    rw [e] at h2
    exact h2
  · have h2 := h.2
    rw [List.drop_length] at h2
    exact h2
theorem w_runN (k : nx σ H) : runL K a xs g tb nx rt [] σ H := k
theorem w_runC {x : V} {r : List V} (k : g x σ H fun σ2 H2 => tb ⟨fun σ' H' => SqL K H' a xs ∧ runL K a xs g tb nx rt r σ' H', rt, nx, fun σ' H' => SqL K H' a xs ∧ runL K a xs g tb nx rt r σ' H'⟩ σ2 H2) :
    runL K a xs g tb nx rt (x :: r) σ H := k
/-- the first of two, by what stands -/
theorem w_both {A B : Prop} (h : A) (k : B) : A ∧ B := ⟨h, k⟩
/-! comprehensions -/
def WLc (J : It) (g : TG) (tt : TT) (te : TE) (vs : List Nat) (σ : L2.St) (D : Addr) (H1 : Hp) (Q : VK) : Prop := ∃ W : Nat → Nat → Hp → Prop, (∃ m, W 0 m (upd H1 D (.lst []))) ∧ ∀ i m H, W i m H →
  (J.stop i H ∧ Q (.ref D) H) ∨ (J.go i H ∧ ∃ Nx : Hp → Prop, (∀ H', Nx H' → ∃ m', m' < m ∧ W (i + 1) m' H') ∧ ∀ x H', J.yld i H x H' → g x (wipe σ vs) H' fun σ2 H2 => wipe σ2 vs = wipe σ vs ∧ tt σ2 H2 fun b H3 =>
    if b = true then te σ2 H3 fun y H4 => ∃ acc, H4 D = some (.lst acc) ∧ acc.length < sizeLine ∧ Nx (upd H4 D (.lst (acc ++ [y]))) else Nx H3)
theorem w_lcL (k : tl σ H fun x H1 => ∃ a, x = .ref a ∧ (∃ xs, SqL K H1 a xs) ∧ ∀ D, H1 D = none → WLc (Itl K a) g tt te vs σ D H1 Q) : tLc (iList K tl) g tt te vs σ H Q := k
theorem w_lcT (k : tl σ H fun x H1 => ∃ a, x = .ref a ∧ (∃ xs, SqT K H1 a xs) ∧ ∀ D, H1 D = none → WLc (Itt K a) g tt te vs σ D H1 Q) : tLc (iTup K tl) g tt te vs σ H Q := k
theorem w_lcR1 (k : ta σ H fun us H1 => ∃ j : Int, us = [.int j] ∧ -(2 ^ 62) ≤ j ∧ j < 2 ^ 62 ∧ ∀ D, H1 D = none → WLc (Itr 0 j.toNat) g tt te vs σ D H1 Q) : tLc (iRng1 ta) g tt te vs σ H Q := k
theorem wipe1 (σ : L2.St) (j : Nat) (x : Option V) : wipe ((wipe σ [j]).set j x) [j] = wipe σ [j] := by
  show (((σ.set j none).set j x).set j none) = σ.set j none
  rw [List.set_set, List.set_set]
def LcEnd (D : Addr) (Pv : Nat → List V → Hp → Prop) (i : Nat) (y : V) (H4 : Hp) : Prop := ∃ acc, H4 D = some (.lst acc) ∧ acc.length < sizeLine ∧
  ∃ ys, ys.length ≤ i + 1 ∧ upd H4 D (.lst (acc ++ [y])) D = some (.lst ys) ∧ Pv (i + 1) ys (upd H4 D (.lst (acc ++ [y])))
theorem lc_end {D : Addr} {Pv : Nat → List V → Hp → Prop} {i : Nat} {y : V} {H4 : Hp} {ys : List V} (h : H4 D = some (.lst ys)) (hl : ys.length ≤ i) (hz : ys.length < sizeLine) (k : ∀ H', But D H4 H' → H' D = some (.lst (ys ++ [y])) → Pv (i + 1) (ys ++ [y]) H') : LcEnd D Pv i y H4 :=
  ⟨ys, h, hz, ys ++ [y], by rw [List.length_append]; exact Nat.succ_le_succ hl, upd_same, k _ (But.upd _ _ _) upd_same⟩
def LcSkip (D : Addr) (Pv : Nat → List V → Hp → Prop) (i : Nat) (H4 : Hp) : Prop := ∃ ys, ys.length ≤ i + 1 ∧ H4 D = some (.lst ys) ∧ Pv (i + 1) ys H4
theorem lc_skip {D : Addr} {Pv : Nat → List V → Hp → Prop} {i : Nat} {H4 : Hp} {ys : List V} (h : H4 D = some (.lst ys)) (hl : ys.length ≤ i) (k : Pv (i + 1) ys H4) : LcSkip D Pv i H4 := ⟨ys, Nat.le_succ_of_le hl, h, k⟩
/-- over a list: the word by the turn, the list so far, the heap; any test -/
theorem lc_L (xs : List V) (Pv : Addr → Nat → List V → Hp → Prop) (hS : SqL K H a xs) (h0 : ∀ D H', H D = none → Same H H' → H' D = some (.lst []) → Pv D 0 [] H')
    (hl : ∀ D, H D = none → ∀ i ys H', i ≤ xs.length → H' D = some (.lst ys) → Pv D i ys H' → SqL K H' a xs)
    (hs : ∀ D, H D = none → ∀ i x ys H', xs[i]? = some x → ys.length ≤ i → H' D = some (.lst ys) → Pv D i ys H' → tt ((wipe σ [j]).set j (some x)) H' fun b H3 => if b = true then te ((wipe σ [j]).set j (some x)) H3 fun y H4 => LcEnd D (Pv D) i y H4 else LcSkip D (Pv D) i H3)
    (hd : ∀ D, H D = none → ∀ ys H', ys.length ≤ xs.length → H' D = some (.lst ys) → Pv D xs.length ys H' → Q (.ref D) H') :
    ∃ b, V.ref a = .ref b ∧ (∃ xs, SqL K H b xs) ∧ ∀ D, H D = none → WLc (Itl K b) (gName j) tt te [j] σ D H Q :=
  ⟨a, rfl, ⟨xs, hS⟩, fun D hD => lc_list (xs := xs) (fun i H' => ∃ ys, ys.length ≤ i ∧ H' D = some (.lst ys) ∧ Pv D i ys H') ⟨[], Nat.le_refl _, upd_same, h0 D _ hD (Same.one hD) upd_same⟩ (fun i H' hi ⟨ys, _, e, p⟩ => hl D hD i ys H' hi e p)
    (fun i x H' hi ⟨ys, e, e2, p⟩ => ⟨wipe1 _ _ _, hs D hD i x ys H' hi e e2 p⟩) (fun H' ⟨ys, e, e2, p⟩ => hd D hD ys H' e e2 p)⟩
theorem lc_T (xs : List V) (Pv : Addr → Nat → List V → Hp → Prop) (hS : SqT K H a xs) (h0 : ∀ D H', H D = none → Same H H' → H' D = some (.lst []) → Pv D 0 [] H')
    (hl : ∀ D, H D = none → ∀ i ys H', i ≤ xs.length → H' D = some (.lst ys) → Pv D i ys H' → SqT K H' a xs)
    (hs : ∀ D, H D = none → ∀ i x ys H', xs[i]? = some x → ys.length ≤ i → H' D = some (.lst ys) → Pv D i ys H' → tt ((wipe σ [j]).set j (some x)) H' fun b H3 => if b = true then te ((wipe σ [j]).set j (some x)) H3 fun y H4 => LcEnd D (Pv D) i y H4 else LcSkip D (Pv D) i H3)
    (hd : ∀ D, H D = none → ∀ ys H', ys.length ≤ xs.length → H' D = some (.lst ys) → Pv D xs.length ys H' → Q (.ref D) H') :
    ∃ b, V.ref a = .ref b ∧ (∃ xs, SqT K H b xs) ∧ ∀ D, H D = none → WLc (Itt K b) (gName j) tt te [j] σ D H Q :=
  ⟨a, rfl, ⟨xs, hS⟩, fun D hD => lc_tup (xs := xs) (fun i H' => ∃ ys, ys.length ≤ i ∧ H' D = some (.lst ys) ∧ Pv D i ys H') ⟨[], Nat.le_refl _, upd_same, h0 D _ hD (Same.one hD) upd_same⟩ (fun i H' hi ⟨ys, _, e, p⟩ => hl D hD i ys H' hi e p)
    (fun i x H' hi ⟨ys, e, e2, p⟩ => ⟨wipe1 _ _ _, hs D hD i x ys H' hi e e2 p⟩) (fun H' ⟨ys, e, e2, p⟩ => hd D hD ys H' e e2 p)⟩
theorem lc_R1 {n : Int} (Pv : Addr → Nat → List V → Hp → Prop) (hb0 : -(2 ^ 62) ≤ n) (hb : n < 2 ^ 62) (h0 : ∀ D H', H D = none → Same H H' → H' D = some (.lst []) → Pv D 0 [] H')
    (hs : ∀ D, H D = none → ∀ (i : Nat) ys H', i < n.toNat → ys.length ≤ i → H' D = some (.lst ys) → Pv D i ys H' → tt ((wipe σ [j]).set j (some (.int (i : Int)))) H' fun b H3 => if b = true then te ((wipe σ [j]).set j (some (.int (i : Int)))) H3 fun y H4 => LcEnd D (Pv D) i y H4 else LcSkip D (Pv D) i H3)
    (hd : ∀ D, H D = none → ∀ ys H', ys.length ≤ n.toNat → H' D = some (.lst ys) → Pv D n.toNat ys H' → Q (.ref D) H') :
    ∃ m : Int, [V.int n] = [.int m] ∧ -(2 ^ 62) ≤ m ∧ m < 2 ^ 62 ∧ ∀ D, H D = none → WLc (Itr 0 m.toNat) (gName j) tt te [j] σ D H Q :=
  ⟨n, rfl, hb0, hb, fun D hD => lc_range (lo := 0) (n := n.toNat) (fun i H' => ∃ ys, ys.length ≤ i ∧ H' D = some (.lst ys) ∧ Pv D i ys H') ⟨[], Nat.le_refl _, upd_same, h0 D _ hD (Same.one hD) upd_same⟩
    (fun i H' hi ⟨ys, e, e2, p⟩ => by
      rw [Int.zero_add]
      exact ⟨wipe1 _ _ _, hs D hD i ys H' hi e e2 p⟩) (fun H' ⟨ys, e, e2, p⟩ => hd D hD ys H' e e2 p)⟩
theorem w_yes {R : Bool → Hp → Prop} (k : R true H) : tYes σ H R := k
end

/-! ### data -/
mutual
/-- data of None, ints, texts, lists, tuples, not too deep: what == tells of it is whether it is the same -/
def clean : PyData → Bool
  | .none => true
  | .int _ => true
  | .str x => PyData.strOk x
  | .list xs => cleanAll xs
  | .tuple xs => cleanAll xs
  | .bool _ => false
  | .dict _ => false
def cleanAll : List PyData → Bool
  | [] => true
  | x :: xs => clean x && cleanAll xs
end
mutual
theorem clean_lay : ∀ d : PyData, clean d = true → d.canLay0 = true
  | .none, _ => by rw [PyData.canLay0]
  | .int _, _ => by rw [PyData.canLay0]
  | .str x, h => by rw [PyData.canLay0]; rw [clean] at h; exact h
  | .list xs, h => by rw [PyData.canLay0]; rw [clean] at h; exact cleanAll_lay xs h
  | .tuple xs, h => by rw [PyData.canLay0]; rw [clean] at h; exact cleanAll_lay xs h
  | .bool _, h => by rw [clean] at h; cases h
  | .dict _, h => by rw [clean] at h; cases h
theorem cleanAll_lay : ∀ ds : List PyData, cleanAll ds = true → PyData.canLayAll0 ds = true
  | [], _ => by rw [PyData.canLayAll0]
  | x :: xs, h => by
    rw [cleanAll, Bool.and_eq_true] at h
    rw [PyData.canLayAll0, clean_lay x h.1, cleanAll_lay xs h.2]; rfl
end
mutual
theorem clean_eqv : ∀ d e : PyData, clean d = true → clean e = true → (PyData.eqv d e = true ↔ d = e)
  | .none, e, _, _ => by cases e <;> simp [PyData.eqv]
  | .int i, e, _, he => by cases e <;> simp [PyData.eqv]; simp [clean] at he
  | .str x, e, _, _ => by cases e <;> simp [PyData.eqv]
  | .list xs, e, h, he => by
    cases e <;> simp [PyData.eqv]
    simp only [clean] at h he
    exact cleanAll_eqv xs _ h he
  | .tuple xs, e, h, he => by
    cases e <;> simp [PyData.eqv]
    simp only [clean] at h he
    exact cleanAll_eqv xs _ h he
  | .bool _, _, h, _ => by simp [clean] at h
  | .dict _, _, h, _ => by simp [clean] at h
theorem cleanAll_eqv : ∀ ds es : List PyData, cleanAll ds = true → cleanAll es = true → (PyData.eqvAll ds es = true ↔ ds = es)
  | [], es, _, _ => by cases es <;> simp [PyData.eqvAll]
  | x :: xs, [], _, _ => by simp [PyData.eqvAll]
  | x :: xs, y :: ys, h, he => by
    simp only [cleanAll, Bool.and_eq_true] at h he
    simp only [PyData.eqvAll, Bool.and_eq_true, clean_eqv x y h.1 he.1, cleanAll_eqv xs ys h.2 he.2, List.cons.injEq]
end
/-- to be compared by == -/
structure Cmp (d : PyData) : Prop where
  clean : clean d = true
  depth : d.depth ≤ 64
theorem Cmp.shaped {d : PyData} (c : Cmp d) : SeqAt.shaped d = true := by
  unfold SeqAt.shaped
  rw [clean_lay d c.clean, Bool.true_and, decide_eq_true_eq]
  exact c.depth
theorem eqv_iff {d e : PyData} (c : Cmp d) (c' : Cmp e) : PyData.eqv d e = true ↔ d = e := clean_eqv d e c.clean c'.clean
open Classical in
theorem w_eqP {K : PySem.W.Frag} {H : Hp} {x y : V} {Q : VK} {d e : PyData} (hd : Dp K H x d) (he : Dp K H y e) (cd : Cmp d) (ce : Cmp e) (k : ∀ b : Bool, (b = true ↔ d = e) → Q (.bl b) H) : rEqA K x y H Q :=
  w_eqD hd he cd.shaped ce.shaped (k _ (eqv_iff cd ce))
theorem w_neP {K : PySem.W.Frag} {H : Hp} {x y : V} {Q : VK} {d e : PyData} (hd : Dp K H x d) (he : Dp K H y e) (cd : Cmp d) (ce : Cmp e) (k : ∀ b : Bool, (b = true ↔ d ≠ e) → Q (.bl b) H) : rNeA K x y H Q :=
  w_neD hd he cd.shaped ce.shaped (k _ (by
    have h := eqv_iff cd ce
    cases hb : PyData.eqv d e <;> rw [hb] at h <;> simp at h ⊢ <;> exact h))
theorem dpAll_ints {K : PySem.W.Frag} {H : Hp} : ∀ ns : List Int, DpAll K H (ns.map V.int) (ns.map PyData.int)
  | [] => .nil
  | n :: ns => .cons (.int n) (dpAll_ints ns)
theorem dp_ints {K : PySem.W.Frag} {H : Hp} {a : Addr} {ns : List Int} (h : SqL K H a (ns.map V.int)) : Dp K H (.ref a) (.list (ns.map PyData.int)) := .lst h (dpAll_ints ns)
theorem cleanAll_ints : ∀ ns : List Int, cleanAll (ns.map PyData.int) = true
  | [] => by simp [cleanAll]
  | n :: ns => by rw [List.map_cons, cleanAll, cleanAll_ints ns, clean]; rfl
theorem depthAll_ints : ∀ ns : List Int, PyData.depthAll (ns.map PyData.int) = 0
  | [] => by simp [PyData.depthAll]
  | n :: ns => by rw [List.map_cons, PyData.depthAll, depthAll_ints ns, PyData.depth]; rfl
theorem cmp_ints (ns : List Int) : Cmp (.list (ns.map PyData.int)) := ⟨by rw [clean]; exact cleanAll_ints ns, by rw [PyData.depth, depthAll_ints]; decide⟩
theorem map_int_inj {ns ms : List Int} : PyData.list (ns.map PyData.int) = .list (ms.map PyData.int) ↔ ns = ms := by
  constructor
  · intro h
    have h2 : ns.map PyData.int = ms.map PyData.int := by injection h
    exact (List.map_inj_right (f := PyData.int) (fun x y e => by injection e)).mp h2
  · intro h; rw [h]
theorem w_eqIL {K : PySem.W.Frag} {H : Hp} {p q : Addr} {Q : VK} {ns ms : List Int} (h1 : SqL K H p (ns.map V.int)) (h2 : SqL K H q (ms.map V.int)) (k : Q (.bl (decide (ns = ms))) H) : rEqA K (.ref p) (.ref q) H Q :=
  w_eqP (dp_ints h1) (dp_ints h2) (cmp_ints _) (cmp_ints _) fun b hb => by
    rw [map_int_inj] at hb
    rw [show b = decide (ns = ms) by rw [Bool.eq_iff_iff, hb, decide_eq_true_eq]]
    exact k
theorem w_neIL {K : PySem.W.Frag} {H : Hp} {p q : Addr} {Q : VK} {ns ms : List Int} (h1 : SqL K H p (ns.map V.int)) (h2 : SqL K H q (ms.map V.int)) (k : Q (.bl (!decide (ns = ms))) H) : rNeA K (.ref p) (.ref q) H Q :=
  w_neP (dp_ints h1) (dp_ints h2) (cmp_ints _) (cmp_ints _) fun b hb => by
    rw [ne_eq, map_int_inj] at hb
    rw [show b = !decide (ns = ms) by rw [Bool.eq_iff_iff, hb]; simp]
    exact k
/-! slices -/
section
variable {K : PySem.W.Frag} {σ : L2.St} {H : Hp} {te : TE} {tl th : TO} {Q : VK} {a : Addr} {xs : List V} {lo hi : Option Int}
theorem sl_any {X : Cx} {K : PySem.W.Frag} (hK : X.K = K) : SlR X (rSlAny K) := by
  subst hK
  exact sl_list.or (sl_str.or sl_tupA)
theorem w_sl {r : V → Option Int → Option Int → Hp → VK → Prop} (k : te σ H fun x H1 => tl σ H1 fun l H2 => th σ H2 fun u H3 => r x l u H3 Q) : tSl r te tl th σ H Q := k
theorem w_noPart {R : Option Int → Hp → Prop} (k : R none H) : tNoPart σ H R := k
theorem w_part {R : Option Int → Hp → Prop} (k : te σ H fun x H1 => ∃ i, x = .int i ∧ R (some i) H1) : tPart te σ H R := k
theorem w_int {R : Int → Prop} {n : Int} (k : R n) : ∃ i, V.int n = .int i ∧ R i := ⟨n, rfl, k⟩
theorem w_slL (h : SqL K H a xs) (k : NewO (.lst (cutV xs lo hi)) H Q) : rSlAny K (.ref a) lo hi H Q := .inl ⟨a, xs, rfl, h, k⟩
theorem w_slS {z : Str} (h : z.length ≤ sizeLine) (k : Q (.str (cutS z lo hi)) H) : rSlAny K (.str z) lo hi H Q := .inr (.inl ⟨z, rfl, h, k⟩)
theorem w_rep {l : Addr} {n : Int} (h : H l = some (.lst xs)) (h0 : -(2 ^ 63) ≤ n) (h1 : n < 2 ^ 63) (hz : xs.length * n.toNat ≤ sizeLine) (k : NewO (.lst (List.replicate n.toNat xs).flatten) H Q) : rMulA (.ref l) (.int n) H Q :=
  .inr ⟨l, n, xs, rfl, rfl, h, h0, h1, hz, k⟩
end

/-! ### unpacking: a tuple or a list -/
def gSeq (K : PySem.W.Frag) (n : Nat) (t : TGs) : TG := fun v σ H Q => gLst K n t v σ H Q ∨ gTup K n t v σ H Q
theorem pg_seq {X : Cx} {K : PySem.W.Frag} {pos : Pos} {es : List Expr} {k : Nat} {t : TGs} (n : Nat) (hK : X.K = K) (hc : X.calm = true) (h : PGs X es t)
    (hn : (assignEach es X.env).length = n := by rfl) (hst : (assignEach es X.env).findIdx? (·.1) = none := by rfl) : PG X (.Tuple es k pos) (gSeq K n t) := by
  subst hK
  refine ⟨fun pins s σ H v u Q I r hw => ?_⟩
  rcases hw with hw | hw
  · exact (pg_lst hc h hn hst).run pins s σ H v u Q I r hw
  · exact (pg_tup hc h hn hst).run pins s σ H v u Q I r hw
section
variable {K : PySem.W.Frag} {σ : L2.St} {H : Hp} {R : L2.St → Hp → Prop} {t : TGs} {g : TG} {xs : List V} {a : Addr} {v : V} {n : Nat}
theorem w_seqL (h : SqL K H a xs) (hl : xs.length = n) (k : t xs σ H R) : gSeq K n t (.ref a) σ H R := .inl ⟨a, xs, rfl, h, hl, k⟩
theorem w_seqT (h : SqT K H a xs) (hl : xs.length = n) (k : t xs σ H R) : gSeq K n t (.ref a) σ H R := .inr ⟨a, xs, rfl, h, hl, k⟩
theorem w_gNil (k : R σ H) : gNil [] σ H R := ⟨rfl, k⟩
theorem w_gCons (k : g v σ H fun σ' H' => t xs σ' H' R) : gCons g t (v :: xs) σ H R := ⟨v, xs, rfl, k⟩
end

/-! ### walks of any kind -/
section
variable {K : PySem.W.Frag} {σ : L2.St} {H : Hp} {a b D : Addr} {xs ys : List V} {g : TG} {tb : TS} {nx : L2.St → Hp → Prop} {rt : VK} {bk ct : L2.St → Hp → Prop} {tl te : TE} {ta : TA} {tt : TT} {Q : VK} {vs : List Nat} {J : It} {n : Nat} {G : Hp → Prop} {Y : Nat → Hp → V → Hp → Prop}
theorem wfor_it (w : Walk J n G Y) (Pv : Nat → L2.St → Hp → Prop) (h0 : Pv 0 σ H) (hG : ∀ i σ H, i ≤ n → Pv i σ H → G H)
    (hs : ∀ i x σ H H', i < n → Pv i σ H → Y i H x H' → g x σ H' fun σ2 H2 => tb ⟨Pv (i + 1), rt, nx, Pv (i + 1)⟩ σ2 H2) (hd : ∀ σ H, Pv n σ H → nx σ H) : WFor J g tb nx rt σ H :=
  for_it (D := ⟨nx, rt, fun _ _ => False, fun _ _ => False⟩) w Pv h0 hG hs hd
theorem wlc_it (w : Walk J n G Y) (Pv : Addr → Nat → List V → Hp → Prop) (h0 : ∀ D H', H D = none → Same H H' → H' D = some (.lst []) → Pv D 0 [] H') (hG : ∀ D, H D = none → ∀ i ys H', i ≤ n → H' D = some (.lst ys) → Pv D i ys H' → G H')
    (hs : ∀ D, H D = none → ∀ i x ys H0 H', i < n → ys.length ≤ i → H0 D = some (.lst ys) → Pv D i ys H0 → Y i H0 x H' → g x (wipe σ vs) H' fun σ2 H2 => wipe σ2 vs = wipe σ vs ∧ tt σ2 H2 fun b H3 => if b = true then te σ2 H3 fun y H4 => LcEnd D (Pv D) i y H4 else LcSkip D (Pv D) i H3)
    (hd : ∀ D, H D = none → ∀ ys H', ys.length ≤ n → H' D = some (.lst ys) → Pv D n ys H' → Q (.ref D) H') : ∀ D, H D = none → WLc J g tt te vs σ D H Q := fun D hD =>
  lc_it w (fun i H' => ∃ ys, ys.length ≤ i ∧ H' D = some (.lst ys) ∧ Pv D i ys H') ⟨[], Nat.le_refl _, upd_same, h0 D _ hD (Same.one hD) upd_same⟩ (fun i H' hi ⟨ys, _, e, p⟩ => hG D hD i ys H' hi e p)
    (fun i x H0 H' hi ⟨ys, e, e2, p⟩ y => hs D hD i x ys H0 H' hi e e2 p y) (fun H' ⟨ys, e, e2, p⟩ => hd D hD ys H' e e2 p)
theorem w_forZ (k : ta σ H fun vs H1 => ∃ a b xs ys, vs = [.ref a, .ref b] ∧ SqL K H1 a xs ∧ SqL K H1 b ys ∧ WFor (Itz K a b) g tb nx rt σ H1) : tFor (iZip K ta) g tb ⟨nx, rt, bk, ct⟩ σ H := k
theorem w_forE (k : ta σ H fun vs H1 => ∃ a xs, vs = [.ref a] ∧ SqL K H1 a xs ∧ WFor (Ite K a) g tb nx rt σ H1) : tFor (iEnum K ta) g tb ⟨nx, rt, bk, ct⟩ σ H := k
theorem w_forV (k : te σ H fun v H1 => ∃ (a : Addr) (xs : List V), v = .ref a ∧ ((SqL K H1 a xs ∧ WFor (Itv K a xs.length) g tb nx rt σ H1) ∨ (SqT K H1 a xs ∧ WFor (RT.ItvT K a xs.length) g tb nx rt σ H1))) : tFor (RT.iRevA K te) g tb ⟨nx, rt, bk, ct⟩ σ H := k
theorem w_lcZ (k : ta σ H fun us H1 => ∃ a b xs ys, us = [.ref a, .ref b] ∧ SqL K H1 a xs ∧ SqL K H1 b ys ∧ ∀ D, H1 D = none → WLc (Itz K a b) g tt te vs σ D H1 Q) : tLc (iZip K ta) g tt te vs σ H Q := k
theorem w_lcE (k : ta σ H fun us H1 => ∃ a xs, us = [.ref a] ∧ SqL K H1 a xs ∧ ∀ D, H1 D = none → WLc (Ite K a) g tt te vs σ D H1 Q) : tLc (iEnum K ta) g tt te vs σ H Q := k
/-- zip of two lists, each turn a new pair -/
theorem fl_zip (Pv : Nat → L2.St → Hp → Prop) (hx : SqL K H a xs) (hy : SqL K H b ys) (h0 : Pv 0 σ H) (hG : ∀ i σ H, i ≤ min xs.length ys.length → Pv i σ H → SqL K H a xs ∧ SqL K H b ys)
    (hs : ∀ i x y T σ H H', xs[i]? = some x → ys[i]? = some y → Pv i σ H → H T = none → Same H H' → H' T = some (.tup [x, y]) → g (.ref T) σ H' fun σ2 H2 => tb ⟨Pv (i + 1), rt, nx, Pv (i + 1)⟩ σ2 H2) (hd : ∀ σ H, Pv (min xs.length ys.length) σ H → nx σ H) :
    ∃ p q us ws, [V.ref a, .ref b] = [.ref p, .ref q] ∧ SqL K H p us ∧ SqL K H q ws ∧ WFor (Itz K p q) g tb nx rt σ H :=
  ⟨a, b, xs, ys, rfl, hx, hy, wfor_it (walk_zip rfl) Pv h0 hG (fun i v σ H H' hi p ⟨T, x, y, e, nT, e2, h1, h2⟩ => by subst e e2; exact hs i x y T σ H _ h1 h2 p nT (Same.one nT) upd_same) hd⟩
theorem fl_enum (Pv : Nat → L2.St → Hp → Prop) (hx : SqL K H a xs) (h0 : Pv 0 σ H) (hG : ∀ i σ H, i ≤ xs.length → Pv i σ H → SqL K H a xs)
    (hs : ∀ i x T σ H H', xs[i]? = some x → Pv i σ H → H T = none → Same H H' → H' T = some (.tup [.int (i : Nat), x]) → g (.ref T) σ H' fun σ2 H2 => tb ⟨Pv (i + 1), rt, nx, Pv (i + 1)⟩ σ2 H2) (hd : ∀ σ H, Pv xs.length σ H → nx σ H) :
    ∃ p us, [V.ref a] = [.ref p] ∧ SqL K H p us ∧ WFor (Ite K p) g tb nx rt σ H :=
  ⟨a, xs, rfl, hx, wfor_it walk_enum Pv h0 hG (fun i v σ H H' hi p ⟨T, x, y, e, nT, e2, h1, h2⟩ => by
    subst e e2
    obtain rfl : V.int (i : Nat) = x := Option.some.inj h1
    exact hs i y T σ H _ h2 p nT (Same.one nT) upd_same) hd⟩
theorem fl_rev (Pv : Nat → L2.St → Hp → Prop) (hx : SqL K H a xs) (h0 : Pv 0 σ H) (hG : ∀ i σ H, i ≤ xs.length → Pv i σ H → SqL K H a xs)
    (hs : ∀ i x σ H, i < xs.length → xs[xs.length - 1 - i]? = some x → Pv i σ H → g x σ H fun σ2 H2 => tb ⟨Pv (i + 1), rt, nx, Pv (i + 1)⟩ σ2 H2) (hd : ∀ σ H, Pv xs.length σ H → nx σ H) :
    ∃ (p : Addr) (us : List V), V.ref a = .ref p ∧ ((SqL K H p us ∧ WFor (Itv K p us.length) g tb nx rt σ H) ∨ (SqT K H p us ∧ WFor (RT.ItvT K p us.length) g tb nx rt σ H)) :=
  ⟨a, xs, rfl, .inl ⟨hx, wfor_it walk_rev Pv h0 hG (fun i x σ H H' hi p ⟨e, h⟩ => by subst e; exact hs i x σ _ hi h p) hd⟩⟩
/-- [e for x, y in zip(xs, ys) if ..], its names at i and j -/
theorem wipe2 (σ : L2.St) (i j : Nat) (x y : Option V) (h : i ≠ j) : wipe (((wipe σ [i, j]).set i x).set j y) [i, j] = wipe σ [i, j] := by
  show ((((((σ.set j none).set i none).set i x).set j y).set j none).set i none) = (σ.set j none).set i none
  apply List.ext_getElem?
  intro k
  simp only [List.getElem?_set, List.length_set]
  grind
theorem lc_zip {i0 j0 : Nat} (hij : i0 ≠ j0) (Pv : Addr → Nat → List V → Hp → Prop) (hx : SqL K H a xs) (hy : SqL K H b ys) (h0 : ∀ D H', H D = none → Same H H' → H' D = some (.lst []) → Pv D 0 [] H')
    (hG : ∀ D, H D = none → ∀ i zs H', i ≤ min xs.length ys.length → H' D = some (.lst zs) → Pv D i zs H' → SqL K H' a xs ∧ SqL K H' b ys)
    (hs : ∀ D, H D = none → ∀ i x y zs H0 H', xs[i]? = some x → ys[i]? = some y → zs.length ≤ i → H0 D = some (.lst zs) → Pv D i zs H0 → Same H0 H' → tt (((wipe σ [i0, j0]).set i0 (some x)).set j0 (some y)) H' fun b H3 => if b = true then te (((wipe σ [i0, j0]).set i0 (some x)).set j0 (some y)) H3 fun y H4 => LcEnd D (Pv D) i y H4 else LcSkip D (Pv D) i H3)
    (hd : ∀ D, H D = none → ∀ zs H', zs.length ≤ min xs.length ys.length → H' D = some (.lst zs) → Pv D (min xs.length ys.length) zs H' → Q (.ref D) H') :
    ∃ p q us ws, [V.ref a, .ref b] = [.ref p, .ref q] ∧ SqL K H p us ∧ SqL K H q ws ∧ ∀ D, H D = none → WLc (Itz K p q) (gSeq K 2 (gCons (gName i0) (gCons (gName j0) gNil))) tt te [i0, j0] σ D H Q :=
  ⟨a, b, xs, ys, rfl, hx, hy, wlc_it (walk_zip rfl) Pv h0 hG (fun D hD i v zs H0 H' hi hl e p ⟨T, x, y, ev, nT, e2, h1, h2⟩ => by
    subst ev e2
    exact w_seqT (SqT.of upd_same) rfl (w_gCons (w_gName (w_gCons (w_gName (w_gNil ⟨wipe2 _ _ _ _ _ hij, hs D hD i x y zs H0 _ h1 h2 hl e p (Same.one nT)⟩)))))) hd⟩
end
/-! ### isinstance -/
section
variable {K : PySem.W.Frag} {H : Hp} {Q : VK} {x : V}
theorem call_isiA {X : Cx} {K : PySem.W.Frag} (hK : X.K = K) : CallR X (.builtin "isinstance") (rIsi K) := by
  subst hK
  exact call_isi
theorem pe_gS {X : Cx} {x z : Str} {pos : Pos} (hg : Gl X x) (hm : ∃ t, X.mg x = some (.str z t)) (hd : (x == ("__debug__" : Str)) = false := by decide) : PE X (.Name x pos) (tC (.str z)) := by
  obtain ⟨t, hm⟩ := hm
  exact pe_glob hg hm ⟨t, rfl⟩ hd
theorem pe_gI {X : Cx} {x : Str} {z : Int} {pos : Pos} (hg : Gl X x) (hm : ∃ t, X.mg x = some (.int z t)) (hd : (x == ("__debug__" : Str)) = false := by decide) : PE X (.Name x pos) (tC (.int z)) := by
  obtain ⟨t, hm⟩ := hm
  exact pe_glob hg hm ⟨t, rfl⟩ hd
theorem w_isi {T : String} {a : String} {b : Bool} (h : TyX K H x (.type a)) (e : kitB a T = some b) (k : Q (.bl b) H) : rIsi K [x, .ty T] H Q := ⟨x, .ty T, .type a, .type T, b, rfl, .ty T, h, kit_ty e, k⟩
theorem ty_int {n : Int} : TyX K H (.int n) (.type "int") := .base (.int n)
theorem ty_bl {n : Bool} : TyX K H (.bl n) (.type "bool") := .base (.bl n)
theorem ty_str {n : Str} : TyX K H (.str n) (.type "str") := .base (.str n)
theorem ty_non : TyX K H .non (.type "NoneType") := .base .non
theorem ty_lst {a : Addr} {xs : List V} (h : H a = some (.lst xs)) : TyX K H (.ref a) (.type "list") := .base (.lst h)
theorem ty_sqT {a : Addr} {xs : List V} (h : SqT K H a xs) : TyX K H (.ref a) (.type "tuple") := by
  rcases h with (h | ⟨o, h⟩) | ⟨o, its, n, e, c, _⟩
  · exact .base (.tup h)
  · exact .fTuple h
  · exact .kTuple e c
theorem ty_tup {a : Addr} {xs : List V} (h : H a = some (.tup xs)) : TyX K H (.ref a) (.type "tuple") := .base (.tup h)
theorem ty_dic {a : Addr} {xs : List (Key × V)} (h : H a = some (.dK xs)) : TyX K H (.ref a) (.type "dict") := .base (.dK h)
/-- isinstance with a written tuple of classes -/
def kitAnyB (a : String) : List String → Option Bool
  | [] => some false
  | T :: r => match kitB a T with
    | some true => some true
    | some false => kitAnyB a r
    | none => none
theorem kitAnyB_ok {a : String} : ∀ {Ts : List String} {b : Bool}, kitAnyB a Ts = some b → PySem.W.kitAny K (.type a) (Ts.map Value.type) = some b
  | [], b, h => by
    have : some false = some b := h
    rw [← this]; exact kitAny_nil
  | T :: r, b, h => by
    unfold kitAnyB at h
    cases e : kitB a T with
    | none => rw [e] at h; cases h
    | some c =>
      rw [e] at h
      cases c with
      | true =>
        have : some true = some b := h
        cases this
        exact kitAny_cons (kit_ty e) (fun z => nomatch z) (fun _ => rfl)
      | false => exact kitAny_cons (kit_ty e) (fun _ => kitAnyB_ok h) (fun z => nomatch z)
theorem paired_ty : ∀ Ts : List String, Paired ClsV (Ts.map V.ty) (Ts.map Value.type)
  | [] => .nil
  | T :: r => .cons (.ty T) (paired_ty r)
theorem call_isiTA {X : Cx} {K : PySem.W.Frag} (hK : X.K = K) : CallR X (.builtin "isinstance") (rIsiT K) := by
  subst hK
  exact call_isiT
theorem w_isiT {tp : Addr} {a : String} {b : Bool} (Ts : List String) (h1 : H tp = some (.tup (Ts.map V.ty))) (h : TyX K H x (.type a)) (e : kitAnyB a Ts = some b) (k : Q (.bl b) H) : rIsiT K [x, .ref tp] H Q :=
  ⟨x, tp, _, .type a, _, b, rfl, h1, paired_ty Ts, h, kitAnyB_ok e, k⟩
/-- tuple(xs), list(xs) -/
def rTupOf (K : PySem.W.Frag) : List V → Hp → VK → Prop := fun xs H Q => ∃ p ys, xs = [.ref p] ∧ ((SqL K H p ys ∧ NewO (.tup ys) H Q) ∨ (SqT K H p ys ∧ Q (.ref p) H))
theorem call_tupA {X : Cx} {K : PySem.W.Frag} (hK : X.K = K) : CallR X (.type "tuple") (rTupOf K) := by
  subst hK
  exact call_tuple_of
theorem w_tupL {p : Addr} {ys : List V} (h : SqL K H p ys) (k : NewO (.tup ys) H Q) : rTupOf K [.ref p] H Q := ⟨p, ys, rfl, .inl ⟨h, k⟩⟩
theorem w_tupT {p : Addr} {ys : List V} (h : SqT K H p ys) (k : Q (.ref p) H) : rTupOf K [.ref p] H Q := ⟨p, ys, rfl, .inr ⟨h, k⟩⟩
def rListOf (K : PySem.W.Frag) : List V → Hp → VK → Prop := fun xs H Q => ∃ p ys, xs = [.ref p] ∧ (SqL K H p ys ∨ SqT K H p ys) ∧ NewO (.lst ys) H Q
theorem call_listA {X : Cx} {K : PySem.W.Frag} (hK : X.K = K) : CallR X (.type "list") (rListOf K) := by
  subst hK
  exact call_list_of
theorem w_listL {p : Addr} {ys : List V} (h : SqL K H p ys) (k : NewO (.lst ys) H Q) : rListOf K [.ref p] H Q := ⟨p, ys, rfl, .inl h, k⟩
theorem w_listT {p : Addr} {ys : List V} (h : SqT K H p ys) (k : NewO (.lst ys) H Q) : rListOf K [.ref p] H Q := ⟨p, ys, rfl, .inr h, k⟩
theorem w_slT {σ : L2.St} {lo hi : Option Int} {a : Addr} {xs : List V} (h : SqT K H a xs) (n : ¬ (HT.sIx xs.length 0 lo = 0 ∧ HT.sIx xs.length xs.length hi = xs.length)) (k : NewO (.tup (cutV xs lo hi)) H Q) : rSlAny K (.ref a) lo hi H Q :=
  .inr (.inr ⟨a, xs, rfl, h, fun z => (n z).elim, fun _ => k⟩)
/-- t[1:] -/
theorem cut1 (x : V) (xs : List V) : cutV (x :: xs) (some 1) none = xs := by
  unfold cutV
  have e : HT.sIx (x :: xs).length 0 (some 1) = 1 := by
    show (if (1 : Int) < 0 then ((1 : Int) + ((x :: xs).length : Int)).toNat else min (1 : Int).toNat (x :: xs).length) = 1
    rw [if_neg (by decide), List.length_cons]
    show min 1 (xs.length + 1) = 1
    omega
  rw [e, HT.sIx_none, List.drop_one, List.tail_cons, List.take_of_length_le (by rw [List.length_cons]; omega)]
theorem w_slT1 {σ : L2.St} {a : Addr} {x : V} {xs : List V} (h : SqT K H a (x :: xs)) (k : NewO (.tup xs) H Q) : rSlAny K (.ref a) (some 1) none H Q := w_slT (σ := σ) h (by
  intro ⟨z, _⟩
  have e : HT.sIx (x :: xs).length 0 (some 1) = 1 := by
    show (if (1 : Int) < 0 then ((1 : Int) + ((x :: xs).length : Int)).toNat else min (1 : Int).toNat (x :: xs).length) = 1
    rw [if_neg (by decide), List.length_cons]
    show min 1 (xs.length + 1) = 1
    omega
  rw [e] at z
  cases z) (by rw [cut1]; exact k)
/-- xs[::-1] -/
theorem w_revL {σ : L2.St} {te : TE} (k : te σ H fun x H1 => ∃ a xs, x = .ref a ∧ SqL K H1 a xs ∧ NewO (.lst xs.reverse) H1 Q) : tRevL K te σ H Q := k
theorem w_ref2 {a : Addr} {xs : List V} {R : Addr → List V → Prop} (k : R a xs) : ∃ b ys, V.ref a = .ref b ∧ R b ys := ⟨a, xs, rfl, k⟩
/-- dicts: displays, look-ups -/
theorem w_disp {σ : L2.St} {trs : List (TE × TE)} (k : ∀ p H', H p = none → Same H H' → H' p = some (.dK []) → tPairs trs σ H' fun ps H2 => H2 p = some (.dK []) ∧ ∃ kvs : List (Key × V), ps = kvs.map (fun kv => (kV kv.1, kv.2)) ∧ kvs.length ≤ 15 ∧ ChgO p (.dK (mergeK [] kvs)) H2 (Q (.ref p))) : tDisp trs σ H Q :=
  fun p hp => k p _ hp (Same.one hp) upd_same
theorem w_pairN {σ : L2.St} {R : List (V × V) → Hp → Prop} (k : R [] H) : tPairs [] σ H R := k
theorem w_pairC {σ : L2.St} {tk tv : TE} {r : List (TE × TE)} {R : List (V × V) → Hp → Prop} (k : tk σ H fun x H1 => tv σ H1 fun y H2 => tPairs r σ H2 fun ps H3 => R ((x, y) :: ps) H3) : tPairs ((tk, tv) :: r) σ H R := k
theorem w_dget {σ : L2.St} {td ty : TE} (k : td σ H fun x H1 => ty σ H1 fun y H2 => ∃ a v, x = .ref a ∧ DGet H2 a y (some v) ∧ Q v H2) : tDGet td ty σ H Q := k
theorem w_dgotS {a : Addr} {kvs : List (Key × V)} {z : Str} {v : V} {R : V → Prop} (h : H a = some (.dK kvs)) (e : valV kvs (.inr z) = some v) (k : R v) : ∃ b v, V.ref a = .ref b ∧ DGet H b (.str z) (some v) ∧ R v := ⟨a, v, rfl, by rw [← e]; exact DGet.k (k := .inr z) h, k⟩
theorem w_dgotI {a : Addr} {kvs : List (Key × V)} {z : Int} {v : V} {R : V → Prop} (h : H a = some (.dK kvs)) (e : valV kvs (.inl z) = some v) (k : R v) : ∃ b v, V.ref a = .ref b ∧ DGet H b (.int z) (some v) ∧ R v := ⟨a, v, rfl, by rw [← e]; exact DGet.k (k := .inl z) h, k⟩
/-- texts in lists, and their == -/
theorem dpAll_strs : ∀ ns : List Str, DpAll K H (ns.map V.str) (ns.map PyData.str)
  | [] => .nil
  | n :: ns => .cons (.str n) (dpAll_strs ns)
theorem dp_strs {a : Addr} {ns : List Str} (h : SqL K H a (ns.map V.str)) : Dp K H (.ref a) (.list (ns.map PyData.str)) := .lst h (dpAll_strs ns)
theorem cleanAll_strs : ∀ ns : List Str, (ns.all PyData.strOk) = true → cleanAll (ns.map PyData.str) = true
  | [], _ => by simp [cleanAll]
  | n :: ns, h => by
    rw [List.all_cons, Bool.and_eq_true] at h
    rw [List.map_cons, cleanAll, cleanAll_strs ns h.2, clean, h.1]; rfl
theorem depthAll_strs : ∀ ns : List Str, PyData.depthAll (ns.map PyData.str) = 0
  | [] => by simp [PyData.depthAll]
  | n :: ns => by rw [List.map_cons, PyData.depthAll, depthAll_strs ns, PyData.depth]; rfl
theorem cmp_strs {ns : List Str} (h : (ns.all PyData.strOk) = true) : Cmp (.list (ns.map PyData.str)) := ⟨by rw [clean]; exact cleanAll_strs ns h, by rw [PyData.depth, depthAll_strs]; decide⟩
theorem map_str_inj {ns ms : List Str} : PyData.list (ns.map PyData.str) = .list (ms.map PyData.str) ↔ ns = ms := by
  constructor
  · intro h
    have h2 : ns.map PyData.str = ms.map PyData.str := by injection h
    exact (List.map_inj_right (f := PyData.str) (fun x y e => by injection e)).mp h2
  · intro h; rw [h]
theorem w_eqSL {p q : Addr} {ns ms : List Str} (h1 : SqL K H p (ns.map V.str)) (h2 : SqL K H q (ms.map V.str)) (o1 : (ns.all PyData.strOk) = true) (o2 : (ms.all PyData.strOk) = true) (k : Q (.bl (decide (ns = ms))) H) : rEqA K (.ref p) (.ref q) H Q :=
  w_eqP (dp_strs h1) (dp_strs h2) (cmp_strs o1) (cmp_strs o2) fun b hb => by
    rw [map_str_inj] at hb
    rw [show b = decide (ns = ms) by rw [Bool.eq_iff_iff, hb, decide_eq_true_eq]]
    exact k
theorem w_neSL {p q : Addr} {ns ms : List Str} (h1 : SqL K H p (ns.map V.str)) (h2 : SqL K H q (ms.map V.str)) (o1 : (ns.all PyData.strOk) = true) (o2 : (ms.all PyData.strOk) = true) (k : Q (.bl (!decide (ns = ms))) H) : rNeA K (.ref p) (.ref q) H Q :=
  w_neP (dp_strs h1) (dp_strs h2) (cmp_strs o1) (cmp_strs o2) fun b hb => by
    rw [ne_eq, map_str_inj] at hb
    rw [show b = !decide (ns = ms) by rw [Bool.eq_iff_iff, hb]; simp]
    exact k
/-- a text cut by another one -/
def rSplit : V → List V → Hp → VK → Prop := fun x xs H Q => ∃ a b, x = .str a ∧ xs = [.str b] ∧ (b.length == 0) = false ∧ a.length + 2 ≤ sizeLine ∧ rNewStrs (Txt.split a b) H Q
theorem mt_splitA {X : Cx} : MtR X "str.split" rSplit := mt_split
theorem w_split {a b : Str} {ys : List Str} (e : Txt.split a b = ys) (hb : (b.length == 0) = false) (ha : a.length + 2 ≤ sizeLine) (k : NewO (.lst (ys.map V.str)) H Q) : rSplit (.str a) [.str b] H Q := ⟨a, b, rfl, rfl, hb, ha, by rw [e]; exact k⟩
end

/-! ### what no tuple loses -/
def TS (H H' : Hp) : Prop := ∀ b xs, (H b = some (.tup xs) → H' b = some (.tup xs)) ∧ ∀ u, H b = some (.frz u (.tup xs)) → H' b = some (.frz u (.tup xs))
theorem TS.of {H H' : Hp} (e : Same H H') : TS H H' := fun b _ => ⟨e b _, fun _ => e b _⟩
theorem TS.butL {s : Addr} {H H' : Hp} {ys : List V} (e : But s H H') (t : H s = some (.lst ys)) : TS H H' := fun b _ => ⟨fun h => e b _ (ne_of h t (by intro q; cases q)) h, fun _ h => e b _ (ne_of h t (by intro q; cases q)) h⟩
theorem TS.butS {s : Addr} {H H' : Hp} (e : But s H H') (t : Stm H s) : TS H H' := by
  obtain ⟨_, _, _, t⟩ := t
  exact TS.butL e t
theorem TS.butI {s C dx : Addr} {fs : List (Str × V)} {H H' : Hp} (e : But s H H') (t : H s = some (.ins C dx fs)) : TS H H' := fun b _ => ⟨fun h => e b _ (ne_of h t (by intro q; cases q)) h, fun _ h => e b _ (ne_of h t (by intro q; cases q)) h⟩
theorem TS.trans {H H1 H2 : Hp} (a : TS H H1) (b : TS H1 H2) : TS H H2 := fun c xs => ⟨fun h => (b c xs).1 ((a c xs).1 h), fun u h => (b c xs).2 u ((a c xs).2 u h)⟩
theorem TS.refl (H : Hp) : TS H H := fun _ _ => ⟨fun h => h, fun _ h => h⟩
theorem TS.sqT {K : PySem.W.Frag} {H H' : Hp} {a : Addr} {xs : List V} (e : TS H H') (h : SqT K H a xs) : SqT K H' a xs := by
  rcases h with (h | ⟨o, h⟩) | h
  · exact .inl (.inl ((e a xs).1 h))
  · exact .inl (.inr ⟨o, (e a xs).2 o h⟩)
  · exact .inr h
mutual
/-- tuples all the way -/
def tupD : PyData → Bool
  | .none => true
  | .int _ => true
  | .str _ => true
  | .bool _ => true
  | .list _ => false
  | .tuple xs => tupAll xs
  | .dict _ => false
def tupAll : List PyData → Bool
  | [] => true
  | x :: xs => tupD x && tupAll xs
end
mutual
theorem dp_ts {K : PySem.W.Frag} {H H' : Hp} (e : TS H H') : ∀ (d : PyData) (v : V), tupD d = true → Dp K H v d → Dp K H' v d
  | .none, _, _, h => by cases h; exact .non
  | .int _, _, _, h => by cases h; exact .int _
  | .str _, _, _, h => by cases h; exact .str _
  | .bool _, _, _, h => by cases h; exact .bl _
  | .list _, _, t, _ => by simp [tupD] at t
  | .tuple ds, _, t, h => by
    cases h with
    | tup hs ha => exact .tup (e.sqT hs) (dpAll_ts e ds _ (by simpa [tupD] using t) ha)
  | .dict _, _, t, _ => by simp [tupD] at t
theorem dpAll_ts {K : PySem.W.Frag} {H H' : Hp} (e : TS H H') : ∀ (ds : List PyData) (vs : List V), tupAll ds = true → DpAll K H vs ds → DpAll K H' vs ds
  | [], _, _, h => by cases h; exact .nil
  | d :: ds, _, t, h => by
    rw [tupAll, Bool.and_eq_true] at t
    cases h with
    | cons h1 h2 => exact .cons (dp_ts e d _ t.1 h1) (dpAll_ts e ds _ t.2 h2)
end
section
variable {K : PySem.W.Frag} {H : Hp}
theorem dp_tup {v : V} {ds : List PyData} (h : Dp K H v (.tuple ds)) : ∃ a xs, v = .ref a ∧ SqT K H a xs ∧ DpAll K H xs ds := by
  cases h with
  | tup hs ha => exact ⟨_, _, rfl, hs, ha⟩
theorem dp_str {v : V} {x : Str} (h : Dp K H v (.str x)) : v = .str x := by cases h; rfl
theorem dp_int {v : V} {x : Int} (h : Dp K H v (.int x)) : v = .int x := by cases h; rfl
theorem dpa_nil {vs : List V} (h : DpAll K H vs []) : vs = [] := by cases h; rfl
theorem dpa_cons {vs : List V} {d : PyData} {ds : List PyData} (h : DpAll K H vs (d :: ds)) : ∃ v r, vs = v :: r ∧ Dp K H v d ∧ DpAll K H r ds := by
  cases h with
  | cons a b => exact ⟨_, _, rfl, a, b⟩
theorem dpa_len : ∀ {ds : List PyData} {vs : List V}, DpAll K H vs ds → vs.length = ds.length
  | [], _, h => by cases h; rfl
  | d :: ds, _, h => by
    cases h with
    | cons a b => rw [List.length_cons, List.length_cons, dpa_len b]
theorem dpa_app : ∀ {ds es : List PyData} {vs us : List V}, DpAll K H vs ds → DpAll K H us es → DpAll K H (vs ++ us) (ds ++ es)
  | [], _, _, _, h, h' => by cases h; exact h'
  | d :: ds, _, _, _, h, h' => by
    cases h with
    | cons a b => exact .cons a (dpa_app b h')
theorem dpa_one {v : V} {d : PyData} (h : Dp K H v d) : DpAll K H [v] [d] := .cons h .nil
theorem dpa_at : ∀ {ds : List PyData} {vs : List V} {i : Nat} {d : PyData}, DpAll K H vs ds → ds[i]? = some d → ∃ v, vs[i]? = some v ∧ Dp K H v d
  | [], _, i, _, _, e => by simp at e
  | d :: ds, _, 0, _, h, e => by
    cases h with
    | cons a b => simp at e; subst e; exact ⟨_, rfl, a⟩
  | d :: ds, _, i + 1, _, h, e => by
    cases h with
    | cons a b =>
      have q := dpa_at (ds := ds) (i := i) b (by simpa using e)
      exact q
theorem dpa_at' : ∀ {ds : List PyData} {vs : List V} {i : Nat} {v : V}, DpAll K H vs ds → vs[i]? = some v → ∃ d, ds[i]? = some d ∧ Dp K H v d
  | [], _, i, _, h, e => by cases h; simp at e
  | d :: ds, _, 0, _, h, e => by
    cases h with
    | cons a b => simp at e; subst e; exact ⟨_, rfl, a⟩
  | d :: ds, _, i + 1, _, h, e => by
    cases h with
    | cons a b =>
      have q := dpa_at' (ds := ds) (i := i) b (by simpa using e)
      exact q
theorem tupAll_app : ∀ (a b : List PyData), tupAll (a ++ b) = (tupAll a && tupAll b)
  | [], _ => by simp [tupAll]
  | x :: a, b => by rw [List.cons_append, tupAll, tupAll, tupAll_app a b, Bool.and_assoc]
theorem cleanAll_app : ∀ (a b : List PyData), cleanAll (a ++ b) = (cleanAll a && cleanAll b)
  | [], _ => by simp [cleanAll]
  | x :: a, b => by rw [List.cons_append, cleanAll, cleanAll, cleanAll_app a b, Bool.and_assoc]
end

/-! ### places -/
theorem atI_of {α : Type} {xs : List α} {n : Int} {v : α} (h0 : 0 ≤ n) (h : xs[n.toNat]? = some v) : atI xs n = some v := by
  have e : ((n.toNat : Nat) : Int) = n := Int.toNat_of_nonneg h0
  have q := atI_nat h
  rw [e] at q
  exact q
theorem at0 {α : Type} {a : α} {xs : List α} : atI (a :: xs) 0 = some a := atI_of (Int.le_refl 0) rfl
theorem at1 {α : Type} {a b : α} {xs : List α} : atI (a :: b :: xs) 1 = some b := atI_of (by decide) rfl
theorem at2 {α : Type} {a b c : α} {xs : List α} : atI (a :: b :: c :: xs) 2 = some c := atI_of (by decide) rfl
theorem atI_some {α : Type} {xs : List α} {n : Int} (h0 : 0 ≤ n) (h : n < xs.length) : ∃ v, atI xs n = some v ∧ v ∈ xs ∧ xs[n.toNat]? = some v := by
  have hl : n.toNat < xs.length := by omega
  refine ⟨xs[n.toNat], atI_of h0 (List.getElem?_eq_getElem hl), List.getElem_mem hl, List.getElem?_eq_getElem hl⟩

theorem cdw {i j : Int} (h : 0 < j) (h2 : j < 2 ^ 200) : CDivW i j := wide_div (b := 200) h (by omega) (by decide) (by decide)
/-! ### defs by names -/
/-- the def at f keeps the promise sp -/
def FnA (P : Program) (w : World) (K : PySem.W.Frag) (mg : Str → Option Value) (f : Addr) (k : Nat) (ps : List Str) (sp : Sp) : Prop :=
  ∃ fd, (∀ base, FnOk P w K mg base CX0 k f fd ps sp) ∧ Binds K fd ps [] ∧ ∀ (s : Shared) (us : List Value), us.length = ps.length → BindsTo s fd ⟨us, []⟩ (ps.zip us)
/-- the def of the name x keeps the promise sp -/
structure Fn (P : Program) (w : World) (K : PySem.W.Frag) (mg : Str → Option Value) (x : Str) (k : Nat) (ps : List Str) (sp : Sp) : Prop where
  ex : FnA P w K mg (He.ga K x) k ps sp
  gl : mg x = some (.ref (He.ga K x))
  kp : PySem.W.keepIn K (.ref (He.ga K x)) = true
section
variable {X : Cx} {k : Nat} {x : Str} {ps : List Str} {sp : Sp} {p pos : Pos} {e : Expr} {es : List Expr} {t : TA}
theorem pe_fn (F : Fn X.prog X.w X.K X.mg x k ps sp) (hr : Room k X.A) (hg : Gl X x) (ha : PA X (e :: es) t)
    (hdb : (x == ("__debug__" : Str)) = false := by decide) (he : starEach (e :: es) X.env = (false, eval e X.env) :: starEach es X.env := by rfl) (hpl : (backTo pos (starEach es X.env)).any (·.1) = false := by rfl) :
    PE X (.Call (.Name x p) (e :: es) [] pos) (tCall sp [] E0 t) := by
  obtain ⟨fd, G, b, _⟩ := F.ex
  exact pe_call (G X.base) hr hg F.gl F.kp b .nil pass0 ha hdb he hpl
theorem pe_fn0 (F : Fn X.prog X.w X.K X.mg x k ps sp) (hr : Room k X.A) (hg : Gl X x) (hdb : (x == ("__debug__" : Str)) = false := by decide) :
    PE X (.Call (.Name x p) [] [] pos) (tCall sp [] E0 tNil) := by
  obtain ⟨fd, G, b, _⟩ := F.ex
  exact pe_call0 (G X.base) hr hg F.gl F.kp b .nil pass0 hdb
end
/-- a def's data as the head tells it -/
theorem FnA.mk' {P : Program} {w : World} {K : PySem.W.Frag} {mg : Str → Option Value} {x q : Str} {k : Nat} {N ps : List Str} {sp : Sp} {args : Arguments} {body : List Stmt} {sc : Scope} {f : Addr} {fd : FuncData}
    (F : FunD K x q args body sc [] [] f fd) (S : FnScope N ps sc) (len : ∀ vs H Q E, sp vs H Q E → vs.length = ps.length)
    (hb : ∀ (kV doc pm : Value) (an : Option Addr) (cdv ct : Value) (us : List Value), us.length = ps.length → bindArgs (PySem.W.fnOf x q args body sc .none kV doc pm an cdv ct) ⟨us, []⟩ = pure (ps.zip us))
    (hbody : ∀ (base : Heap) (cdv : Value) (A : Around) (outer : List Env) (s : Shared) (H : Hp) (vs : List V) (Q : VK) (E : XK), Room k (A.deeper (envOfC q sc s.heap.objs.size f cdv)) → sp vs H Q E →
      ∃ t, PSs (cxOf CX0 P w K mg base N q sc f cdv A outer s H E).nox body t ∧ t ⟨fun _ H' => Q .non H', Q, fun _ _ => False, fun _ _ => False⟩ (start N vs) H) : FnA P w K mg f (k + 1) ps sp :=
  ⟨fd, fun base => F.ok S len fun cdv A outer s H vs Q E hr h => by
      obtain ⟨t, d, q⟩ := hbody base cdv A outer s H vs Q E hr h
      exact ⟨t, d.nox, q⟩, F.bindsN hb, F.bindsA hb⟩
theorem Fn.mk' {P : Program} {w : World} {K : PySem.W.Frag} {mg : Str → Option Value} {x : Str} {k : Nat} {N ps : List Str} {sp : Sp} {args : Arguments} {body : List Stmt} {sc : Scope} {fd : FuncData}
    (F : FunD K x x args body sc [] [] (He.ga K x) fd) (gl : mg x = some (.ref (He.ga K x))) (S : FnScope N ps sc) (len : ∀ vs H Q E, sp vs H Q E → vs.length = ps.length)
    (hb : ∀ (kV doc pm : Value) (an : Option Addr) (cdv ct : Value) (us : List Value), us.length = ps.length → bindArgs (PySem.W.fnOf x x args body sc .none kV doc pm an cdv ct) ⟨us, []⟩ = pure (ps.zip us))
    (hbody : ∀ (base : Heap) (cdv : Value) (A : Around) (outer : List Env) (s : Shared) (H : Hp) (vs : List V) (Q : VK) (E : XK), Room k (A.deeper (envOfC x sc s.heap.objs.size (He.ga K x) cdv)) → sp vs H Q E →
      ∃ t, PSs (cxOf CX0 P w K mg base N x sc (He.ga K x) cdv A outer s H E).nox body t ∧ t ⟨fun _ H' => Q .non H', Q, fun _ _ => False, fun _ _ => False⟩ (start N vs) H) : Fn P w K mg x (k + 1) ps sp :=
  ⟨FnA.mk' F S len hb hbody, gl, F.kp⟩
/-! ### classes of the text -/
def tMet (C : Addr) (m : Str) (sp : Sp) (to : TE) (t : TA) : TE := fun σ H Q => to σ H fun x H1 => ∃ a dx fs, x = .ref a ∧ H1 a = some (.ins C dx fs) ∧ fs.lookup m = none ∧ t σ H1 fun vs H2 => sp (x :: vs) H2 Q E0
def tMkI (C : Addr) (sp : Sp) (t : TA) : TE := fun σ H Q => t σ H fun vs H1 => ∀ x dx, H1 x = none → H1 dx = none → dx ≠ x → sp (.ref x :: vs) (upd (upd H1 dx (.own x)) x (.ins C dx [])) (fun v H2 => v = .non ∧ Q (.ref x) H2) E0
theorem tMet_eq (C : Addr) (m : Str) (sp : Sp) (to : TE) (t : TA) : tMeth C m sp [] E0 to t = tMet C m sp to t := by
  unfold tMeth tMet
  simp only [List.append_nil]
theorem tMkI_eq (C : Addr) (sp : Sp) (t : TA) : tMake C sp [] E0 t = tMkI C sp t := by
  unfold tMake tMkI
  simp only [List.append_nil]
theorem PE.or {X : Cx} {e : Expr} {t u : TE} (h : PE X e t) (h' : PE X e u) : PE X e (fun σ H Q => t σ H Q ∨ u σ H Q) := ⟨fun pins s σ H Q I q => by
  rcases q with q | q
  · exact h.run pins s σ H Q I q
  · exact h'.run pins s σ H Q I q⟩
section
variable {X : Cx} {K : PySem.W.Frag} {k : Nat} {m x : Str} {ps : List Str} {sp : Sp} {p pos apos : Pos} {o e : Expr} {es : List Expr} {to : TE} {t : TA} {C : Addr}
theorem pe_met {pl : Sem Bool} (F : FnA X.prog X.w X.K X.mg (He.ma K C m) k ps sp) (hK : X.K = K) (cl : Cls K C) (me : Meth K C m (He.ma K C m)) (hr : Room k X.A) (he : PE X o to) (ha : PA X (e :: es) t)
    (hst : starEach (e :: es) X.env = (false, eval e X.env) :: starEach es X.env := by rfl) (hpl : (backTo pos (starEach es X.env)).any (·.1) = false := by rfl)
    (ht : eval (.Call (.Attribute o m apos) (e :: es) [] pos) X.env = (do
      let ov ← eval o X.env
      standAt apos.atName
      let (f, first) ← holding [ov] (getMethod ov m pl)
      callWith pos f first (backTo pos (starEach (e :: es) X.env)) (backToKw pos (keywordEach [] X.env))) := by rfl) : PE X (.Call (.Attribute o m apos) (e :: es) [] pos) (tMet C m sp to t) := by
  subst hK
  obtain ⟨fd, G, b, _⟩ := F
  rw [← tMet_eq]
  exact pe_meth he cl me (G X.base) hr b .nil pass0 ha hst hpl ht
theorem pe_met0 {pl : Sem Bool} (F : FnA X.prog X.w X.K X.mg (He.ma K C m) k ps sp) (hK : X.K = K) (cl : Cls K C) (me : Meth K C m (He.ma K C m)) (hr : Room k X.A) (he : PE X o to)
    (ht : eval (.Call (.Attribute o m apos) [] [] pos) X.env = (do
      let ov ← eval o X.env
      standAt apos.atName
      let (f, first) ← holding [ov] (getMethod ov m pl)
      callWith pos f first (backTo pos (starEach [] X.env)) (backToKw pos (keywordEach [] X.env))) := by rfl) : PE X (.Call (.Attribute o m apos) [] [] pos) (tMet C m sp to tNil) := by
  subst hK
  obtain ⟨fd, G, b, _⟩ := F
  rw [← tMet_eq]
  exact pe_meth0 he cl me (G X.base) hr b .nil pass0 ht
theorem pe_mkI (F : FnA X.prog X.w X.K X.mg (He.ma K C "__init__") k ps sp) (hK : X.K = K) (M : Mk K C (He.ma K C "__init__")) (hm : X.mg x = some (.ref C)) (hr : Room (k + 1) X.A) (hg : Gl X x) (ha : PA X (e :: es) t)
    (hdb : (x == ("__debug__" : Str)) = false := by decide) (he : starEach (e :: es) X.env = (false, eval e X.env) :: starEach es X.env := by rfl) (hpl : (backTo pos (starEach es X.env)).any (·.1) = false := by rfl) :
    PE X (.Call (.Name x p) (e :: es) [] pos) (tMkI C sp t) := by
  subst hK
  obtain ⟨fd, G, b, _⟩ := F
  rw [← tMkI_eq]
  exact pe_make M (G X.base) hr hg hm b .nil pass0 ha hdb he hpl
theorem pe_mkI0 (F : FnA X.prog X.w X.K X.mg (He.ma K C "__init__") k ps sp) (hK : X.K = K) (M : Mk K C (He.ma K C "__init__")) (hm : X.mg x = some (.ref C)) (hr : Room (k + 1) X.A) (hg : Gl X x)
    (hdb : (x == ("__debug__" : Str)) = false := by decide) : PE X (.Call (.Name x p) [] [] pos) (tMkI C sp tNil) := by
  subst hK
  obtain ⟨fd, G, b, _⟩ := F
  rw [← tMkI_eq]
  exact pe_make0 M (G X.base) hr hg hm b .nil pass0 hdb
theorem pe_fldK {f : Str} (hK : X.K = K) (he : PE X o to) (hb : attributeBase o f X.env (eval o X.env) = eval o X.env := by rfl) : PE X (.Attribute o f pos) (tFld K to f) := by
  subst hK
  exact pe_fld he hb
end
section
variable {K : PySem.W.Frag} {σ : L2.St} {H : Hp} {Q : VK} {p C dx : Addr} {fs : List (Str × V)} {m f : Str} {v y : V} {sp : Sp} {to tv : TE} {t : TA} {nx : L2.St → Hp → Prop} {rt : VK} {bk ct : L2.St → Hp → Prop}
theorem w_met (k : to σ H fun x H1 => ∃ a dx fs, x = .ref a ∧ H1 a = some (.ins C dx fs) ∧ fs.lookup m = none ∧ t σ H1 fun vs H2 => sp (x :: vs) H2 Q E0) : tMet C m sp to t σ H Q := k
theorem w_metAt {R : Prop} (h : H p = some (.ins C dx fs)) (l : fs.lookup m = none) (k : R) : ∃ a dx fs, V.ref p = .ref a ∧ H a = some (.ins C dx fs) ∧ fs.lookup m = none ∧ R := ⟨p, dx, fs, rfl, h, l, k⟩
def NewI (C : Addr) (sp : Sp) (vs : List V) (H : Hp) (Q : VK) : Prop := ∀ x dx, H x = none → H dx = none → dx ≠ x → sp (.ref x :: vs) (upd (upd H dx (.own x)) x (.ins C dx [])) (fun v H2 => v = .non ∧ Q (.ref x) H2) E0
theorem w_mkI (k : t σ H fun vs H1 => NewI C sp vs H1 Q) : tMkI C sp t σ H Q := k
theorem w_newI {vs : List V} (k : ∀ x dx H', H x = none → Same H H' → H' x = some (.ins C dx []) → sp (.ref x :: vs) H' (fun v H2 => v = .non ∧ Q (.ref x) H2) E0) : NewI C sp vs H Q := fun x dx hx hdx ne =>
  k x dx _ hx (fun b o e => by
    rw [upd_ne (ne_of_none e hx), upd_ne (ne_of_none e hdx)]
    exact e) upd_same
theorem w_fld (k : to σ H fun x H1 => ∃ a C dx fs v, x = .ref a ∧ H1 a = some (.ins C dx fs) ∧ Cls K C ∧ NoAttr K C f ∧ fs.lookup f = some v ∧ Q v H1) : tFld K to f σ H Q := k
theorem w_fldAt {R : V → Prop} (h : H p = some (.ins C dx fs)) (cl : Cls K C) (na : NoAttr K C f) (l : fs.lookup f = some v) (k : R v) : ∃ a C dx fs v, V.ref p = .ref a ∧ H a = some (.ins C dx fs) ∧ Cls K C ∧ NoAttr K C f ∧ fs.lookup f = some v ∧ R v := ⟨p, C, dx, fs, v, rfl, h, cl, na, l, k⟩
theorem w_sfld (k : tv σ H fun y H1 => to σ H1 fun x H2 => ∃ a C dx fs, x = .ref a ∧ H2 a = some (.ins C dx fs) ∧ Cls K C ∧ NoAttr K C f ∧ fs.length < 1000 ∧ ChgO a (.ins C dx (putF f y fs)) H2 (nx σ)) : sFld K to tv f ⟨nx, rt, bk, ct⟩ σ H := k
theorem w_sfldAt {S : Hp → Prop} {gs : List (Str × V)} (h : H p = some (.ins C dx fs)) (cl : Cls K C) (na : NoAttr K C f) (hl : fs.length < 1000) (e : putF f y fs = gs) (k : ChgO p (.ins C dx gs) H S) :
    ∃ a C dx fs, V.ref p = .ref a ∧ H a = some (.ins C dx fs) ∧ Cls K C ∧ NoAttr K C f ∧ fs.length < 1000 ∧ ChgO a (.ins C dx (putF f y fs)) H S := ⟨p, C, dx, fs, rfl, h, cl, na, hl, by rw [e]; exact k⟩
end

end J
namespace J
open PySem PySem.Spec PyProof.Rows L2
--plain
/-! ### exceptions as values: made by an own class with its own __init__; RowsError.__init__(self, ..) of an own class -/
section
open PySem PySem.Spec PyProof.Rows
namespace EXV
/-- what C's __init__ answers: None; the thing itself goes on -/
def mkQ (a : Addr) (Q : VK) : VK := fun v H2 => v = .non ∧ Q (.ref a) H2
/-- C(e, ..) as a value: the thing stays as it is left by C's __init__ -/
def tMkV (C : Addr) (sp : Sp) (ta : TA) : TE := fun σ H Q => ta σ H fun vs H1 => vs.length ≤ 1000 ∧ ∀ a, H1 a = none → sp (.ref a :: vs) (upd H1 a (exo a C none)) (mkQ a Q) (fun _ _ _ => False)
theorem w_mkV {C : Addr} {sp : Sp} {ta : TA} {σ : L2.St} {H : Hp} {Q : VK} (k : ta σ H fun vs H1 => vs.length ≤ 1000 ∧ ∀ a, H1 a = none → sp (.ref a :: vs) (upd H1 a (exo a C none)) (mkQ a Q) (fun _ _ _ => False)) : tMkV C sp ta σ H Q := k
section
variable {X : Cx} {e : Expr} {es : List Expr} {ta : TA} {p p1 p2 pos : Pos}
theorem run_mkV {CX : CXT} {C fI : Addr} {k : Nat} {fd : FuncData} {ps : List Str} {sp : Sp} {pins : List (Addr × Obj)} {σ : L2.St} {H1 : Hp} {s1 : Shared} {Q : VK} {vs : List V} {us : List Value} (T : OexC X.K C) (iC : PySem.W.findIn X.K (.ref C) "__init__" = some (some (.ref fI))) (tI : PySem.W.typeIn X.K (.ref fI) = some (.type "function"))
    (F1 : FnOk X.prog X.w X.K X.mg X.base CX k fI fd ps sp) (hr : Room (k + 1) X.A) (hb : Binds X.K fd ps []) (hx : Passes CX X (fun _ _ _ => False)) (I1 : Inv X pins σ H1 s1) (r1 : Vals vs us) (hz : vs.length ≤ 1000)
    (q1 : ∀ a, H1 a = none → sp (.ref a :: vs) (upd H1 a (exo a C none)) (mkQ a Q) (fun _ _ _ => False)) : wpAny (model X.prog X.w) X.A (call (.ref C) us) (EP X pins σ Q) X.xe s1 := by
  obtain ⟨nm, q, N, bs, bm, sn, sub, ab, col, dd, k0, k1, k2, k3, k5, hC, hbm⟩ := T.cls
  obtain ⟨hp, g, dr, tk, os⟩ := s1
  have new : hp.objs.size ≤ hp.objs.size + 1 := Nat.le_succ _
  have hq := q1 (hp.objs.size + 1) (I1.hok.fresh new)
  have keep : ∀ b o, hp.get? b = some o → ((hp.push (PySem.W.kdv_tup us)).push (PySem.HandSPX.excO C hp.objs.size)).get? b = some o := fun b o z => Heap.get?_push_of_some _ (Heap.get?_push_of_some _ z)
  have at1 : ((hp.push (PySem.W.kdv_tup us)).push (PySem.HandSPX.excO C hp.objs.size)).get? (hp.objs.size + 1) = some (PySem.HandSPX.excO C hp.objs.size) := by heap_get
  have I2 : Inv X pins σ (upd H1 (hp.objs.size + 1) (exo (hp.objs.size + 1) C none)) ⟨(hp.push (PySem.W.kdv_tup us)).push (PySem.HandSPX.excO C hp.objs.size), g, dr, tk, os⟩ :=
    I1.laid (t' := tk) (a := hp.objs.size + 1) (o := exo (hp.objs.size + 1) C none) (h' := (hp.push (PySem.W.kdv_tup us)).push (PySem.HandSPX.excO C hp.objs.size)) keep new (exo_ok at1)
  have r2 : Vals (V.ref (hp.objs.size + 1) :: vs) (Value.ref (hp.objs.size + 1) :: us) := .cons rfl r1
  have hl : (Value.ref (hp.objs.size + 1) :: us ++ []).length = ps.length := by
    rw [List.append_nil]
    have z := r2.length
    rw [F1.len _ _ _ _ hq] at z
    exact z.symm
  have hus : us.length ≤ sizeLine := by
    rw [← Paired.length r1, sizeLine_eq]
    omega
  have bd := hb _ (Value.ref (hp.objs.size + 1) :: us) I2.kIn hl
  rw [List.append_nil] at bd
  refine wpAny_call (PySem.HandSPX.call_own F.excBase_ValueError (fun Y => PySem.HandSPX.refsVE_contains Y bm hbm) (I1.kIn _ _ hC) (PySem.W.looks_findIn I1.kIn iC) (fun self => PySem.W.bind_fn I1.kIn self tI) hus
    (codeAny_mono (F1.run _ X.stack _ _ ⟨Value.ref (hp.objs.size + 1) :: us, []⟩ (Value.ref (hp.objs.size + 1) :: us) _ _ (fun _ _ _ => False) (hr.make C us []) (I2.env0.make C us []) bd r2 hq) fun r s' hq' => ?_))
  cases r with
  | error er => exact hx pins σ _ _ er s' I2 hq'
  | ok fl =>
    cases fl with
    | ret u =>
      obtain ⟨v, H2, os2, bare2, un2, hok2, rv, ev, q2⟩ := hq'
      subst ev
      exact ⟨rv, .ref (hp.objs.size + 1), H2, I2.call' (ch := []) os2 un2 hok2 bare2 (fun b z => absurd z (by simp)), rfl, q2⟩
    | next => exact False.elim hq'
    | brk => exact False.elim hq'
    | cont => exact False.elim hq'
theorem pe_mkV {CX : CXT} {x : Str} {C fI : Addr} {k : Nat} {fd : FuncData} {ps : List Str} {sp : Sp} (T : OexC X.K C) (iC : PySem.W.findIn X.K (.ref C) "__init__" = some (some (.ref fI))) (tI : PySem.W.typeIn X.K (.ref fI) = some (.type "function"))
    (F1 : FnOk X.prog X.w X.K X.mg X.base CX k fI fd ps sp) (hr : Room (k + 1) X.A) (hb : Binds X.K fd ps []) (hx : Passes CX X (fun _ _ _ => False)) (hg : Gl X x) (hm : X.mg x = some (.ref C)) (ha : PA X (e :: es) ta)
    (hdb : (x == ("__debug__" : Str)) = false := by decide) (he : starEach (e :: es) X.env = (false, eval e X.env) :: starEach es X.env := by rfl) (hpl : (backTo pos (starEach es X.env)).any (·.1) = false := by rfl) :
    PE X (.Call (.Name x p) (e :: es) [] pos) (tMkV C sp ta) := by
  refine ⟨fun pins s σ H Q I h => ?_⟩
  refine wpAny_Call_Name_kw (ld_glob I hg hm ?_ hdb)
  exact PySem.W.callWith_K (h₀ := X.base) I.ok.mod.kin T.kC (thn (ha.run pos pins s σ H _ I h) fun us s1 ⟨vs, H1, I1, r1, hz, q1⟩ => ⟨I1.kIn, run_mkV T iC tI F1 hr hb hx I1 r1 hz q1⟩) he hpl
theorem pe_mkV0 {CX : CXT} {x : Str} {C fI : Addr} {k : Nat} {fd : FuncData} {ps : List Str} {sp : Sp} (T : OexC X.K C) (iC : PySem.W.findIn X.K (.ref C) "__init__" = some (some (.ref fI))) (tI : PySem.W.typeIn X.K (.ref fI) = some (.type "function"))
    (F1 : FnOk X.prog X.w X.K X.mg X.base CX k fI fd ps sp) (hr : Room (k + 1) X.A) (hb : Binds X.K fd ps []) (hx : Passes CX X (fun _ _ _ => False)) (hg : Gl X x) (hm : X.mg x = some (.ref C)) (hdb : (x == ("__debug__" : Str)) = false := by decide) :
    PE X (.Call (.Name x p) [] [] pos) (tMkV C sp tNil) := by
  refine ⟨fun pins s σ H Q I h => ?_⟩
  refine wpAny_Call_Name_kw (ld_glob I hg hm ?_ hdb)
  exact PySem.W.callWith_K0 I.kIn T.kC (run_mkV (us := []) T iC tI F1 hr hb hx I .nil h.1 h.2)
/-- D.__init__(self, ..), D an own class that stands under ValueError and has no __init__ of its own -/
theorem pe_roinit {pl : Sem Bool} {x : Str} {D : Addr} {mc : Value} (hg : Gl X x) (hm : X.mg x = some (.ref D)) (cr : ClX.CRead X.K D mc) (vV : PySem.W.findCls X.K (.ref D) mc "__init__" = some (.val (.builtin "ValueError.__init__"))) (ha : PA X (e :: es) ta)
    (hdb : (x == ("__debug__" : Str)) = false := by decide)
    (hc : eval (.Call (.Attribute (.Name x p1) "__init__" p2) (e :: es) [] pos) X.env = (do
      let ov ← eval (.Name x p1) X.env
      standAt p2.atName
      let (f, first) ← holding [ov] (getMethod ov "__init__" pl)
      callWith pos f first (backTo pos (starEach (e :: es) X.env)) (backToKw pos (keywordEach [] X.env))) := by rfl)
    (he : starEach (e :: es) X.env = (false, eval e X.env) :: starEach es X.env := by rfl) (hpl : (backTo pos (starEach es X.env)).any (·.1) = false := by rfl) :
    PE X (.Call (.Attribute (.Name x p1) "__init__" p2) (e :: es) [] pos) (tVeI X.K ta) := by
  refine ⟨fun pins s σ H Q I h => ?_⟩
  refine PySem.W.methodCall_KW (ld_glob I hg hm ?_ hdb) hc
  refine PySem.W.method_cls I.kIn cr.ga ?_
  refine PySem.W.cls_value I.kIn cr.rd vV (by decide +kernel) ?_
  show wpAny _ _ (callWith pos (Value.builtin "ValueError.__init__") [] (backTo pos (starEach (e :: es) X.env)) []) _ _ _
  refine PyProof.Rows.callWith_method1 (thn (ha.run pos pins _ σ H _ (I.tok _) h) fun us s1 ⟨vs, H1, I1, r1, a, C, ws, ev, hl, T, ea, q⟩ => ?_) he hpl
  subst ev
  cases r1 with
  | @cons _ u0 _ ur ra rw' =>
    obtain rfl : u0 = Value.ref a := ra
    have hlen : ur.length ≤ sizeLine := by
      rw [← Paired.length rw', sizeLine_eq]
      omega
    exact oinit_ok T I1 ea hlen fun s' J => ⟨.non, H1, J, rfl, q⟩
end
/-! isinstance(e, C), e an exception that has its dict; e.f -/
section
open PySem.W PySem.Calls
variable {prog : Program} {w : World} {A : Around} {E : Value → Shared → Prop} {s : Shared} {K : Frag} {x D : Addr} {ox : Obj} {od : Option Obj}
theorem find_class (C : ExcC K D) : findObj K D od "__class__" = some (.bind (.builtin "getset_descriptor.__get__") (.builtin "object.__class__")) := by
  have hc : (clsIn K D).isSome = true := by
    obtain ⟨cd, hc, _⟩ := any_some C.hd
    rw [hc]; rfl
  cases od with
  | none => exact findObj_dataN hc C.ha C.hn C.ht
  | some o => exact findObj_data hc C.ha C.hn C.ht
/-- the class that an exception tells of itself -/
theorem class_told {Q : Option Value → Shared → Prop} (C : ExcC K D) (X : K.In s.heap) (I : InstAt s.heap x ox D od) (h : Q (some (.ref D)) { s with toks := s.toks + 1 }) : wpAny (model prog w) A (getAttr? (.ref x) "__class__") Q E s := by
  have hf := find_class (od := od) C
  obtain ⟨hp, g, d, t, os⟩ := s
  have T := I.type (M := model prog w)
  have G := looks_findIn (M := model prog w) X C.hg
  have N := looks_findIn (M := model prog w) X C.hk
  have W := looks_find (M := model prog w) X I hf
  have up : Looks (model prog w) hp (isInstance (.ref x) (.type "BaseException")) true := T.andThen (looks_subIn X C.hs)
  have ne : (Value.builtin "BaseException.__getattribute__" == Value.builtin "object.__getattribute__") = false := by decide +kernel
  unfold getAttr? getAttrBy? getAttrBy
  refine wpAny_bind (wpAny_mkText (wpAny_bind (wpAny_attempt (wpAny_holding (wpAny_bind (T.at (wpAny_bind (G.at ?_))))))))
  show wpAny _ _ (if (onTheHeap (Value.ref D) && Value.builtin "BaseException.__getattribute__" == Value.builtin "object.__getattribute__") = true then _ else _) _ _ _
  rw [ne, Bool.and_false, if_neg Bool.false_ne_true]
  unfold getAttrByItsOwn hookBefore
  refine wpAny_bind ?_
  rw [if_pos (show onTheHeap (Value.ref D) = true from rfl)]
  refine N.at (wpAny_bind (wpAny_attempt (wpAny_holding ?_)))
  unfold callGetattribute
  rw [show (false && onTheHeap (Value.builtin "BaseException.__getattribute__")) = false from rfl, if_neg Bool.false_ne_true]
  unfold boundAndCalled
  rw [PySem.F.excAttr_ValueError.ga.bind (.ref x)]
  refine wpAny_bind (wpAny_pure ?_)
  show wpAny _ _ (call (.builtin "BaseException.__getattribute__") [.ref x, .str "__class__" t]) _ _ _
  refine wpAny_call (codeAny_call_builtin PySem.F.excAttr_ValueError.ga.plain PySem.F.entry_bexc_ga ?_)
  refine @check_slot (model prog w) _ _ ⟨hp, g, d, t + 1, os⟩ "BaseException.__getattribute__" "BaseException" "__getattribute__" (.ref x) [.str "__class__" t] [] _ (by decide +kernel) (by decide +kernel) up (PySem.F.args_bexc_ga (.ref x) (.str "__class__" t)) ?_
  unfold Builtin.«object.__getattribute__»
  refine wpAny_bind (wpAny_of_eq (a := ((Value.ref x : Value), [Value.str "__class__" t])) (by first | rfl | (simp only [slotArgs]; rfl)) ?_)
  refine wpAny_bind (wpAny_pure (wpAny_bind (T.at (wpAny_bind (W.at ?_)))))
  show wpAny _ _ (holding [Value.builtin "object.__class__"] (call (.builtin "getset_descriptor.__get__") [.builtin "object.__class__", .ref x, .ref D]) >>= ret) _ _ _
  refine wpAny_bind (wpAny_holding (wpAny_call (class_get (s := ⟨hp, g, d, t + 1, os⟩) (ox := ox) (od := od) X I C.hm ?_)))
  refine wpAny_pure ?_
  show wpAny _ _ (handedOut (.ref D)) _ _ _
  rw [handedOut_of (v := .ref D) rfl]
  first
    | exact wpAny_pure (wpAny_pure h)
    | exact wpAny_pure h
    | exact wpAny_pure (wpAny_bind (wpAny_pure (wpAny_pure h)))
theorem kit_exc (C : ExcC K D) : KitX K (.ref x) (.ref D) (fun h => InstAt h x ox D od) where
  ty := fun _ _ _ I => I.type
  it := fun M h X _ => by
    obtain ⟨cd, hc, _⟩ := any_some C.hd
    intro A' Q' E' s' k q
    unfold clsIn at hc
    split at hc
    · rename_i ho
      unfold isType loadHead
      exact wpAny_bind (wpAny_loadPart (k _ _ (X _ _ ho)) (wpAny_pure q))
    · cases hc
  ne := fun h tp dd its n sl X htp => (handS_kitx_exc (x := x) (ox := ox) C.hg C.hk C.hs C.hd C.ha C.hn C.ht C.hm).ne h tp dd its n sl X htp
  ca := fun X I k => class_told C X I k
end
/-- a value's type, exceptions too -/
inductive TyE (K : PySem.W.Frag) (H : Hp) : V → Value → Prop where
  | base {x : V} {t : Value} (h : TyX K H x t) : TyE K H x t
  | exc0 {a C : Addr} (e : H a = some (exo a C none)) (c : ExcC K C) : TyE K H (.ref a) (.ref C)
  | exc1 {a C dx : Addr} {fs : List (Str × V)} (e : H a = some (exo a C (some dx))) (d : H dx = some (exd dx fs)) (c : ExcC K C) : TyE K H (.ref a) (.ref C)
  | exv {a C : Addr} (e : H a = some (ExO (.ref C) a)) (c : ExcC K C) : TyE K H (.ref a) (.ref C)
section
variable {X : Cx} {pins : List (Addr × Obj)} {σ : L2.St} {H : Hp} {s : Shared} {K : PySem.W.Frag}
theorem inst0 (I : Inv X pins σ H s) {a C : Addr} (e : H a = some (exo a C none)) : ∃ ox, PySem.W.InstAt s.heap a ox C none := by
  obtain ⟨t1, he⟩ := exo_at I.hok e
  exact ⟨_, he, rfl, rfl, trivial⟩
theorem inst1 (I : Inv X pins σ H s) {a C dx : Addr} {fs : List (Str × V)} (e : H a = some (exo a C (some dx))) (d : H dx = some (exd dx fs)) : ∃ (ox od : Obj) (mA : Str → Option Value), PySem.W.InstAt s.heap a ox C (some od) ∧ (∀ f, PySem.W.lookIn f od = some (mA f)) ∧ ∀ f, RelO (fs.lookup f) (mA f) := by
  obtain ⟨t1, he⟩ := exo_at I.hok e
  obtain ⟨mA, hns, hr⟩ := exd_at I.hok d
  obtain ⟨od, ho, hl⟩ := lookIn_ns hns
  exact ⟨_, od, mA, ⟨he, rfl, rfl, ho⟩, hl, hr⟩
theorem kit_ofE {x : V} {u t : Value} (I : Inv X pins σ H s) (rx : RelV x u) (ty : TyE X.K H x t) : ∃ P : Heap → Prop, PySem.W.KitX X.K u t P ∧ P s.heap ∧ u ≠ .builtin "__main__.__loader__#opaque" := by
  cases ty with
  | base h => exact kit_of I rx h
  | @exc0 a C e c =>
    cases (show u = Value.ref a from rx)
    obtain ⟨ox, J⟩ := inst0 I e
    exact ⟨_, kit_exc c, J, fun z => nomatch z⟩
  | @exc1 a C dx fs e d c =>
    cases (show u = Value.ref a from rx)
    obtain ⟨ox, od, mA, J, _⟩ := inst1 I e d
    exact ⟨_, kit_exc c, J, fun z => nomatch z⟩
  | @exv a C e c =>
    cases (show u = Value.ref a from rx)
    obtain ⟨⟨oe, vs, ho, ⟨h1, h2⟩, hd, _⟩, _⟩ := I.hok a _ e
    refine ⟨_, kit_exc (ox := oe) (od := none) c, ⟨ho, h1, by unfold PySem.W.notCls; rw [hd], by rw [h2]; trivial⟩, fun z => nomatch z⟩
def rIsiE (K : PySem.W.Frag) : List V → Hp → VK → Prop := fun xs H Q => ∃ (x c : V) (t u : Value) (b : Bool), xs = [x, c] ∧ ClsV c u ∧ TyE K H x t ∧ PySem.W.kitOne K t u = some b ∧ Q (.bl b) H
def rIsiTE (K : PySem.W.Frag) : List V → Hp → VK → Prop := fun xs H Q => ∃ (x : V) (tp : Addr) (cs : List V) (t : Value) (us : List Value) (b : Bool), xs = [x, .ref tp] ∧ H tp = some (.tup cs) ∧ Paired ClsV cs us ∧ TyE K H x t ∧ PySem.W.kitAny K t us = some b ∧ Q (.bl b) H
theorem call_isiE (hK : X.K = K) : CallR X (.builtin "isinstance") (rIsiE K) := by
  subst hK
  intro pins s σ H xs us Q I r h
  obtain ⟨x, c, t, u, b, rfl, k, ty, e, q⟩ := h
  obtain ⟨u1, u2, rfl, r1, r2⟩ := vals2 r
  have e2 := k.eq r2
  subst e2
  obtain ⟨P, Z, p, hx⟩ := kit_ofE I r1 ty
  exact PySem.W.kia_one Z I.kIn p e hx fun tk => ⟨.bl b, H, I.tok tk, rfl, q⟩
theorem call_isiTE (hK : X.K = K) : CallR X (.builtin "isinstance") (rIsiTE K) := by
  subst hK
  intro pins s σ H xs us Q I r h
  obtain ⟨x, tp, cs, t, ws, b, rfl, hT, k, ty, e, q⟩ := h
  obtain ⟨u1, u2, rfl, r1, r2⟩ := vals2 r
  cases (show u2 = Value.ref tp from r2)
  obtain ⟨P, Z, p, hx⟩ := kit_ofE I r1 ty
  obtain ⟨_, its, rv, o, h1, h2, n, h3⟩ := (show ObjOk X.prog X.w H s.heap tp (.tup cs) from I.hok tp _ hT)
  have e3 := ClsV.all k rv
  subst e3
  obtain ⟨oc, od, dt, sl⟩ := o
  simp only at h2 h3
  subst h2 h3
  exact PySem.W.kia_tup Z I.kIn p h1 e hx fun tk => ⟨.bl b, H, I.tok tk, rfl, q⟩
/-- e.f -/
def tXv (K : PySem.W.Frag) (f : Str) (te : TE) : TE := fun σ H Q => te σ H fun x H1 => ∃ (a C dx : Addr) (fs : List (Str × V)) (v : V), x = .ref a ∧ XfC K C ∧ PySem.W.findIn K (.ref C) f = some none ∧ H1 a = some (exo a C (some dx)) ∧ H1 dx = some (exd dx fs) ∧ fs.lookup f = some v ∧ Q v H1
theorem w_xv {f : Str} {te : TE} {Q : VK} (k : te σ H fun x H1 => ∃ (a C dx : Addr) (fs : List (Str × V)) (v : V), x = .ref a ∧ XfC K C ∧ PySem.W.findIn K (.ref C) f = some none ∧ H1 a = some (exo a C (some dx)) ∧ H1 dx = some (exd dx fs) ∧ fs.lookup f = some v ∧ Q v H1) : tXv K f te σ H Q := k
theorem pe_xv {e : Expr} {te : TE} {pos : Pos} {n : Str} (hK : X.K = K) (he : PE X e te) (hb : attributeBase e n X.env (eval e X.env) = eval e X.env := by rfl) : PE X (.Attribute e n pos) (tXv K n te) := by
  subst hK
  refine ⟨fun pins s σ H Q I h => ?_⟩
  refine attr_of hb (thn (he.run pins s σ H _ I h) fun u s1 hh => ?_)
  obtain ⟨x, H1, I1, rx, a, C, dx, fs, v, ex, T, hno, ea, ed, l, q⟩ := hh
  subst ex
  obtain rfl : u = Value.ref a := rx
  obtain ⟨ox, od, mA, J, hl, hr⟩ := inst1 I1 ea ed
  obtain ⟨u, hu, ru⟩ := RelO.some_of (v := v) (o := mA n) (by rw [← l]; exact hr n)
  exact HandSPX.exc_get I1.kIn J T.ga T.gg T.exC (PySem.W.findObj_own T.hdC hno rfl (by rw [hl, hu])) (handed_of ru) ⟨v, H1, I1.tok _, ru, q⟩
end
/-! what a class tells, asked of the written part -/
section
variable {K : PySem.W.Frag} {C : Addr}
def objB (K : PySem.W.Frag) (C : Addr) : Bool := match K.lookup C with
  | some ⟨.type "type", _, .cls cd, sl⟩ => (match cd.mro, sl.toList with
    | .ref C' :: bm, [_, _, _, _, some (.builtin n), _] => C' == C && n == "ValueError.__new__" && !cd.hasDel && cd.hasDict && PySem.HandSPX.refsVE bm
    | _, _ => false)
  | _ => false
theorem objB_ok (q : objB K C = true) : ∃ nm q N bs bm sn sub ab col dd k0 k1 k2 k3 k5, K.lookup C = some (excClassObj nm q C N bs bm true sn sub ab col dd k0 k1 k2 k3 k5 "ValueError.__new__") ∧ PySem.HandSPX.refsVE bm = true := by
  unfold objB at q
  split at q
  · rename_i dd cd sl ho
    split at q
    · rename_i C' bm k0 k1 k2 k3 n k5 hm hs
      simp only [Bool.and_eq_true, beq_iff_eq, Bool.not_eq_true'] at q
      obtain ⟨⟨⟨⟨rfl, rfl⟩, hdel⟩, hdi⟩, ht⟩ := q
      obtain ⟨nm, bs, mro, ns, qn, hd, sn, sub, ab, col, del⟩ := cd
      dsimp only at hm hdel hdi
      subst hm hdel hdi
      have hsl : sl = #[k0, k1, k2, k3, some (.builtin "ValueError.__new__"), k5] := by
        obtain ⟨l⟩ := sl
        simp only at hs
        rw [hs]
      subst hsl
      exact ⟨nm, qn, ns, bs, bm, sn, sub, ab, col, dd, k0, k1, k2, k3, k5, ho, ht⟩
    · cases q
  · cases q
/-- all that is asked of an exception class -/
structure Ex (K : PySem.W.Frag) (C : Addr) : Prop where
  o : OexC K C
  x : XfC K C
  e : ExcC K C
def exCB (K : PySem.W.Frag) (C : Addr) : Bool := objB K C && (decide (PySem.W.findIn K (.ref C) "__setattr__" = some (some (.builtin "object.__setattr__"))) && (decide (PySem.W.subIn K (.ref C) (.type "BaseException") = some true) && (decide (PySem.W.typeIn K (.ref C) = some (.type "type")) && (PySem.W.keepIn K (.ref C) && (xfB K C &&
  (decide (PySem.W.findIn K (.ref C) "__class__" = some (some (.builtin "object.__class__"))) && (decide (PySem.W.specialIn K (.builtin "object.__class__") "__get__" = some (some (.builtin "getset_descriptor.__get__"))) && (decide (PySem.W.takesIn K (.builtin "object.__class__") = some true) && decide (PySem.W.mroIn K C (.type "object") = some true)))))))))
theorem exCB_ok (h : exCB K C = true) : Ex K C := by
  unfold exCB at h
  simp only [Bool.and_eq_true, decide_eq_true_eq] at h
  obtain ⟨h1, h2, h3, h4, h5, h6, h7, h8, h9, h10⟩ := h
  have x := xfB_ok h6
  exact ⟨⟨objB_ok h1, h2, h3, h4, h5⟩, x, ⟨x.ga, x.gg, h3, x.hdC, h7, h8, h9, h10⟩⟩
/-- a class whose __init__ is ValueError's own -/
structure Ro (K : PySem.W.Frag) (D : Addr) : Prop where
  r : ClX.CRead K D (.type "type")
  v : PySem.W.findCls K (.ref D) (.type "type") "__init__" = some (.val (.builtin "ValueError.__init__"))
  q : PySem.W.excIn K D He.veBase "ValueError.__new__" = true
def roB (K : PySem.W.Frag) (D : Addr) : Bool := PySem.W.excIn K D He.veBase "ValueError.__new__" && (PySem.W.readsIn K D (.type "type") && (decide (PySem.W.specialIn K (.ref D) "__getattribute__" = some (some (.builtin "type.__getattribute__"))) && (match PySem.W.findCls K (.ref D) (.type "type") "__init__" with
  | some (.val (.builtin n)) => n == "ValueError.__init__"
  | _ => false)))
theorem roB_ok (h : roB K C = true) : Ro K C := by
  unfold roB at h
  simp only [Bool.and_eq_true, decide_eq_true_eq] at h
  obtain ⟨h0, h1, h2, h3⟩ := h
  refine ⟨⟨h1, h2⟩, ?_, h0⟩
  split at h3
  · rename_i n e
    rw [e, beq_iff_eq.mp h3]
  · cases h3
end
/-- its own __init__ -/
structure Ini (K : PySem.W.Frag) (C : Addr) : Prop where
  i : PySem.W.findIn K (.ref C) "__init__" = some (some (.ref (He.ma K C "__init__")))
  t : PySem.W.typeIn K (.ref (He.ma K C "__init__")) = some (.type "function")
def iniB (K : PySem.W.Frag) (C : Addr) : Bool := decide (PySem.W.findIn K (.ref C) "__init__" = some (some (.ref (He.ma K C "__init__")))) && decide (PySem.W.typeIn K (.ref (He.ma K C "__init__")) = some (.type "function"))
theorem iniB_ok {K : PySem.W.Frag} {C : Addr} (h : iniB K C = true) : Ini K C := by
  unfold iniB at h
  simp only [Bool.and_eq_true, decide_eq_true_eq] at h
  exact ⟨h.1, h.2⟩
theorem all1_ok {p : Str → Prop} [∀ C, Decidable (p C)] {L : List Str} (h : (L.all fun C => decide (p C)) = true) : ∀ C ∈ L, p C := fun C hC => of_decide_eq_true (List.all_eq_true.mp h C hC)
theorem all2_ok {p : Str → Str → Prop} [∀ C D, Decidable (p C D)] {L : List Str} (h : (L.all fun C => L.all fun D => decide (p C D)) = true) : ∀ C ∈ L, ∀ D ∈ L, p C D := fun C hC D hD => of_decide_eq_true (List.all_eq_true.mp (List.all_eq_true.mp h C hC) D hD)
section
variable {X : Cx} {K : PySem.W.Frag} {C : Addr} {k : Nat} {ps : List Str} {sp : Sp} {x : Str} {e : Expr} {es : List Expr} {ta : TA} {p pos : Pos}
theorem pe_mkX (F : FnA X.prog X.w X.K X.mg (He.ma K C "__init__") k ps sp) (hK : X.K = K) (T : Ex K C) (M : Ini K C) (hm : X.mg x = some (.ref C)) (hr : Room (k + 1) X.A) (hg : Gl X x) (ha : PA X (e :: es) ta)
    (hdb : (x == ("__debug__" : Str)) = false := by decide) (he : starEach (e :: es) X.env = (false, eval e X.env) :: starEach es X.env := by rfl) (hpl : (backTo pos (starEach es X.env)).any (·.1) = false := by rfl) :
    PE X (.Call (.Name x p) (e :: es) [] pos) (tMkV C sp ta) := by
  subst hK
  obtain ⟨fd, G, b, _⟩ := F
  exact pe_mkV T.o M.i M.t (G X.base) hr b pass0 hg hm ha hdb he hpl
theorem pe_mkX0 (F : FnA X.prog X.w X.K X.mg (He.ma K C "__init__") k ps sp) (hK : X.K = K) (T : Ex K C) (M : Ini K C) (hm : X.mg x = some (.ref C)) (hr : Room (k + 1) X.A) (hg : Gl X x) (hdb : (x == ("__debug__" : Str)) = false := by decide) :
    PE X (.Call (.Name x p) [] [] pos) (tMkV C sp tNil) := by
  subst hK
  obtain ⟨fd, G, b, _⟩ := F
  exact pe_mkV0 T.o M.i M.t (G X.base) hr b pass0 hg hm hdb
/-- D(e), D without an own __init__, as a value -/
def tExR (D : Addr) (ta : TE) : TE := fun σ H Q => ta σ H fun _ H1 => ∀ a, H1 a = none → Q (.ref a) (upd H1 a (ExO (.ref D) a))
theorem pe_exR {D : Addr} {ta : TE} (hK : X.K = K) (R : Ro K D) (T : Ex K D) (hm : X.mg x = some (.ref D)) (hg : Gl X x) (ha : PE X e ta) (hs : starEach [e] X.env = (false, eval e X.env) :: starEach [] X.env := by rfl) (hdb : (x == ("__debug__" : Str)) = false := by decide) :
    PE X (.Call (.Name x p) [e] [] pos) (tExR D ta) := by
  subst hK
  exact pe_exc1 F.excBase_ValueError R.q hm T.o.kC hg ha hs hdb
end
end EXV
theorem boot_ValueError : bootBuiltins "ValueError" = some (.type "ValueError") := PyProof.Rows.Boot.«ValueError»
end

end J
namespace J
open PySem PySem.Spec PyProof.Rows L2
--plain
/-! ### the head's look, with the interpreter's own table of statics (a class's attribute is read by it) -/
section
open PySem PySem.Spec PyProof.Rows He
namespace HKS
def asS (g : Addr → Option Obj) (n : Nat) : List Addr := cStatics :: asD g n
def obsS (n : Nat) (fa : List Fa) (fn : List DefD) (ts : List Tab) (ex : PySem.W.Frag → Bool) (g : Addr → Option Obj) : AlX := (obsT fa fn ts (frT g (asS g n)), ex (frT g (asS g n)))
/-- what is told: the facts, the Bool ex -/
structure SaysS (fa : List Fa) (fn : List DefD) (ts : List Tab) (ex : PySem.W.Frag → Bool) (w : World) (K : PySem.W.Frag) : Prop where
  t : SaysT fa fn ts w K
  more : ex K = true
def hookS (n : Nat) (fa : List Fa) (fn : List DefD) (ts : List Tab) (ex : PySem.W.Frag → Bool) : PySem.W.Hook where
  α := AlX
  obs := fun s => obsS n fa fn ts ex s.heap.get?
  val := fun w => (valT fn ts w, true)
  says := fun w h => ∃ K : PySem.W.Frag, K.In h ∧ SaysS fa fn ts ex w K
  of := fun _ _ e => ⟨_, frT_in, congrArg (fun z : AlX => z.1) e, congrArg (fun z : AlX => z.2) e⟩
  keeps := fun _ _ _ ⟨K, hK, c⟩ k => ⟨K, PySem.W.Frag.In.keeps hK k, c⟩
theorem obsS_eq {n : Nat} {fa : List Fa} {fn : List DefD} {ts : List Tab} {ex : PySem.W.Frag → Bool} {g : Addr → Option Obj} {s : Shared} (h : ∀ a, g a = s.heap.get? a) : obsS n fa fn ts ex g = (hookS n fa fn ts ex).obs s := by
  rw [show g = s.heap.get? from funext h]
  rfl
end HKS
end

end J
namespace J
open PySem PySem.Spec PyProof.Rows L2
def top (i : Nat) : Stmt := PySem.Challenge.pw_rowsjoined_k04_refusals_apart.main.body.getD i (.Pass ⟨0, 0, 0, 0⟩)
abbrev s_NoTextu_initu : Stmt := inClass (top 2) 0
abbrev N_NoTextu_initu : List Str := ["self", "place"]
theorem sc_NoTextu_initu : FnScope N_NoTextu_initu ["self", "place"] (defScope s_NoTextu_initu) := ⟨rfl, rfl, rfl, by decide +kernel, rfl, by decide +kernel, by decide +kernel⟩
abbrev s_Twiceu_initu : Stmt := inClass (top 3) 0
abbrev N_Twiceu_initu : List Str := ["self", "name"]
theorem sc_Twiceu_initu : FnScope N_Twiceu_initu ["self", "name"] (defScope s_Twiceu_initu) := ⟨rfl, rfl, rfl, by decide +kernel, rfl, by decide +kernel, by decide +kernel⟩
abbrev s_NoNameu_initu : Stmt := inClass (top 4) 0
abbrev N_NoNameu_initu : List Str := ["self", "name"]
theorem sc_NoNameu_initu : FnScope N_NoNameu_initu ["self", "name"] (defScope s_NoNameu_initu) := ⟨rfl, rfl, rfl, by decide +kernel, rfl, by decide +kernel, by decide +kernel⟩
abbrev s_NoFitu_initu : Stmt := inClass (top 5) 0
abbrev N_NoFitu_initu : List Str := ["self", "name"]
theorem sc_NoFitu_initu : FnScope N_NoFitu_initu ["self", "name"] (defScope s_NoFitu_initu) := ⟨rfl, rfl, rfl, by decide +kernel, rfl, by decide +kernel, by decide +kernel⟩
abbrev s_BadLineu_initu : Stmt := inClass (top 6) 0
abbrev N_BadLineu_initu : List Str := ["self", "line"]
theorem sc_BadLineu_initu : FnScope N_BadLineu_initu ["self", "line"] (defScope s_BadLineu_initu) := ⟨rfl, rfl, rfl, by decide +kernel, rfl, by decide +kernel, by decide +kernel⟩
abbrev s_NoKindu_initu : Stmt := inClass (top 7) 0
abbrev N_NoKindu_initu : List Str := ["self", "name"]
theorem sc_NoKindu_initu : FnScope N_NoKindu_initu ["self", "name"] (defScope s_NoKindu_initu) := ⟨rfl, rfl, rfl, by decide +kernel, rfl, by decide +kernel, by decide +kernel⟩
abbrev s_NoRowu_initu : Stmt := inClass (top 8) 0
abbrev N_NoRowu_initu : List Str := ["self", "row"]
theorem sc_NoRowu_initu : FnScope N_NoRowu_initu ["self", "row"] (defScope s_NoRowu_initu) := ⟨rfl, rfl, rfl, by decide +kernel, rfl, by decide +kernel, by decide +kernel⟩
abbrev s_NoStateu_initu : Stmt := inClass (top 9) 0
abbrev N_NoStateu_initu : List Str := ["self", "thing"]
theorem sc_NoStateu_initu : FnScope N_NoStateu_initu ["self", "thing"] (defScope s_NoStateu_initu) := ⟨rfl, rfl, rfl, by decide +kernel, rfl, by decide +kernel, by decide +kernel⟩
abbrev s_BadStepu_initu : Stmt := inClass (top 10) 0
abbrev N_BadStepu_initu : List Str := ["self", "thing"]
theorem sc_BadStepu_initu : FnScope N_BadStepu_initu ["self", "thing"] (defScope s_BadStepu_initu) := ⟨rfl, rfl, rfl, by decide +kernel, rfl, by decide +kernel, by decide +kernel⟩
abbrev s_NoPlacesu_initu : Stmt := inClass (top 11) 0
abbrev N_NoPlacesu_initu : List Str := ["self", "many"]
theorem sc_NoPlacesu_initu : FnScope N_NoPlacesu_initu ["self", "many"] (defScope s_NoPlacesu_initu) := ⟨rfl, rfl, rfl, by decide +kernel, rfl, by decide +kernel, by decide +kernel⟩
abbrev s_NoSizeu_initu : Stmt := inClass (top 12) 0
abbrev N_NoSizeu_initu : List Str := ["self", "thing"]
theorem sc_NoSizeu_initu : FnScope N_NoSizeu_initu ["self", "thing"] (defScope s_NoSizeu_initu) := ⟨rfl, rfl, rfl, by decide +kernel, rfl, by decide +kernel, by decide +kernel⟩
abbrev s_NoRoomu_initu : Stmt := inClass (top 13) 0
abbrev N_NoRoomu_initu : List Str := ["self", "kind", "lacking"]
theorem sc_NoRoomu_initu : FnScope N_NoRoomu_initu ["self", "kind", "lacking"] (defScope s_NoRoomu_initu) := ⟨rfl, rfl, rfl, by decide +kernel, rfl, by decide +kernel, by decide +kernel⟩
abbrev s_Crowdedu_initu : Stmt := inClass (top 14) 0
abbrev N_Crowdedu_initu : List Str := ["self", "kind", "needed"]
theorem sc_Crowdedu_initu : FnScope N_Crowdedu_initu ["self", "kind", "needed"] (defScope s_Crowdedu_initu) := ⟨rfl, rfl, rfl, by decide +kernel, rfl, by decide +kernel, by decide +kernel⟩
abbrev s_NoBudgetu_initu : Stmt := inClass (top 15) 0
abbrev N_NoBudgetu_initu : List Str := ["self", "thing"]
theorem sc_NoBudgetu_initu : FnScope N_NoBudgetu_initu ["self", "thing"] (defScope s_NoBudgetu_initu) := ⟨rfl, rfl, rfl, by decide +kernel, rfl, by decide +kernel, by decide +kernel⟩
abbrev s_Withinu_initu : Stmt := inClass (top 16) 0
abbrev N_Withinu_initu : List Str := ["self"]
theorem sc_Withinu_initu : FnScope N_Withinu_initu ["self"] (defScope s_Withinu_initu) := ⟨rfl, rfl, rfl, by decide +kernel, rfl, by decide +kernel, by decide +kernel⟩
abbrev s_NoChangeu_initu : Stmt := inClass (top 17) 0
abbrev N_NoChangeu_initu : List Str := ["self", "kind"]
theorem sc_NoChangeu_initu : FnScope N_NoChangeu_initu ["self", "kind"] (defScope s_NoChangeu_initu) := ⟨rfl, rfl, rfl, by decide +kernel, rfl, by decide +kernel, by decide +kernel⟩
abbrev s_Unlikeu_initu : Stmt := inClass (top 18) 0
abbrev N_Unlikeu_initu : List Str := ["self", "word"]
theorem sc_Unlikeu_initu : FnScope N_Unlikeu_initu ["self", "word"] (defScope s_Unlikeu_initu) := ⟨rfl, rfl, rfl, by decide +kernel, rfl, by decide +kernel, by decide +kernel⟩
abbrev s_NotPlainu_initu : Stmt := inClass (top 19) 0
abbrev N_NotPlainu_initu : List Str := ["self", "kind"]
theorem sc_NotPlainu_initu : FnScope N_NotPlainu_initu ["self", "kind"] (defScope s_NotPlainu_initu) := ⟨rfl, rfl, rfl, by decide +kernel, rfl, by decide +kernel, by decide +kernel⟩
abbrev s_NoLineu_initu : Stmt := inClass (top 20) 0
abbrev N_NoLineu_initu : List Str := ["self"]
theorem sc_NoLineu_initu : FnScope N_NoLineu_initu ["self"] (defScope s_NoLineu_initu) := ⟨rfl, rfl, rfl, by decide +kernel, rfl, by decide +kernel, by decide +kernel⟩
abbrev s_law_cell : Stmt := top 22
abbrev N_law_cell : List Str := ["script", "k"]
theorem sc_law_cell : FnScope N_law_cell ["script", "k"] (defScope s_law_cell) := ⟨rfl, rfl, rfl, by decide +kernel, rfl, by decide +kernel, by decide +kernel⟩
abbrev s_law_stream : Stmt := top 23
abbrev N_law_stream : List Str := ["cell"]
theorem sc_law_stream : FnScope N_law_stream ["cell"] (defScope s_law_stream) := ⟨rfl, rfl, rfl, by decide +kernel, rfl, by decide +kernel, by decide +kernel⟩
abbrev s_law_take : Stmt := top 24
abbrev N_law_take : List Str := ["stream", "many", "digit", "number"]
theorem sc_law_take : FnScope N_law_take ["stream", "many"] (defScope s_law_take) := ⟨rfl, rfl, rfl, by decide +kernel, rfl, by decide +kernel, by decide +kernel⟩
abbrev s_law_thing : Stmt := top 25
abbrev N_law_thing : List Str := ["stream", "number", "some"]
theorem sc_law_thing : FnScope N_law_thing ["stream"] (defScope s_law_thing) := ⟨rfl, rfl, rfl, by decide +kernel, rfl, by decide +kernel, by decide +kernel⟩
abbrev s_law_first : Stmt := top 26
abbrev N_law_first : List Str := ["k", "one", "other", "some"]
theorem sc_law_first : FnScope N_law_first ["k", "one", "other"] (defScope s_law_first) := ⟨rfl, rfl, rfl, by decide +kernel, rfl, by decide +kernel, by decide +kernel⟩
abbrev s_law_kinds : Stmt := top 27
abbrev N_law_kinds : List Str := ["error", "found"]
theorem sc_law_kinds : FnScope N_law_kinds ["error"] (defScope s_law_kinds) := ⟨rfl, rfl, rfl, by decide +kernel, rfl, by decide +kernel, by decide +kernel⟩
abbrev s_law_fields : Stmt := top 28
abbrev N_law_fields : List Str := ["error"]
theorem sc_law_fields : FnScope N_law_fields ["error"] (defScope s_law_fields) := ⟨rfl, rfl, rfl, by decide +kernel, rfl, by decide +kernel, by decide +kernel⟩
abbrev s_law_same : Stmt := top 29
abbrev N_law_same : List Str := ["found", "due", "one"]
theorem sc_law_same : FnScope N_law_same ["found", "due"] (defScope s_law_same) := ⟨rfl, rfl, rfl, by decide +kernel, rfl, by decide +kernel, by decide +kernel⟩
abbrev s_law_right : Stmt := top 30
abbrev N_law_right : List Str := ["stream", "k", "things", "many", "error", "beside", "thing", "j"]
theorem sc_law_right : FnScope N_law_right ["stream", "k"] (defScope s_law_right) := ⟨rfl, rfl, rfl, by decide +kernel, rfl, by decide +kernel, by decide +kernel⟩
abbrev s_law : Stmt := top 31
abbrev N_law : List Str := ["script", "k", "stream", "kind", "plain"]
theorem sc_law : FnScope N_law ["script"] (defScope s_law) := ⟨rfl, rfl, rfl, by decide +kernel, rfl, by decide +kernel, by decide +kernel⟩
def fn : List He.DefD := [⟨("_law_cell", none), "_law_cell", "_law_cell", defArgs s_law_cell, defBody s_law_cell, defScope s_law_cell, [], []⟩,
  ⟨("_law_stream", none), "_law_stream", "_law_stream", defArgs s_law_stream, defBody s_law_stream, defScope s_law_stream, [], []⟩,
  ⟨("_law_take", none), "_law_take", "_law_take", defArgs s_law_take, defBody s_law_take, defScope s_law_take, [], []⟩,
  ⟨("_law_thing", none), "_law_thing", "_law_thing", defArgs s_law_thing, defBody s_law_thing, defScope s_law_thing, [], []⟩,
  ⟨("_law_first", none), "_law_first", "_law_first", defArgs s_law_first, defBody s_law_first, defScope s_law_first, [], []⟩,
  ⟨("_law_kinds", none), "_law_kinds", "_law_kinds", defArgs s_law_kinds, defBody s_law_kinds, defScope s_law_kinds, [], []⟩,
  ⟨("_law_fields", none), "_law_fields", "_law_fields", defArgs s_law_fields, defBody s_law_fields, defScope s_law_fields, [], []⟩,
  ⟨("_law_same", none), "_law_same", "_law_same", defArgs s_law_same, defBody s_law_same, defScope s_law_same, [], []⟩,
  ⟨("_law_right", none), "_law_right", "_law_right", defArgs s_law_right, defBody s_law_right, defScope s_law_right, [], []⟩,
  ⟨("law", none), "law", "law", defArgs s_law, defBody s_law, defScope s_law, [], []⟩,
  ⟨("NoText", some "__init__"), "__init__", "NoText.__init__", defArgs s_NoTextu_initu, defBody s_NoTextu_initu, defScope s_NoTextu_initu, [], []⟩,
  ⟨("Twice", some "__init__"), "__init__", "Twice.__init__", defArgs s_Twiceu_initu, defBody s_Twiceu_initu, defScope s_Twiceu_initu, [], []⟩,
  ⟨("NoName", some "__init__"), "__init__", "NoName.__init__", defArgs s_NoNameu_initu, defBody s_NoNameu_initu, defScope s_NoNameu_initu, [], []⟩,
  ⟨("NoFit", some "__init__"), "__init__", "NoFit.__init__", defArgs s_NoFitu_initu, defBody s_NoFitu_initu, defScope s_NoFitu_initu, [], []⟩,
  ⟨("BadLine", some "__init__"), "__init__", "BadLine.__init__", defArgs s_BadLineu_initu, defBody s_BadLineu_initu, defScope s_BadLineu_initu, [], []⟩,
  ⟨("NoKind", some "__init__"), "__init__", "NoKind.__init__", defArgs s_NoKindu_initu, defBody s_NoKindu_initu, defScope s_NoKindu_initu, [], []⟩,
  ⟨("NoRow", some "__init__"), "__init__", "NoRow.__init__", defArgs s_NoRowu_initu, defBody s_NoRowu_initu, defScope s_NoRowu_initu, [], []⟩,
  ⟨("NoState", some "__init__"), "__init__", "NoState.__init__", defArgs s_NoStateu_initu, defBody s_NoStateu_initu, defScope s_NoStateu_initu, [], []⟩,
  ⟨("BadStep", some "__init__"), "__init__", "BadStep.__init__", defArgs s_BadStepu_initu, defBody s_BadStepu_initu, defScope s_BadStepu_initu, [], []⟩,
  ⟨("NoPlaces", some "__init__"), "__init__", "NoPlaces.__init__", defArgs s_NoPlacesu_initu, defBody s_NoPlacesu_initu, defScope s_NoPlacesu_initu, [], []⟩,
  ⟨("NoSize", some "__init__"), "__init__", "NoSize.__init__", defArgs s_NoSizeu_initu, defBody s_NoSizeu_initu, defScope s_NoSizeu_initu, [], []⟩,
  ⟨("NoRoom", some "__init__"), "__init__", "NoRoom.__init__", defArgs s_NoRoomu_initu, defBody s_NoRoomu_initu, defScope s_NoRoomu_initu, [], []⟩,
  ⟨("Crowded", some "__init__"), "__init__", "Crowded.__init__", defArgs s_Crowdedu_initu, defBody s_Crowdedu_initu, defScope s_Crowdedu_initu, [], []⟩,
  ⟨("NoBudget", some "__init__"), "__init__", "NoBudget.__init__", defArgs s_NoBudgetu_initu, defBody s_NoBudgetu_initu, defScope s_NoBudgetu_initu, [], []⟩,
  ⟨("Within", some "__init__"), "__init__", "Within.__init__", defArgs s_Withinu_initu, defBody s_Withinu_initu, defScope s_Withinu_initu, [], []⟩,
  ⟨("NoChange", some "__init__"), "__init__", "NoChange.__init__", defArgs s_NoChangeu_initu, defBody s_NoChangeu_initu, defScope s_NoChangeu_initu, [], []⟩,
  ⟨("Unlike", some "__init__"), "__init__", "Unlike.__init__", defArgs s_Unlikeu_initu, defBody s_Unlikeu_initu, defScope s_Unlikeu_initu, [], []⟩,
  ⟨("NotPlain", some "__init__"), "__init__", "NotPlain.__init__", defArgs s_NotPlainu_initu, defBody s_NotPlainu_initu, defScope s_NotPlainu_initu, [], []⟩,
  ⟨("NoLine", some "__init__"), "__init__", "NoLine.__init__", defArgs s_NoLineu_initu, defBody s_NoLineu_initu, defScope s_NoLineu_initu, [], []⟩]
def fa : List He.Fa := [.glo "_law_cell", .glo "_law_stream", .glo "_law_take", .glo "_law_thing", .glo "_law_first", .glo "_law_kinds", .glo "_law_fields", .glo "_law_same", .glo "_law_right", .glo "law", .free "ValueError", .free "bool", .free "int", .free "isinstance", .free "len", .free "list", .free "max", .free "min", .free "range", .glo "RowsError", .glo "NoText", .glo "Twice", .glo "NoName", .glo "NoFit", .glo "BadLine", .glo "NoKind", .glo "NoRow", .glo "NoState", .glo "BadStep", .glo "NoPlaces", .glo "NoSize", .glo "NoRoom", .glo "Crowded", .glo "NoBudget", .glo "Within", .glo "NoChange", .glo "Unlike", .glo "NotPlain", .glo "NoLine"]
def exN : List Str := ["RowsError", "NoText", "Twice", "NoName", "NoFit", "BadLine", "NoKind", "NoRow", "NoState", "BadStep", "NoPlaces", "NoSize", "NoRoom", "Crowded", "NoBudget", "Within", "NoChange", "Unlike", "NotPlain", "NoLine"]
def exUp : List (Str × List Str) := [("RowsError", ["RowsError"]), ("NoText", ["NoText", "RowsError"]), ("Twice", ["Twice", "RowsError"]), ("NoName", ["NoName", "RowsError"]), ("NoFit", ["NoFit", "RowsError"]), ("BadLine", ["BadLine", "RowsError"]), ("NoKind", ["NoKind", "RowsError"]), ("NoRow", ["NoRow", "RowsError"]), ("NoState", ["NoState", "RowsError"]), ("BadStep", ["BadStep", "RowsError"]), ("NoPlaces", ["NoPlaces", "RowsError"]), ("NoSize", ["NoSize", "RowsError"]), ("NoRoom", ["NoRoom", "RowsError"]), ("Crowded", ["Crowded", "RowsError"]), ("NoBudget", ["NoBudget", "RowsError"]), ("Within", ["Within", "RowsError"]), ("NoChange", ["NoChange", "RowsError"]), ("Unlike", ["Unlike", "RowsError"]), ("NotPlain", ["NotPlain", "RowsError"]), ("NoLine", ["NoLine", "RowsError"])]
def exAb (C D : Str) : Bool := ((exUp.lookup C).getD []).contains D
def exL (K : PySem.W.Frag) : List Bool := [EXV.exCB K (He.ga K "RowsError"),
  EXV.roB K (He.ga K "RowsError"),
  EXV.exCB K (He.ga K "NoText"),
  EXV.iniB K (He.ga K "NoText"),
  decide (PySem.W.findIn K (.ref (He.ga K "NoText")) "place" = some none),
  EXV.exCB K (He.ga K "Twice"),
  EXV.iniB K (He.ga K "Twice"),
  decide (PySem.W.findIn K (.ref (He.ga K "Twice")) "name" = some none),
  EXV.exCB K (He.ga K "NoName"),
  EXV.iniB K (He.ga K "NoName"),
  decide (PySem.W.findIn K (.ref (He.ga K "NoName")) "name" = some none),
  EXV.exCB K (He.ga K "NoFit"),
  EXV.iniB K (He.ga K "NoFit"),
  decide (PySem.W.findIn K (.ref (He.ga K "NoFit")) "name" = some none),
  EXV.exCB K (He.ga K "BadLine"),
  EXV.iniB K (He.ga K "BadLine"),
  decide (PySem.W.findIn K (.ref (He.ga K "BadLine")) "line" = some none),
  EXV.exCB K (He.ga K "NoKind"),
  EXV.iniB K (He.ga K "NoKind"),
  decide (PySem.W.findIn K (.ref (He.ga K "NoKind")) "name" = some none),
  EXV.exCB K (He.ga K "NoRow"),
  EXV.iniB K (He.ga K "NoRow"),
  decide (PySem.W.findIn K (.ref (He.ga K "NoRow")) "row" = some none),
  EXV.exCB K (He.ga K "NoState"),
  EXV.iniB K (He.ga K "NoState"),
  decide (PySem.W.findIn K (.ref (He.ga K "NoState")) "thing" = some none),
  EXV.exCB K (He.ga K "BadStep"),
  EXV.iniB K (He.ga K "BadStep"),
  decide (PySem.W.findIn K (.ref (He.ga K "BadStep")) "thing" = some none),
  EXV.exCB K (He.ga K "NoPlaces"),
  EXV.iniB K (He.ga K "NoPlaces"),
  decide (PySem.W.findIn K (.ref (He.ga K "NoPlaces")) "many" = some none),
  EXV.exCB K (He.ga K "NoSize"),
  EXV.iniB K (He.ga K "NoSize"),
  decide (PySem.W.findIn K (.ref (He.ga K "NoSize")) "thing" = some none),
  EXV.exCB K (He.ga K "NoRoom"),
  EXV.iniB K (He.ga K "NoRoom"),
  decide (PySem.W.findIn K (.ref (He.ga K "NoRoom")) "kind" = some none),
  decide (PySem.W.findIn K (.ref (He.ga K "NoRoom")) "lacking" = some none),
  EXV.exCB K (He.ga K "Crowded"),
  EXV.iniB K (He.ga K "Crowded"),
  decide (PySem.W.findIn K (.ref (He.ga K "Crowded")) "kind" = some none),
  decide (PySem.W.findIn K (.ref (He.ga K "Crowded")) "needed" = some none),
  EXV.exCB K (He.ga K "NoBudget"),
  EXV.iniB K (He.ga K "NoBudget"),
  decide (PySem.W.findIn K (.ref (He.ga K "NoBudget")) "thing" = some none),
  EXV.exCB K (He.ga K "Within"),
  EXV.iniB K (He.ga K "Within"),
  EXV.exCB K (He.ga K "NoChange"),
  EXV.iniB K (He.ga K "NoChange"),
  decide (PySem.W.findIn K (.ref (He.ga K "NoChange")) "kind" = some none),
  EXV.exCB K (He.ga K "Unlike"),
  EXV.iniB K (He.ga K "Unlike"),
  decide (PySem.W.findIn K (.ref (He.ga K "Unlike")) "word" = some none),
  EXV.exCB K (He.ga K "NotPlain"),
  EXV.iniB K (He.ga K "NotPlain"),
  decide (PySem.W.findIn K (.ref (He.ga K "NotPlain")) "kind" = some none),
  EXV.exCB K (He.ga K "NoLine"),
  EXV.iniB K (He.ga K "NoLine"),
  exN.all fun C => exN.all fun D => decide (PySem.W.kitOne K (.ref (He.ga K C)) (.ref (He.ga K D)) = some (exAb C D)),
  exN.all fun C => decide (PySem.W.kitOne K (.ref (He.ga K C)) (.type "ValueError") = some true)]
def exB (K : PySem.W.Frag) : Bool := (exL K).all id
theorem exB_at {K : PySem.W.Frag} (h : exB K = true) (i : Nat) {b : Bool} (e : (exL K)[i]? = some b) : b = true := List.all_eq_true.mp h b (List.mem_of_getElem? e)
/-- what the head tells of the text -/
class Facts (K : PySem.W.Frag) (mg : outParam (Str → Option Value)) : Prop where
  d_law_cell : ∃ fd, FunD K "_law_cell" "_law_cell" (defArgs s_law_cell) (defBody s_law_cell) (defScope s_law_cell) [] [] (He.ga K "_law_cell") fd
  g_law_cell : mg "_law_cell" = some (.ref (He.ga K "_law_cell"))
  d_law_stream : ∃ fd, FunD K "_law_stream" "_law_stream" (defArgs s_law_stream) (defBody s_law_stream) (defScope s_law_stream) [] [] (He.ga K "_law_stream") fd
  g_law_stream : mg "_law_stream" = some (.ref (He.ga K "_law_stream"))
  d_law_take : ∃ fd, FunD K "_law_take" "_law_take" (defArgs s_law_take) (defBody s_law_take) (defScope s_law_take) [] [] (He.ga K "_law_take") fd
  g_law_take : mg "_law_take" = some (.ref (He.ga K "_law_take"))
  d_law_thing : ∃ fd, FunD K "_law_thing" "_law_thing" (defArgs s_law_thing) (defBody s_law_thing) (defScope s_law_thing) [] [] (He.ga K "_law_thing") fd
  g_law_thing : mg "_law_thing" = some (.ref (He.ga K "_law_thing"))
  d_law_first : ∃ fd, FunD K "_law_first" "_law_first" (defArgs s_law_first) (defBody s_law_first) (defScope s_law_first) [] [] (He.ga K "_law_first") fd
  g_law_first : mg "_law_first" = some (.ref (He.ga K "_law_first"))
  d_law_kinds : ∃ fd, FunD K "_law_kinds" "_law_kinds" (defArgs s_law_kinds) (defBody s_law_kinds) (defScope s_law_kinds) [] [] (He.ga K "_law_kinds") fd
  g_law_kinds : mg "_law_kinds" = some (.ref (He.ga K "_law_kinds"))
  d_law_fields : ∃ fd, FunD K "_law_fields" "_law_fields" (defArgs s_law_fields) (defBody s_law_fields) (defScope s_law_fields) [] [] (He.ga K "_law_fields") fd
  g_law_fields : mg "_law_fields" = some (.ref (He.ga K "_law_fields"))
  d_law_same : ∃ fd, FunD K "_law_same" "_law_same" (defArgs s_law_same) (defBody s_law_same) (defScope s_law_same) [] [] (He.ga K "_law_same") fd
  g_law_same : mg "_law_same" = some (.ref (He.ga K "_law_same"))
  d_law_right : ∃ fd, FunD K "_law_right" "_law_right" (defArgs s_law_right) (defBody s_law_right) (defScope s_law_right) [] [] (He.ga K "_law_right") fd
  g_law_right : mg "_law_right" = some (.ref (He.ga K "_law_right"))
  d_law : ∃ fd, FunD K "law" "law" (defArgs s_law) (defBody s_law) (defScope s_law) [] [] (He.ga K "law") fd
  g_law : mg "law" = some (.ref (He.ga K "law"))
  f_ValueError : mg "ValueError" = none
  f_bool : mg "bool" = none
  f_int : mg "int" = none
  f_isinstance : mg "isinstance" = none
  f_len : mg "len" = none
  f_list : mg "list" = none
  f_max : mg "max" = none
  f_min : mg "min" = none
  f_range : mg "range" = none
  dm_NoText___init__ : ∃ fd, FunD K "__init__" "NoText.__init__" (defArgs s_NoTextu_initu) (defBody s_NoTextu_initu) (defScope s_NoTextu_initu) [] [] (He.ma K (He.ga K "NoText") "__init__") fd
  dm_Twice___init__ : ∃ fd, FunD K "__init__" "Twice.__init__" (defArgs s_Twiceu_initu) (defBody s_Twiceu_initu) (defScope s_Twiceu_initu) [] [] (He.ma K (He.ga K "Twice") "__init__") fd
  dm_NoName___init__ : ∃ fd, FunD K "__init__" "NoName.__init__" (defArgs s_NoNameu_initu) (defBody s_NoNameu_initu) (defScope s_NoNameu_initu) [] [] (He.ma K (He.ga K "NoName") "__init__") fd
  dm_NoFit___init__ : ∃ fd, FunD K "__init__" "NoFit.__init__" (defArgs s_NoFitu_initu) (defBody s_NoFitu_initu) (defScope s_NoFitu_initu) [] [] (He.ma K (He.ga K "NoFit") "__init__") fd
  dm_BadLine___init__ : ∃ fd, FunD K "__init__" "BadLine.__init__" (defArgs s_BadLineu_initu) (defBody s_BadLineu_initu) (defScope s_BadLineu_initu) [] [] (He.ma K (He.ga K "BadLine") "__init__") fd
  dm_NoKind___init__ : ∃ fd, FunD K "__init__" "NoKind.__init__" (defArgs s_NoKindu_initu) (defBody s_NoKindu_initu) (defScope s_NoKindu_initu) [] [] (He.ma K (He.ga K "NoKind") "__init__") fd
  dm_NoRow___init__ : ∃ fd, FunD K "__init__" "NoRow.__init__" (defArgs s_NoRowu_initu) (defBody s_NoRowu_initu) (defScope s_NoRowu_initu) [] [] (He.ma K (He.ga K "NoRow") "__init__") fd
  dm_NoState___init__ : ∃ fd, FunD K "__init__" "NoState.__init__" (defArgs s_NoStateu_initu) (defBody s_NoStateu_initu) (defScope s_NoStateu_initu) [] [] (He.ma K (He.ga K "NoState") "__init__") fd
  dm_BadStep___init__ : ∃ fd, FunD K "__init__" "BadStep.__init__" (defArgs s_BadStepu_initu) (defBody s_BadStepu_initu) (defScope s_BadStepu_initu) [] [] (He.ma K (He.ga K "BadStep") "__init__") fd
  dm_NoPlaces___init__ : ∃ fd, FunD K "__init__" "NoPlaces.__init__" (defArgs s_NoPlacesu_initu) (defBody s_NoPlacesu_initu) (defScope s_NoPlacesu_initu) [] [] (He.ma K (He.ga K "NoPlaces") "__init__") fd
  dm_NoSize___init__ : ∃ fd, FunD K "__init__" "NoSize.__init__" (defArgs s_NoSizeu_initu) (defBody s_NoSizeu_initu) (defScope s_NoSizeu_initu) [] [] (He.ma K (He.ga K "NoSize") "__init__") fd
  dm_NoRoom___init__ : ∃ fd, FunD K "__init__" "NoRoom.__init__" (defArgs s_NoRoomu_initu) (defBody s_NoRoomu_initu) (defScope s_NoRoomu_initu) [] [] (He.ma K (He.ga K "NoRoom") "__init__") fd
  dm_Crowded___init__ : ∃ fd, FunD K "__init__" "Crowded.__init__" (defArgs s_Crowdedu_initu) (defBody s_Crowdedu_initu) (defScope s_Crowdedu_initu) [] [] (He.ma K (He.ga K "Crowded") "__init__") fd
  dm_NoBudget___init__ : ∃ fd, FunD K "__init__" "NoBudget.__init__" (defArgs s_NoBudgetu_initu) (defBody s_NoBudgetu_initu) (defScope s_NoBudgetu_initu) [] [] (He.ma K (He.ga K "NoBudget") "__init__") fd
  dm_Within___init__ : ∃ fd, FunD K "__init__" "Within.__init__" (defArgs s_Withinu_initu) (defBody s_Withinu_initu) (defScope s_Withinu_initu) [] [] (He.ma K (He.ga K "Within") "__init__") fd
  dm_NoChange___init__ : ∃ fd, FunD K "__init__" "NoChange.__init__" (defArgs s_NoChangeu_initu) (defBody s_NoChangeu_initu) (defScope s_NoChangeu_initu) [] [] (He.ma K (He.ga K "NoChange") "__init__") fd
  dm_Unlike___init__ : ∃ fd, FunD K "__init__" "Unlike.__init__" (defArgs s_Unlikeu_initu) (defBody s_Unlikeu_initu) (defScope s_Unlikeu_initu) [] [] (He.ma K (He.ga K "Unlike") "__init__") fd
  dm_NotPlain___init__ : ∃ fd, FunD K "__init__" "NotPlain.__init__" (defArgs s_NotPlainu_initu) (defBody s_NotPlainu_initu) (defScope s_NotPlainu_initu) [] [] (He.ma K (He.ga K "NotPlain") "__init__") fd
  dm_NoLine___init__ : ∃ fd, FunD K "__init__" "NoLine.__init__" (defArgs s_NoLineu_initu) (defBody s_NoLineu_initu) (defScope s_NoLineu_initu) [] [] (He.ma K (He.ga K "NoLine") "__init__") fd
  gc_RowsError : mg "RowsError" = some (.ref (He.ga K "RowsError"))
  gc_NoText : mg "NoText" = some (.ref (He.ga K "NoText"))
  gc_Twice : mg "Twice" = some (.ref (He.ga K "Twice"))
  gc_NoName : mg "NoName" = some (.ref (He.ga K "NoName"))
  gc_NoFit : mg "NoFit" = some (.ref (He.ga K "NoFit"))
  gc_BadLine : mg "BadLine" = some (.ref (He.ga K "BadLine"))
  gc_NoKind : mg "NoKind" = some (.ref (He.ga K "NoKind"))
  gc_NoRow : mg "NoRow" = some (.ref (He.ga K "NoRow"))
  gc_NoState : mg "NoState" = some (.ref (He.ga K "NoState"))
  gc_BadStep : mg "BadStep" = some (.ref (He.ga K "BadStep"))
  gc_NoPlaces : mg "NoPlaces" = some (.ref (He.ga K "NoPlaces"))
  gc_NoSize : mg "NoSize" = some (.ref (He.ga K "NoSize"))
  gc_NoRoom : mg "NoRoom" = some (.ref (He.ga K "NoRoom"))
  gc_Crowded : mg "Crowded" = some (.ref (He.ga K "Crowded"))
  gc_NoBudget : mg "NoBudget" = some (.ref (He.ga K "NoBudget"))
  gc_Within : mg "Within" = some (.ref (He.ga K "Within"))
  gc_NoChange : mg "NoChange" = some (.ref (He.ga K "NoChange"))
  gc_Unlike : mg "Unlike" = some (.ref (He.ga K "Unlike"))
  gc_NotPlain : mg "NotPlain" = some (.ref (He.ga K "NotPlain"))
  gc_NoLine : mg "NoLine" = some (.ref (He.ga K "NoLine"))
  x_RowsError : EXV.Ex K (He.ga K "RowsError")
  xr_RowsError : EXV.Ro K (He.ga K "RowsError")
  x_NoText : EXV.Ex K (He.ga K "NoText")
  xi_NoText : EXV.Ini K (He.ga K "NoText")
  xn_NoText_place : PySem.W.findIn K (.ref (He.ga K "NoText")) "place" = some none
  x_Twice : EXV.Ex K (He.ga K "Twice")
  xi_Twice : EXV.Ini K (He.ga K "Twice")
  xn_Twice_name : PySem.W.findIn K (.ref (He.ga K "Twice")) "name" = some none
  x_NoName : EXV.Ex K (He.ga K "NoName")
  xi_NoName : EXV.Ini K (He.ga K "NoName")
  xn_NoName_name : PySem.W.findIn K (.ref (He.ga K "NoName")) "name" = some none
  x_NoFit : EXV.Ex K (He.ga K "NoFit")
  xi_NoFit : EXV.Ini K (He.ga K "NoFit")
  xn_NoFit_name : PySem.W.findIn K (.ref (He.ga K "NoFit")) "name" = some none
  x_BadLine : EXV.Ex K (He.ga K "BadLine")
  xi_BadLine : EXV.Ini K (He.ga K "BadLine")
  xn_BadLine_line : PySem.W.findIn K (.ref (He.ga K "BadLine")) "line" = some none
  x_NoKind : EXV.Ex K (He.ga K "NoKind")
  xi_NoKind : EXV.Ini K (He.ga K "NoKind")
  xn_NoKind_name : PySem.W.findIn K (.ref (He.ga K "NoKind")) "name" = some none
  x_NoRow : EXV.Ex K (He.ga K "NoRow")
  xi_NoRow : EXV.Ini K (He.ga K "NoRow")
  xn_NoRow_row : PySem.W.findIn K (.ref (He.ga K "NoRow")) "row" = some none
  x_NoState : EXV.Ex K (He.ga K "NoState")
  xi_NoState : EXV.Ini K (He.ga K "NoState")
  xn_NoState_thing : PySem.W.findIn K (.ref (He.ga K "NoState")) "thing" = some none
  x_BadStep : EXV.Ex K (He.ga K "BadStep")
  xi_BadStep : EXV.Ini K (He.ga K "BadStep")
  xn_BadStep_thing : PySem.W.findIn K (.ref (He.ga K "BadStep")) "thing" = some none
  x_NoPlaces : EXV.Ex K (He.ga K "NoPlaces")
  xi_NoPlaces : EXV.Ini K (He.ga K "NoPlaces")
  xn_NoPlaces_many : PySem.W.findIn K (.ref (He.ga K "NoPlaces")) "many" = some none
  x_NoSize : EXV.Ex K (He.ga K "NoSize")
  xi_NoSize : EXV.Ini K (He.ga K "NoSize")
  xn_NoSize_thing : PySem.W.findIn K (.ref (He.ga K "NoSize")) "thing" = some none
  x_NoRoom : EXV.Ex K (He.ga K "NoRoom")
  xi_NoRoom : EXV.Ini K (He.ga K "NoRoom")
  xn_NoRoom_kind : PySem.W.findIn K (.ref (He.ga K "NoRoom")) "kind" = some none
  xn_NoRoom_lacking : PySem.W.findIn K (.ref (He.ga K "NoRoom")) "lacking" = some none
  x_Crowded : EXV.Ex K (He.ga K "Crowded")
  xi_Crowded : EXV.Ini K (He.ga K "Crowded")
  xn_Crowded_kind : PySem.W.findIn K (.ref (He.ga K "Crowded")) "kind" = some none
  xn_Crowded_needed : PySem.W.findIn K (.ref (He.ga K "Crowded")) "needed" = some none
  x_NoBudget : EXV.Ex K (He.ga K "NoBudget")
  xi_NoBudget : EXV.Ini K (He.ga K "NoBudget")
  xn_NoBudget_thing : PySem.W.findIn K (.ref (He.ga K "NoBudget")) "thing" = some none
  x_Within : EXV.Ex K (He.ga K "Within")
  xi_Within : EXV.Ini K (He.ga K "Within")
  x_NoChange : EXV.Ex K (He.ga K "NoChange")
  xi_NoChange : EXV.Ini K (He.ga K "NoChange")
  xn_NoChange_kind : PySem.W.findIn K (.ref (He.ga K "NoChange")) "kind" = some none
  x_Unlike : EXV.Ex K (He.ga K "Unlike")
  xi_Unlike : EXV.Ini K (He.ga K "Unlike")
  xn_Unlike_word : PySem.W.findIn K (.ref (He.ga K "Unlike")) "word" = some none
  x_NotPlain : EXV.Ex K (He.ga K "NotPlain")
  xi_NotPlain : EXV.Ini K (He.ga K "NotPlain")
  xn_NotPlain_kind : PySem.W.findIn K (.ref (He.ga K "NotPlain")) "kind" = some none
  x_NoLine : EXV.Ex K (He.ga K "NoLine")
  xi_NoLine : EXV.Ini K (He.ga K "NoLine")
  xk : ∀ C ∈ exN, ∀ D ∈ exN, PySem.W.kitOne K (.ref (He.ga K C)) (.ref (He.ga K D)) = some (exAb C D)
  xv : ∀ C ∈ exN, PySem.W.kitOne K (.ref (He.ga K C)) (.type "ValueError") = some true
theorem facts_of {h : Heap} {K : PySem.W.Frag} {mg : Str → Option Value} (X : K.In h) (G : h.Ns mainGlobals mg) (c : He.SaysD fa fn K) (cx : exB K = true) : Facts K mg where
  d_law_cell := c.def_ 0 rfl
  g_law_cell := He.glo_ok X G (c.fact 0 rfl)
  d_law_stream := c.def_ 1 rfl
  g_law_stream := He.glo_ok X G (c.fact 1 rfl)
  d_law_take := c.def_ 2 rfl
  g_law_take := He.glo_ok X G (c.fact 2 rfl)
  d_law_thing := c.def_ 3 rfl
  g_law_thing := He.glo_ok X G (c.fact 3 rfl)
  d_law_first := c.def_ 4 rfl
  g_law_first := He.glo_ok X G (c.fact 4 rfl)
  d_law_kinds := c.def_ 5 rfl
  g_law_kinds := He.glo_ok X G (c.fact 5 rfl)
  d_law_fields := c.def_ 6 rfl
  g_law_fields := He.glo_ok X G (c.fact 6 rfl)
  d_law_same := c.def_ 7 rfl
  g_law_same := He.glo_ok X G (c.fact 7 rfl)
  d_law_right := c.def_ 8 rfl
  g_law_right := He.glo_ok X G (c.fact 8 rfl)
  d_law := c.def_ 9 rfl
  g_law := He.glo_ok X G (c.fact 9 rfl)
  f_ValueError := He.free_ok X G (c.fact 10 rfl)
  f_bool := He.free_ok X G (c.fact 11 rfl)
  f_int := He.free_ok X G (c.fact 12 rfl)
  f_isinstance := He.free_ok X G (c.fact 13 rfl)
  f_len := He.free_ok X G (c.fact 14 rfl)
  f_list := He.free_ok X G (c.fact 15 rfl)
  f_max := He.free_ok X G (c.fact 16 rfl)
  f_min := He.free_ok X G (c.fact 17 rfl)
  f_range := He.free_ok X G (c.fact 18 rfl)
  dm_NoText___init__ := c.def_ 10 rfl
  dm_Twice___init__ := c.def_ 11 rfl
  dm_NoName___init__ := c.def_ 12 rfl
  dm_NoFit___init__ := c.def_ 13 rfl
  dm_BadLine___init__ := c.def_ 14 rfl
  dm_NoKind___init__ := c.def_ 15 rfl
  dm_NoRow___init__ := c.def_ 16 rfl
  dm_NoState___init__ := c.def_ 17 rfl
  dm_BadStep___init__ := c.def_ 18 rfl
  dm_NoPlaces___init__ := c.def_ 19 rfl
  dm_NoSize___init__ := c.def_ 20 rfl
  dm_NoRoom___init__ := c.def_ 21 rfl
  dm_Crowded___init__ := c.def_ 22 rfl
  dm_NoBudget___init__ := c.def_ 23 rfl
  dm_Within___init__ := c.def_ 24 rfl
  dm_NoChange___init__ := c.def_ 25 rfl
  dm_Unlike___init__ := c.def_ 26 rfl
  dm_NotPlain___init__ := c.def_ 27 rfl
  dm_NoLine___init__ := c.def_ 28 rfl
  gc_RowsError := He.glo_ok X G (c.fact 19 rfl)
  gc_NoText := He.glo_ok X G (c.fact 20 rfl)
  gc_Twice := He.glo_ok X G (c.fact 21 rfl)
  gc_NoName := He.glo_ok X G (c.fact 22 rfl)
  gc_NoFit := He.glo_ok X G (c.fact 23 rfl)
  gc_BadLine := He.glo_ok X G (c.fact 24 rfl)
  gc_NoKind := He.glo_ok X G (c.fact 25 rfl)
  gc_NoRow := He.glo_ok X G (c.fact 26 rfl)
  gc_NoState := He.glo_ok X G (c.fact 27 rfl)
  gc_BadStep := He.glo_ok X G (c.fact 28 rfl)
  gc_NoPlaces := He.glo_ok X G (c.fact 29 rfl)
  gc_NoSize := He.glo_ok X G (c.fact 30 rfl)
  gc_NoRoom := He.glo_ok X G (c.fact 31 rfl)
  gc_Crowded := He.glo_ok X G (c.fact 32 rfl)
  gc_NoBudget := He.glo_ok X G (c.fact 33 rfl)
  gc_Within := He.glo_ok X G (c.fact 34 rfl)
  gc_NoChange := He.glo_ok X G (c.fact 35 rfl)
  gc_Unlike := He.glo_ok X G (c.fact 36 rfl)
  gc_NotPlain := He.glo_ok X G (c.fact 37 rfl)
  gc_NoLine := He.glo_ok X G (c.fact 38 rfl)
  x_RowsError := EXV.exCB_ok (exB_at cx 0 rfl)
  xr_RowsError := EXV.roB_ok (exB_at cx 1 rfl)
  x_NoText := EXV.exCB_ok (exB_at cx 2 rfl)
  xi_NoText := EXV.iniB_ok (exB_at cx 3 rfl)
  xn_NoText_place := of_decide_eq_true (exB_at cx 4 rfl)
  x_Twice := EXV.exCB_ok (exB_at cx 5 rfl)
  xi_Twice := EXV.iniB_ok (exB_at cx 6 rfl)
  xn_Twice_name := of_decide_eq_true (exB_at cx 7 rfl)
  x_NoName := EXV.exCB_ok (exB_at cx 8 rfl)
  xi_NoName := EXV.iniB_ok (exB_at cx 9 rfl)
  xn_NoName_name := of_decide_eq_true (exB_at cx 10 rfl)
  x_NoFit := EXV.exCB_ok (exB_at cx 11 rfl)
  xi_NoFit := EXV.iniB_ok (exB_at cx 12 rfl)
  xn_NoFit_name := of_decide_eq_true (exB_at cx 13 rfl)
  x_BadLine := EXV.exCB_ok (exB_at cx 14 rfl)
  xi_BadLine := EXV.iniB_ok (exB_at cx 15 rfl)
  xn_BadLine_line := of_decide_eq_true (exB_at cx 16 rfl)
  x_NoKind := EXV.exCB_ok (exB_at cx 17 rfl)
  xi_NoKind := EXV.iniB_ok (exB_at cx 18 rfl)
  xn_NoKind_name := of_decide_eq_true (exB_at cx 19 rfl)
  x_NoRow := EXV.exCB_ok (exB_at cx 20 rfl)
  xi_NoRow := EXV.iniB_ok (exB_at cx 21 rfl)
  xn_NoRow_row := of_decide_eq_true (exB_at cx 22 rfl)
  x_NoState := EXV.exCB_ok (exB_at cx 23 rfl)
  xi_NoState := EXV.iniB_ok (exB_at cx 24 rfl)
  xn_NoState_thing := of_decide_eq_true (exB_at cx 25 rfl)
  x_BadStep := EXV.exCB_ok (exB_at cx 26 rfl)
  xi_BadStep := EXV.iniB_ok (exB_at cx 27 rfl)
  xn_BadStep_thing := of_decide_eq_true (exB_at cx 28 rfl)
  x_NoPlaces := EXV.exCB_ok (exB_at cx 29 rfl)
  xi_NoPlaces := EXV.iniB_ok (exB_at cx 30 rfl)
  xn_NoPlaces_many := of_decide_eq_true (exB_at cx 31 rfl)
  x_NoSize := EXV.exCB_ok (exB_at cx 32 rfl)
  xi_NoSize := EXV.iniB_ok (exB_at cx 33 rfl)
  xn_NoSize_thing := of_decide_eq_true (exB_at cx 34 rfl)
  x_NoRoom := EXV.exCB_ok (exB_at cx 35 rfl)
  xi_NoRoom := EXV.iniB_ok (exB_at cx 36 rfl)
  xn_NoRoom_kind := of_decide_eq_true (exB_at cx 37 rfl)
  xn_NoRoom_lacking := of_decide_eq_true (exB_at cx 38 rfl)
  x_Crowded := EXV.exCB_ok (exB_at cx 39 rfl)
  xi_Crowded := EXV.iniB_ok (exB_at cx 40 rfl)
  xn_Crowded_kind := of_decide_eq_true (exB_at cx 41 rfl)
  xn_Crowded_needed := of_decide_eq_true (exB_at cx 42 rfl)
  x_NoBudget := EXV.exCB_ok (exB_at cx 43 rfl)
  xi_NoBudget := EXV.iniB_ok (exB_at cx 44 rfl)
  xn_NoBudget_thing := of_decide_eq_true (exB_at cx 45 rfl)
  x_Within := EXV.exCB_ok (exB_at cx 46 rfl)
  xi_Within := EXV.iniB_ok (exB_at cx 47 rfl)
  x_NoChange := EXV.exCB_ok (exB_at cx 48 rfl)
  xi_NoChange := EXV.iniB_ok (exB_at cx 49 rfl)
  xn_NoChange_kind := of_decide_eq_true (exB_at cx 50 rfl)
  x_Unlike := EXV.exCB_ok (exB_at cx 51 rfl)
  xi_Unlike := EXV.iniB_ok (exB_at cx 52 rfl)
  xn_Unlike_word := of_decide_eq_true (exB_at cx 53 rfl)
  x_NotPlain := EXV.exCB_ok (exB_at cx 54 rfl)
  xi_NotPlain := EXV.iniB_ok (exB_at cx 55 rfl)
  xn_NotPlain_kind := of_decide_eq_true (exB_at cx 56 rfl)
  x_NoLine := EXV.exCB_ok (exB_at cx 57 rfl)
  xi_NoLine := EXV.iniB_ok (exB_at cx 58 rfl)
  xk := EXV.all2_ok (exB_at cx 59 rfl)
  xv := EXV.all1_ok (exB_at cx 60 rfl)
end J
namespace J
open PySem PySem.Spec PyProof.Rows L2
def loose0 : List PySem.Str := ["_law_cell", "_law_stream", "_law_take", "_law_thing", "_law_first", "_law_kinds", "_law_fields", "_law_same", "_law_right", "RowsError", "NoText", "Twice", "NoName", "NoFit", "BadLine", "NoKind", "NoRow", "NoState", "BadStep", "NoPlaces", "NoSize", "NoRoom", "Crowded", "NoBudget", "Within", "NoChange", "Unlike", "NotPlain", "NoLine"]
def loose : List PySem.Str := loose0
abbrev rowR : PySem.W.OpenRow := PySem.W.OpenLaw.row PySem.Challenge.rw_rowsjoined_k04_refusals_apart
abbrev hk : PySem.W.Hook := HKS.hookS 4 fa fn [] exB
def ob (s : PySem.W.SharedT) : He.AlX := HKS.obsS 4 fa fn [] exB (HandSHeadRun.getT s)
theorem ob_eq (s : PySem.W.SharedT) : ob s = hk.obs s.abs := HKS.obsS_eq (HandSHeadRun.getT_eq s)
theorem run (w : World) : HandSHeadRun.RunEq rowR (PySem.W.view rowR.prog [31]) hk ob 12000 loose w := by
  intro os
  kernel_rfl
end J
namespace J
open PySem PySem.Spec PyProof.Rows L2

local macro_rules | `(tactic| walk_at "ty") => `(tactic| first
  | with_reducible exact ty_int
  | with_reducible exact ty_bl
  | with_reducible exact ty_str
  | with_reducible exact ty_non
  | ((with_reducible refine' ty_lst ?vv); (case vv => walk_at "tr"))
  | ((with_reducible refine' ty_sqT ?vv); (case vv => walk_at "tr"))
  | ((with_reducible refine' ty_dic ?vv); (case vv => walk_at "tr")))
local macro_rules | `(tactic| walk_at "ix") => `(tactic| first | exact at0 | exact at1 | exact at2 | assumption)
local macro_rules | `(tactic| walk_at "size") => `(tactic| first
  | assumption
  | (show _ < sizeLine; rw [sizeLine_eq]; (try simp only [List.length_cons, List.length_nil, List.length_append, List.length_map]); omega)
  | (show _ ≤ sizeLine; rw [sizeLine_eq]; (try simp only [List.length_cons, List.length_nil, List.length_append, List.length_map]); omega))
local macro_rules | `(tactic| walk_at "side") => `(tactic| first
  | assumption
  | ((with_reducible refine cdw ?_ ?_) <;> omega)
  | omega
  | (exact ⟨by omega, by omega⟩)
  | (exact Or.inl ⟨by omega, by omega⟩)
  | (exact Or.inr ⟨by omega, by omega⟩)
  | decide
  | (simp only [List.length_cons, List.length_nil, List.length_append, List.length_map]; omega)
  | (show _ ≤ _; decide))
local macro_rules | `(tactic| walk_at "as") => `(tactic| with_reducible assumption)
local macro_rules | `(tactic| walk_at "tr") => `(tactic| first
  | with_reducible assumption
  | with_reducible exact upd_same
  | ((with_reducible refine' SqL.of ?hh); (case hh => walk_at "as"))
  | ((with_reducible refine' SqT.of ?hh); (case hh => walk_at "as"))
  | ((with_reducible refine' Same.stm ?ee ?gg); (case ee => walk_at "as"); (case gg => walk_at "tr"))
  | ((with_reducible refine' Same.sqT ?ee ?gg); (case ee => walk_at "as"); (case gg => walk_at "tr"))
  | ((with_reducible refine' Same.sqL ?ee ?gg); (case ee => walk_at "as"); (case gg => walk_at "tr"))
  | ((with_reducible refine' Same.at ?ee ?gg); (case ee => walk_at "as"); (case gg => walk_at "tr"))
  | ((with_reducible refine' But.stm ?ee ?ff ?gg); (case ee => walk_at "as"); (case ff => walk_at "ne"); (case gg => walk_at "tr"))
  | ((with_reducible refine' But.tup ?ee ?ff ?gg); (case ee => walk_at "as"); (case ff => walk_at "tr1"); (case gg => walk_at "tr"))
  | ((with_reducible refine' But.sqT ?ee ?ff ?gg); (case ee => walk_at "as"); (case ff => walk_at "tr1"); (case gg => walk_at "tr"))
  | ((with_reducible refine' But.tupL ?ee ?ff ?gg); (case ee => walk_at "as"); (case ff => walk_at "tr1"); (case gg => walk_at "tr"))
  | ((with_reducible refine' But.sqTL ?ee ?ff ?gg); (case ee => walk_at "as"); (case ff => walk_at "tr1"); (case gg => walk_at "tr"))
  | ((with_reducible refine' But.sqL ?ee ?ff ?gg); (case ee => walk_at "as"); (case ff => walk_at "ne"); (case gg => walk_at "tr"))
  | ((with_reducible refine' But.at ?ee ?ff ?gg); (case ee => walk_at "as"); (case ff => walk_at "ne"); (case gg => walk_at "tr")))
local macro_rules | `(tactic| walk_at "ts") => `(tactic| first
  | with_reducible assumption
  | with_reducible exact TS.refl _
  | ((with_reducible refine' TS.trans ?gg (TS.of ?ee)); (case ee => walk_at "as"); (case gg => walk_at "ts"))
  | ((with_reducible refine' TS.trans ?gg (TS.butS ?ee ?ff)); (case ee => walk_at "as"); (case ff => walk_at "tr1"); (case gg => walk_at "ts"))
  | ((with_reducible refine' TS.trans ?gg (TS.butL ?ee ?ff)); (case ee => walk_at "as"); (case ff => walk_at "tr1"); (case gg => walk_at "ts"))
  | ((with_reducible refine' TS.trans ?gg (TS.butI ?ee ?ff)); (case ee => walk_at "as"); (case ff => walk_at "tr1"); (case gg => walk_at "ts")))
local macro_rules | `(tactic| walk_at "sm") => `(tactic| first
  | with_reducible assumption
  | with_reducible exact Same.refl _
  | ((with_reducible refine' Same.trans ?gg ?ee); (case ee => walk_at "as"); (case gg => walk_at "sm"))
  | ((with_reducible refine' But.new ?gg ?nn ?ee); (case ee => walk_at "as"); (case nn => walk_at "fr"); (case gg => walk_at "sm")))
local macro_rules | `(tactic| walk_at "fr") => `(tactic| first
  | with_reducible assumption
  | ((with_reducible refine' Same.back ?ee ?nn); (case nn => walk_at "as"); (case ee => walk_at "sm"))
  | ((with_reducible refine' But.back ?ee ?ff ?nn); (case nn => walk_at "as"); (case ff => walk_at "ne0"); (case ee => walk_at "bu")))
local macro_rules | `(tactic| walk_at "bu") => `(tactic| first
  | with_reducible assumption
  | with_reducible exact But.refl _ _
  | ((with_reducible refine' But.trans ?gg ?ee); (case ee => walk_at "as"); (case gg => walk_at "bu"))
  | ((with_reducible refine' But.trans ?gg (But.of ?ee)); (case ee => walk_at "as"); (case gg => walk_at "bu"))
  | ((with_reducible refine' But.new2 ?gg ?nn ?ee); (case ee => walk_at "as"); (case nn => walk_at "frB"); (case gg => walk_at "bu")))
local macro_rules | `(tactic| walk_at "frB") => `(tactic| first
  | with_reducible assumption
  | ((with_reducible refine' Same.back ?ee ?nn); (case nn => walk_at "as"); (case ee => walk_at "sm"))
  | ((with_reducible refine' But.back' ?ee ?ff ?nn); (case nn => walk_at "as"); (case ee => walk_at "bu"); (case ff => walk_at "tr1")))
local macro_rules | `(tactic| walk_at "tr1") => `(tactic| first
  | with_reducible assumption
  | ((with_reducible refine' Same.stm ?ee ?gg); (case ee => walk_at "as"); (case gg => walk_at "tr1"))
  | ((with_reducible refine' Same.at ?ee ?gg); (case ee => walk_at "as"); (case gg => walk_at "tr1"))
  | ((with_reducible refine' But.at ?ee ?ff ?gg); (case ee => walk_at "as"); (case ff => walk_at "ne0"); (case gg => walk_at "tr1"))
  | ((with_reducible refine' But.stm ?ee ?ff ?gg); (case ee => walk_at "as"); (case ff => walk_at "ne0"); (case gg => walk_at "tr1")))
local macro_rules | `(tactic| walk_at "ne0") => `(tactic| first
  | with_reducible assumption
  | (with_reducible apply Ne.symm; with_reducible assumption))
local macro_rules | `(tactic| walk_at "ne") => `(tactic| first
  | with_reducible assumption
  | (with_reducible apply Ne.symm; with_reducible assumption)
  | ((with_reducible refine' stm_ne ?hh ?nn); (case nn => walk_at "as"); (case hh => walk_at "tr1"))
  | ((with_reducible refine' ne_of_none ?hh ?nn); (case nn => walk_at "as"); (case hh => walk_at "tr1"))
  | ((with_reducible apply Ne.symm); (with_reducible refine' ne_of_none ?hh ?nn); (case nn => walk_at "as"); (case hh => walk_at "tr1")))
local macro_rules | `(tactic| walk_at "v") => `(tactic| first
  | with_reducible refine w_seq ?_
  | ((with_reducible refine' w_var ?vv ?_); (case vv => exact rfl))
  | with_reducible refine w_c ?_
  | with_reducible refine w_op ?_
  | with_reducible refine w_asg ?_
  | with_reducible refine w_gName ?_
  | with_reducible refine w_ret ?_
  | with_reducible refine w_ifS ?_
  | with_reducible refine w_drop ?_
  | with_reducible refine w_next ?_
  | with_reducible refine w_cons ?_
  | with_reducible refine w_nil ?_
  | with_reducible refine w_call ?_
  | with_reducible refine w_cb ?_
  | with_reducible refine w_rI0 ?_
  | with_reducible refine w_addI ?_
  | with_reducible refine w_eqI ?_
  | with_reducible refine w_neI ?_
  | with_reducible refine w_eqS ?_
  | with_reducible refine w_neS ?_
  | with_reducible refine w_eqB ?_
  | with_reducible refine w_neB ?_
  | with_reducible refine w_chain ?_
  | with_reducible refine w_test ?_
  | with_reducible refine w_tB ?_
  | with_reducible refine w_bl ?_
  | ((with_reducible refine' w_mulI ?vv ?_); (case vv => walk_at "side"))
  | ((with_reducible refine' w_rI ?vv ?_); (case vv => walk_at "side"))
  | with_reducible refine w_int1 ?_
  | with_reducible refine w_int1b ?_
  | with_reducible refine w_tup ?_
  | with_reducible refine w_lst ?_
  | with_reducible refine w_un ?_
  | with_reducible refine w_rU ?_
  | with_reducible refine w_not ?_
  | with_reducible refine w_notV ?_
  | with_reducible refine w_ifE ?_
  | with_reducible refine w_nT ?_
  | with_reducible refine w_nF ?_
  | with_reducible refine iteT ?_
  | with_reducible refine iteF ?_
  | ((with_reducible refine' w_ixT ?vv ?ww ?_); (case vv => walk_at "tr"); (case ww => walk_at "ix"))
  | ((with_reducible refine' w_ixL ?vv ?ww ?_); (case vv => walk_at "tr"); (case ww => walk_at "ix"))
  | with_reducible refine w_gSub ?_
  | ((with_reducible refine' w_setL ?vv ?ww ?_); (case vv => walk_at "tr"); (case ww => first | rfl | decide | assumption))
  | ((with_reducible refine' w_lenL ?vv ?_); (case vv => walk_at "tr"))
  | ((with_reducible refine' w_lenT ?vv ?_); (case vv => walk_at "tr"))
  | with_reducible refine w_max2 ?_
  | with_reducible refine w_max3 ?_
  | with_reducible refine w_din ?_
  | with_reducible refine w_dnotin ?_
  | with_reducible refine w_dput ?_
  | with_reducible refine w_min2 ?_
  | with_reducible refine w_bm ?_
  | with_reducible refine w_bm0 ?_
  | ((with_reducible refine' w_tyL ?vv ?_); (case vv => walk_at "tr"))
  | ((with_reducible refine' w_append ?vv ?ww ?_); (case vv => walk_at "tr"); (case ww => walk_at "size"))
  | ((with_reducible refine' w_size ?vv ?_); (case vv => walk_at "size"))
  | with_reducible refine w_forL ?_
  | with_reducible refine w_forT ?_
  | with_reducible refine w_forR1 ?_
  | with_reducible refine w_forR2 ?_
  | with_reducible refine w_lcL ?_
  | with_reducible refine w_lcT ?_
  | with_reducible refine w_lcR1 ?_
  | with_reducible refine w_yes ?_
  | with_reducible refine w_sl ?_
  | with_reducible refine w_noPart ?_
  | with_reducible refine w_part ?_
  | with_reducible refine w_int ?_
  | ((with_reducible refine' w_slL ?vv ?_); (case vv => walk_at "tr"))
  | ((with_reducible refine' w_seqL ?vv ?ww ?_); (case vv => walk_at "tr"); (case ww => rfl))
  | ((with_reducible refine' w_seqT ?vv ?ww ?_); (case vv => walk_at "tr"); (case ww => rfl))
  | with_reducible refine w_gNil ?_
  | with_reducible refine w_gCons ?_
  | with_reducible refine w_forZ ?_
  | with_reducible refine w_forM ?_
  | with_reducible refine w_forE ?_
  | with_reducible refine w_forV ?_
  | with_reducible refine w_lcZ ?_
  | with_reducible refine w_lcE ?_
  | ((with_reducible refine' w_isi (b := true) ?vv ?ww ?_); (case vv => walk_at "ty"); (case ww => decide +kernel))
  | ((with_reducible refine' w_isi (b := false) ?vv ?ww ?_); (case vv => walk_at "ty"); (case ww => decide +kernel))
  | with_reducible refine w_revL ?_
  | with_reducible refine w_pairN ?_
  | with_reducible refine w_pairC ?_
  | with_reducible refine w_dget ?_
  | with_reducible refine w_met ?_
  | ((with_reducible refine' w_metAt ?vv ?ww ?_); (case vv => walk_at "tr"); (case ww => rfl))
  | with_reducible refine w_mkI ?_
  | with_reducible refine w_fld ?_
  | ((with_reducible refine' w_fldAt ?vv ?cc ?nn ?ww ?_); (case vv => walk_at "tr"); (case cc => walk_at "cls"); (case nn => walk_at "na"); (case ww => rfl))
  | with_reducible refine w_sfld ?_
  | ((with_reducible refine' w_sfldAt ?vv ?cc ?nn ?ll ?ee ?_); (case vv => walk_at "tr"); (case cc => walk_at "cls"); (case nn => walk_at "na"); (case ll => simp); (case ee => rfl))
  | ((with_reducible refine' w_tupL ?vv ?_); (case vv => walk_at "tr"))
  | ((with_reducible refine' w_tupT ?vv ?_); (case vv => walk_at "tr"))
  | ((with_reducible refine' w_listL ?vv ?_); (case vv => walk_at "tr"))
  | ((with_reducible refine' w_listT ?vv ?_); (case vv => walk_at "tr"))
  | with_reducible refine w_tyS ?_
  | with_reducible refine w_lcZM ?_
  | with_reducible refine w_js ?_
  | with_reducible refine w_jsN ?_
  | ((with_reducible refine' w_jsP ?vv ?_); (case vv => walk_at "size"))
  | with_reducible refine w_fmt ?_
  | with_reducible refine w_forRR ?_
  | with_reducible refine w_retN ?_
  | with_reducible refine w_break ?_
  | with_reducible refine w_cont ?_)
local macro_rules | `(tactic| walk_at "w") => `(tactic| first
  | walk_at "v"
  | with_reducible refine w_or ?_
  | with_reducible refine w_and ?_
  | with_reducible refine w_andV ?_
  | with_reducible refine w_orV ?_)
local macro_rules | `(tactic| walk_at "wd") => `(tactic| first
  | walk_at "w"
  | ((with_reducible refine' w_decT ?vv ?_); (case vv => decide +kernel))
  | ((with_reducible refine' w_decF ?vv ?_); (case vv => decide +kernel)))
local macro_rules | `(tactic| walk_at "tz") => `(tactic| (intro S z; (repeat walk_at "w"); exact z))
local macro_rules | `(tactic| walk_at "wf") => `(tactic| first
  | walk_at "wd"
  | ((with_reducible refine' w_decF ?vv ?_); (case vv => with_reducible assumption)))
/-! ### the draws, alike in all laws -/
def spCell (K : PySem.W.Frag) : Sp := fun vs H Q _ => ∃ (a : Addr) (ns : List Int) (k : Int), vs = [.ref a, .int k] ∧ SqL K H a (ns.map V.int) ∧ 0 ≤ k ∧ ∀ n : Int, Q (.int n) H
def spStream : Sp := fun vs H Q _ => ∃ c : Int, vs = [.int c] ∧ ∀ s H', Same H H' → H s = none → Stm H' s → Q (.ref s) H'
def spTake : Sp := fun vs H Q _ => ∃ (s : Addr) (m : Int), vs = [.ref s, .int m] ∧ Stm H s ∧ 0 < m ∧ m < 2 ^ 200 ∧ ∀ d H', 0 ≤ d → d < m → Stm H' s → But s H H' → Q (.int d) H'
theorem len_law_cell {K : PySem.W.Frag} {vs H Q E} (h : spCell K vs H Q E) : vs.length = 2 := by obtain ⟨_, _, _, rfl, _⟩ := h; rfl
theorem len_law_stream {vs H Q E} (h : spStream vs H Q E) : vs.length = 1 := by obtain ⟨_, rfl, _⟩ := h; rfl
theorem len_law_take {vs H Q E} (h : spTake vs H Q E) : vs.length = 2 := by obtain ⟨_, _, rfl, _⟩ := h; rfl
def spLaw (K : PySem.W.Frag) : Sp := fun vs H Q _ => ∃ (a : Addr) (ns : List Int), vs = [.ref a] ∧ SqL K H a (ns.map V.int) ∧ ns.length ≤ 63 ∧ ∀ H', Q (.bl true) H'
theorem len_law {K : PySem.W.Frag} {vs H Q E} (h : spLaw K vs H Q E) : vs.length = 1 := by obtain ⟨_, _, rfl, _⟩ := h; rfl
theorem law_in {K : PySem.W.Frag} {H : Hp} {a : Addr} {ns : List Int} (hl : ns.length ≤ 63) (_ : Only H) (hS : SqL K H a (ns.map V.int)) : spLaw K [.ref a] H (fun v _ => v = .bl true) fun _ _ _ => False :=
  ⟨a, ns, rfl, hS, hl, fun _ => rfl⟩
section
variable {P : Program} {w : World} {K : PySem.W.Frag} {mg : Str → Option Value}
theorem ok_law_cell [c : Facts K mg] : Fn P w K mg "_law_cell" 1 ["script", "k"] ((spCell K)) := by
  obtain ⟨fd, F⟩ := c.d_law_cell
  refine Fn.mk' F c.g_law_cell sc_law_cell (k := 0) (fun vs H Q E h => ?_) (fun _ _ _ _ _ _ us hl => match us, hl with | [_, _], _ => rfl) (fun base cdv A outer s H vs Q E hr h => ?_)
  · exact len_law_cell h
  · have nd := sc_law_cell.nd
    have hu := hu_of hr
    refine ⟨_, (pss_cons (ps_if (pt_cmpR op_lt (pv 1) (pe_callB (call_lenA (K := K) rfl) (by rfl) c.f_len boot_len (pa_cons (pv 0) pa_nil)) (nomark _)) (pss_one (ps_ret (pe_ix (ix_any (K := K) rfl) (pv 0) (pv 1) (fun _ _ => rfl)))) pss_nil)
      (pss_one (ps_ret (pe_op (op_addA (K := K) rfl) (pe_op op_mulA pe_int (pv 1)) pe_int)))), ?_⟩
    try dsimp only [cxOf, Cx.nox, Cx.wish]
    obtain ⟨a, ns, k, rfl, hS, h0, q⟩ := h
    repeat walk_at "w"
    refine ite2 (fun hk => ?_) (fun hk => ?_)
    · rw [decide_eq_true_eq] at hk
      repeat walk_at "w"
      obtain ⟨v, e1, e2, _⟩ := atI_some h0 hk
      obtain ⟨n, _, rfl⟩ := List.mem_map.mp e2
      exact w_ixL hS e1 (q n)
    · repeat walk_at "w"
      exact q _
theorem ok_law_stream [c : Facts K mg] : Fn P w K mg "_law_stream" 1 ["cell"] (spStream) := by
  obtain ⟨fd, F⟩ := c.d_law_stream
  refine Fn.mk' F c.g_law_stream sc_law_stream (k := 0) (fun vs H Q E h => ?_) (fun _ _ _ _ _ _ us hl => match us, hl with | [_], _ => rfl) (fun base cdv A outer s H vs Q E hr h => ?_)
  · exact len_law_stream h
  · have nd := sc_law_stream.nd
    have hu := hu_of hr
    refine ⟨_, (pss_one (ps_ret (pe_lst (pa_cons (pe_op op_mulA (pv 0) (pe_callTy call_int1A (by rfl) c.f_int boot_int (pa_cons (pe_cmpR op_ge (pv 0) (pe_op op_pow pe_int pe_int) (nomark _)) pa_nil))) (pa_cons (pe_op op_mod (pv 0) pe_int) (pa_cons pe_int pa_nil)))))), ?_⟩
    try dsimp only [cxOf, Cx.nox, Cx.wish]
    obtain ⟨n, rfl, q⟩ := h
    repeat walk_at "w"
    exact w_new fun p H1 n1 s1 f1 => q _ _ s1 n1 ⟨_, _, _, f1⟩
theorem ok_law_take [c : Facts K mg] : Fn P w K mg "_law_take" 1 ["stream", "many"] (spTake) := by
  obtain ⟨fd, F⟩ := c.d_law_take
  refine Fn.mk' F c.g_law_take sc_law_take (k := 0) (fun vs H Q E h => ?_) (fun _ _ _ _ _ _ us hl => match us, hl with | [_, _], _ => rfl) (fun base cdv A outer s H vs Q E hr h => ?_)
  · exact len_law_take h
  · have nd := sc_law_take.nd
    have hu := hu_of hr
    refine ⟨_, (pss_cons (ps_if (pt_cmpR op_gt (pe_ix (ix_any (K := K) rfl) (pv 0) pe_int (fun _ _ => rfl)) pe_int (nomark _)) (pss_cons (ps_set (i := 2) nd rfl (Or.inl rfl) (pe_op op_mod (pe_ix (ix_any (K := K) rfl) (pv 0) pe_int (fun _ _ => rfl)) (pv 1)))
      (pss_cons (ps_asg (pe_op op_fdivW (pe_ix (ix_any (K := K) rfl) (pv 0) pe_int (fun _ _ => rfl)) (pv 1)) (pg_sub (pv 0) pe_int set_list))
      (pss_one (ps_ret (pv 2))))) pss_nil)
      (pss_cons (ps_asg (pe_op (op_addA (K := K) rfl) (pe_ix (ix_any (K := K) rfl) (pv 0) pe_int (fun _ _ => rfl)) pe_int) (pg_sub (pv 0) pe_int set_list))
      (pss_cons (ps_set (i := 3) nd rfl (Or.inl rfl) (pe_op op_mod (pe_op (op_addA (K := K) rfl) (pe_op op_mulA (pe_op (op_addA (K := K) rfl) (pe_ix (ix_any (K := K) rfl) (pv 0) pe_int (fun _ _ => rfl)) (pe_op op_mulA pe_int (pe_ix (ix_any (K := K) rfl) (pv 0) pe_int (fun _ _ => rfl)))) pe_int) pe_int) pe_int))
      (pss_cons (ps_set (i := 3) nd rfl (Or.inl rfl) (pe_op op_mod (pe_op op_mulA (pv 3) (pv 3)) pe_int))
      (pss_one (ps_ret (pe_op op_mod (pe_op op_fdivW (pe_op op_mod (pe_op (op_addA (K := K) rfl) (pe_op op_mulA (pv 3) (pv 3)) (pe_op op_mulA pe_int (pe_ix (ix_any (K := K) rfl) (pv 0) pe_int (fun _ _ => rfl)))) pe_int) pe_int) (pv 1)))))))), ?_⟩
    try dsimp only [cxOf, Cx.nox, Cx.wish]
    obtain ⟨s, m, rfl, ⟨a, b, d, hs⟩, hm, hl, q⟩ := h
    repeat walk_at "w"
    refine ite2 (fun hk => ?_) (fun hk => ?_)
    · repeat walk_at "w"
      refine w_chg fun H1 e1 f1 => ?_
      repeat walk_at "w"
      exact q _ _ (Int.emod_nonneg _ (by omega)) (Int.emod_lt_of_pos _ hm) ⟨_, _, _, f1⟩ e1
    · repeat walk_at "w"
      refine w_chg fun H1 e1 f1 => ?_
      repeat walk_at "w"
      exact q _ _ (Int.emod_nonneg _ (by omega)) (Int.emod_lt_of_pos _ hm) ⟨_, _, _, f1⟩ e1
end


end J
namespace J
open PySem PySem.Spec PyProof.Rows L2
--plain
/-! ### xs != ys, where the items are the same things, or alike flat ones -/
section
open PySem PySem.Spec PyProof.Rows
namespace LSE
def simV (v : V) : Prop := flatB v = true ∨ ∃ a, v = .ref a
def rNeSm (K : PySem.W.Frag) : R2 := fun x y H Q => ∃ (p q : Addr) (xs : List V), x = .ref p ∧ y = .ref q ∧ SqL K H p xs ∧ SqL K H q xs ∧ (∀ v ∈ xs, simV v) ∧ Q (.bl false) H
theorem eqAt_sim {A : Around} {s : Shared} {v : V} {u u' : Value} (r : RelV v u) (r' : RelV v u') (f : simV v) : SeqAt.EqAt A s u u' true := by
  rcases f with f | ⟨a, rfl⟩
  · exact eqAt_same r r' f
  · cases (show u = Value.ref a from r)
    cases (show u' = Value.ref a from r')
    exact SeqAt.EqAt.same _
theorem vals_at : ∀ {xs : List V} {us ws : List Value}, Vals xs us → Vals xs ws → (∀ v ∈ xs, simV v) → us.length = ws.length ∧ ∀ (A : Around) (s : Shared) (j : Nat) (h1 : j < us.length) (h2 : j < ws.length), SeqAt.EqAt A s us[j] ws[j] true
  | [], _, _, .nil, .nil, _ => ⟨rfl, fun _ _ j h => absurd h (Nat.not_lt_zero _)⟩
  | v :: xs, _, _, .cons r t, .cons r' t', f => by
    obtain ⟨l, ih⟩ := vals_at t t' fun x hx => f x (List.mem_cons_of_mem _ hx)
    refine ⟨by rw [List.length_cons, List.length_cons, l], fun A s j h1 h2 => ?_⟩
    cases j with
    | zero => exact eqAt_sim r r' (f v List.mem_cons_self)
    | succ j => exact ih A s j (by simpa using h1) (by simpa using h2)
theorem op_neSm {X : Cx} {K : PySem.W.Frag} (hK : X.K = K) (hu : X.A.units + 64 < cLine) : OpR X (compareOp .NotEq) (rNeSm K) := by
  subst hK
  intro pins s σ H x y v u Q I rx ry h
  obtain ⟨p, q, xs, rfl, rfl, hp, hq, f, k⟩ := h
  cases (show v = Value.ref p from rx)
  cases (show u = Value.ref q from ry)
  obtain ⟨i1, r1, l1, _⟩ := I.list hp
  obtain ⟨i2, r2, l2, _⟩ := I.list hq
  obtain ⟨hl, he⟩ := vals_at r1 r2 f
  have rc := SeqAt.RcNeAt.lists (A := X.A) (e := fun _ => true) l1.isList l2.isList (by simpa using hl) (by omega) (fun j h1 h2 => by simpa using he X.A.in1 s j (by simpa using h1) (by simpa using h2))
  have al : (List.range i1.toArray.size).all (fun _ => true) = true := by simp
  rw [al] at rc
  exact rc X.prog X.w _ _ ⟨.bl false, H, I, rfl, k⟩
def rEqSm (K : PySem.W.Frag) : R2 := fun x y H Q => ∃ (p q : Addr) (xs : List V), x = .ref p ∧ y = .ref q ∧ SqL K H p xs ∧ SqL K H q xs ∧ (∀ v ∈ xs, simV v) ∧ Q (.bl true) H
theorem op_eqSm {X : Cx} {K : PySem.W.Frag} (hK : X.K = K) (hu : X.A.units + 64 < cLine) : OpR X (compareOp .Eq) (rEqSm K) := by
  subst hK
  intro pins s σ H x y v u Q I rx ry h
  obtain ⟨p, q, xs, rfl, rfl, hp, hq, f, k⟩ := h
  cases (show v = Value.ref p from rx)
  cases (show u = Value.ref q from ry)
  obtain ⟨i1, r1, l1, _⟩ := I.list hp
  obtain ⟨i2, r2, l2, _⟩ := I.list hq
  obtain ⟨hl, he⟩ := vals_at r1 r2 f
  have rc := SeqAt.RcAt.lists (A := X.A) (e := fun _ => true) l1.isList l2.isList (by simpa using hl) (by omega) (fun j h1 h2 => by simpa using he X.A.in1 s j (by simpa using h1) (by simpa using h2))
  have al : (List.range i1.toArray.size).all (fun _ => true) = true := by simp
  rw [al] at rc
  exact rc X.prog X.w _ _ ⟨.bl true, H, I, rfl, k⟩
theorem op_eqS {X : Cx} {K : PySem.W.Frag} (hK : X.K = K) (hu : X.A.units + 64 < cLine) : OpR X (compareOp .Eq) (fun x y H Q => rEqA K x y H Q ∨ rEqSm K x y H Q) := (op_eqA hK hu).or (op_eqSm hK hu)
theorem op_neS {X : Cx} {K : PySem.W.Frag} (hK : X.K = K) (hu : X.A.units + 64 < cLine) : OpR X (compareOp .NotEq) (fun x y H Q => rNeA K x y H Q ∨ rNeSm K x y H Q) := (op_neA hK hu).or (op_neSm hK hu)
end LSE
end

end J
namespace J
open PySem PySem.Spec PyProof.Rows L2

local macro_rules | `(tactic| walk_at "ty") => `(tactic| first
  | with_reducible exact ty_int
  | with_reducible exact ty_bl
  | with_reducible exact ty_str
  | with_reducible exact ty_non
  | ((with_reducible refine' ty_lst ?vv); (case vv => walk_at "tr"))
  | ((with_reducible refine' ty_sqT ?vv); (case vv => walk_at "tr"))
  | ((with_reducible refine' ty_dic ?vv); (case vv => walk_at "tr")))
local macro_rules | `(tactic| walk_at "ix") => `(tactic| first | exact at0 | exact at1 | exact at2 | assumption)
local macro_rules | `(tactic| walk_at "size") => `(tactic| first
  | assumption
  | (show _ < sizeLine; rw [sizeLine_eq]; (try simp only [List.length_cons, List.length_nil, List.length_append, List.length_map]); omega)
  | (show _ ≤ sizeLine; rw [sizeLine_eq]; (try simp only [List.length_cons, List.length_nil, List.length_append, List.length_map]); omega))
local macro_rules | `(tactic| walk_at "side") => `(tactic| first
  | assumption
  | ((with_reducible refine cdw ?_ ?_) <;> omega)
  | omega
  | (exact ⟨by omega, by omega⟩)
  | (exact Or.inl ⟨by omega, by omega⟩)
  | (exact Or.inr ⟨by omega, by omega⟩)
  | decide
  | (simp only [List.length_cons, List.length_nil, List.length_append, List.length_map]; omega)
  | (show _ ≤ _; decide))
local macro_rules | `(tactic| walk_at "as") => `(tactic| with_reducible assumption)
local macro_rules | `(tactic| walk_at "tr") => `(tactic| first
  | with_reducible assumption
  | with_reducible exact upd_same
  | ((with_reducible refine' SqL.of ?hh); (case hh => walk_at "as"))
  | ((with_reducible refine' SqT.of ?hh); (case hh => walk_at "as"))
  | ((with_reducible refine' Same.stm ?ee ?gg); (case ee => walk_at "as"); (case gg => walk_at "tr"))
  | ((with_reducible refine' Same.sqT ?ee ?gg); (case ee => walk_at "as"); (case gg => walk_at "tr"))
  | ((with_reducible refine' Same.sqL ?ee ?gg); (case ee => walk_at "as"); (case gg => walk_at "tr"))
  | ((with_reducible refine' Same.at ?ee ?gg); (case ee => walk_at "as"); (case gg => walk_at "tr"))
  | ((with_reducible refine' But.stm ?ee ?ff ?gg); (case ee => walk_at "as"); (case ff => walk_at "ne"); (case gg => walk_at "tr"))
  | ((with_reducible refine' But.tup ?ee ?ff ?gg); (case ee => walk_at "as"); (case ff => walk_at "tr1"); (case gg => walk_at "tr"))
  | ((with_reducible refine' But.sqT ?ee ?ff ?gg); (case ee => walk_at "as"); (case ff => walk_at "tr1"); (case gg => walk_at "tr"))
  | ((with_reducible refine' But.tupL ?ee ?ff ?gg); (case ee => walk_at "as"); (case ff => walk_at "tr1"); (case gg => walk_at "tr"))
  | ((with_reducible refine' But.sqTL ?ee ?ff ?gg); (case ee => walk_at "as"); (case ff => walk_at "tr1"); (case gg => walk_at "tr"))
  | ((with_reducible refine' But.sqL ?ee ?ff ?gg); (case ee => walk_at "as"); (case ff => walk_at "ne"); (case gg => walk_at "tr"))
  | ((with_reducible refine' But.at ?ee ?ff ?gg); (case ee => walk_at "as"); (case ff => walk_at "ne"); (case gg => walk_at "tr")))
local macro_rules | `(tactic| walk_at "ts") => `(tactic| first
  | with_reducible assumption
  | with_reducible exact TS.refl _
  | ((with_reducible refine' TS.trans ?gg (TS.of ?ee)); (case ee => walk_at "as"); (case gg => walk_at "ts"))
  | ((with_reducible refine' TS.trans ?gg (TS.butS ?ee ?ff)); (case ee => walk_at "as"); (case ff => walk_at "tr1"); (case gg => walk_at "ts"))
  | ((with_reducible refine' TS.trans ?gg (TS.butL ?ee ?ff)); (case ee => walk_at "as"); (case ff => walk_at "tr1"); (case gg => walk_at "ts"))
  | ((with_reducible refine' TS.trans ?gg (TS.butI ?ee ?ff)); (case ee => walk_at "as"); (case ff => walk_at "tr1"); (case gg => walk_at "ts")))
local macro_rules | `(tactic| walk_at "sm") => `(tactic| first
  | with_reducible assumption
  | with_reducible exact Same.refl _
  | ((with_reducible refine' Same.trans ?gg ?ee); (case ee => walk_at "as"); (case gg => walk_at "sm"))
  | ((with_reducible refine' But.new ?gg ?nn ?ee); (case ee => walk_at "as"); (case nn => walk_at "fr"); (case gg => walk_at "sm")))
local macro_rules | `(tactic| walk_at "fr") => `(tactic| first
  | with_reducible assumption
  | ((with_reducible refine' Same.back ?ee ?nn); (case nn => walk_at "as"); (case ee => walk_at "sm"))
  | ((with_reducible refine' But.back ?ee ?ff ?nn); (case nn => walk_at "as"); (case ff => walk_at "ne0"); (case ee => walk_at "bu")))
local macro_rules | `(tactic| walk_at "bu") => `(tactic| first
  | with_reducible assumption
  | with_reducible exact But.refl _ _
  | ((with_reducible refine' But.trans ?gg ?ee); (case ee => walk_at "as"); (case gg => walk_at "bu"))
  | ((with_reducible refine' But.trans ?gg (But.of ?ee)); (case ee => walk_at "as"); (case gg => walk_at "bu"))
  | ((with_reducible refine' But.new2 ?gg ?nn ?ee); (case ee => walk_at "as"); (case nn => walk_at "frB"); (case gg => walk_at "bu")))
local macro_rules | `(tactic| walk_at "frB") => `(tactic| first
  | with_reducible assumption
  | ((with_reducible refine' Same.back ?ee ?nn); (case nn => walk_at "as"); (case ee => walk_at "sm"))
  | ((with_reducible refine' But.back' ?ee ?ff ?nn); (case nn => walk_at "as"); (case ee => walk_at "bu"); (case ff => walk_at "tr1")))
local macro_rules | `(tactic| walk_at "tr1") => `(tactic| first
  | with_reducible assumption
  | ((with_reducible refine' Same.stm ?ee ?gg); (case ee => walk_at "as"); (case gg => walk_at "tr1"))
  | ((with_reducible refine' Same.at ?ee ?gg); (case ee => walk_at "as"); (case gg => walk_at "tr1"))
  | ((with_reducible refine' But.at ?ee ?ff ?gg); (case ee => walk_at "as"); (case ff => walk_at "ne0"); (case gg => walk_at "tr1"))
  | ((with_reducible refine' But.stm ?ee ?ff ?gg); (case ee => walk_at "as"); (case ff => walk_at "ne0"); (case gg => walk_at "tr1")))
local macro_rules | `(tactic| walk_at "ne0") => `(tactic| first
  | with_reducible assumption
  | (with_reducible apply Ne.symm; with_reducible assumption))
local macro_rules | `(tactic| walk_at "ne") => `(tactic| first
  | with_reducible assumption
  | (with_reducible apply Ne.symm; with_reducible assumption)
  | ((with_reducible refine' stm_ne ?hh ?nn); (case nn => walk_at "as"); (case hh => walk_at "tr1"))
  | ((with_reducible refine' ne_of_none ?hh ?nn); (case nn => walk_at "as"); (case hh => walk_at "tr1"))
  | ((with_reducible apply Ne.symm); (with_reducible refine' ne_of_none ?hh ?nn); (case nn => walk_at "as"); (case hh => walk_at "tr1")))
local macro_rules | `(tactic| walk_at "v") => `(tactic| first
  | with_reducible refine w_seq ?_
  | ((with_reducible refine' w_var ?vv ?_); (case vv => exact rfl))
  | with_reducible refine w_c ?_
  | with_reducible refine w_op ?_
  | with_reducible refine w_asg ?_
  | with_reducible refine w_gName ?_
  | with_reducible refine w_ret ?_
  | with_reducible refine w_ifS ?_
  | with_reducible refine w_drop ?_
  | with_reducible refine w_next ?_
  | with_reducible refine w_cons ?_
  | with_reducible refine w_nil ?_
  | with_reducible refine w_call ?_
  | with_reducible refine w_cb ?_
  | with_reducible refine w_rI0 ?_
  | with_reducible refine w_addI ?_
  | with_reducible refine w_eqI ?_
  | with_reducible refine w_neI ?_
  | with_reducible refine w_eqS ?_
  | with_reducible refine w_neS ?_
  | with_reducible refine w_eqB ?_
  | with_reducible refine w_neB ?_
  | with_reducible refine w_chain ?_
  | with_reducible refine w_test ?_
  | with_reducible refine w_tB ?_
  | with_reducible refine w_bl ?_
  | ((with_reducible refine' w_mulI ?vv ?_); (case vv => walk_at "side"))
  | ((with_reducible refine' w_rI ?vv ?_); (case vv => walk_at "side"))
  | with_reducible refine w_int1 ?_
  | with_reducible refine w_int1b ?_
  | with_reducible refine w_tup ?_
  | with_reducible refine w_lst ?_
  | with_reducible refine w_un ?_
  | with_reducible refine w_rU ?_
  | with_reducible refine w_not ?_
  | with_reducible refine w_notV ?_
  | with_reducible refine w_ifE ?_
  | with_reducible refine w_nT ?_
  | with_reducible refine w_nF ?_
  | with_reducible refine iteT ?_
  | with_reducible refine iteF ?_
  | ((with_reducible refine' w_ixT ?vv ?ww ?_); (case vv => walk_at "tr"); (case ww => walk_at "ix"))
  | ((with_reducible refine' w_ixL ?vv ?ww ?_); (case vv => walk_at "tr"); (case ww => walk_at "ix"))
  | with_reducible refine w_gSub ?_
  | ((with_reducible refine' w_setL ?vv ?ww ?_); (case vv => walk_at "tr"); (case ww => first | rfl | decide | assumption))
  | ((with_reducible refine' w_lenL ?vv ?_); (case vv => walk_at "tr"))
  | ((with_reducible refine' w_lenT ?vv ?_); (case vv => walk_at "tr"))
  | with_reducible refine w_max2 ?_
  | with_reducible refine w_max3 ?_
  | with_reducible refine w_din ?_
  | with_reducible refine w_dnotin ?_
  | with_reducible refine w_dput ?_
  | with_reducible refine w_min2 ?_
  | with_reducible refine w_bm ?_
  | with_reducible refine w_bm0 ?_
  | ((with_reducible refine' w_tyL ?vv ?_); (case vv => walk_at "tr"))
  | ((with_reducible refine' w_append ?vv ?ww ?_); (case vv => walk_at "tr"); (case ww => walk_at "size"))
  | ((with_reducible refine' w_size ?vv ?_); (case vv => walk_at "size"))
  | with_reducible refine w_forL ?_
  | with_reducible refine w_forT ?_
  | with_reducible refine w_forR1 ?_
  | with_reducible refine w_forR2 ?_
  | with_reducible refine w_lcL ?_
  | with_reducible refine w_lcT ?_
  | with_reducible refine w_lcR1 ?_
  | with_reducible refine w_yes ?_
  | with_reducible refine w_sl ?_
  | with_reducible refine w_noPart ?_
  | with_reducible refine w_part ?_
  | with_reducible refine w_int ?_
  | ((with_reducible refine' w_slL ?vv ?_); (case vv => walk_at "tr"))
  | ((with_reducible refine' w_seqL ?vv ?ww ?_); (case vv => walk_at "tr"); (case ww => rfl))
  | ((with_reducible refine' w_seqT ?vv ?ww ?_); (case vv => walk_at "tr"); (case ww => rfl))
  | with_reducible refine w_gNil ?_
  | with_reducible refine w_gCons ?_
  | with_reducible refine w_forZ ?_
  | with_reducible refine w_forM ?_
  | with_reducible refine w_forE ?_
  | with_reducible refine w_forV ?_
  | with_reducible refine w_lcZ ?_
  | with_reducible refine w_lcE ?_
  | ((with_reducible refine' w_isi (b := true) ?vv ?ww ?_); (case vv => walk_at "ty"); (case ww => decide +kernel))
  | ((with_reducible refine' w_isi (b := false) ?vv ?ww ?_); (case vv => walk_at "ty"); (case ww => decide +kernel))
  | with_reducible refine w_revL ?_
  | with_reducible refine w_pairN ?_
  | with_reducible refine w_pairC ?_
  | with_reducible refine w_dget ?_
  | with_reducible refine w_met ?_
  | ((with_reducible refine' w_metAt ?vv ?ww ?_); (case vv => walk_at "tr"); (case ww => rfl))
  | with_reducible refine w_mkI ?_
  | with_reducible refine w_fld ?_
  | ((with_reducible refine' w_fldAt ?vv ?cc ?nn ?ww ?_); (case vv => walk_at "tr"); (case cc => walk_at "cls"); (case nn => walk_at "na"); (case ww => rfl))
  | with_reducible refine w_sfld ?_
  | ((with_reducible refine' w_sfldAt ?vv ?cc ?nn ?ll ?ee ?_); (case vv => walk_at "tr"); (case cc => walk_at "cls"); (case nn => walk_at "na"); (case ll => simp); (case ee => rfl))
  | ((with_reducible refine' w_tupL ?vv ?_); (case vv => walk_at "tr"))
  | ((with_reducible refine' w_tupT ?vv ?_); (case vv => walk_at "tr"))
  | ((with_reducible refine' w_listL ?vv ?_); (case vv => walk_at "tr"))
  | ((with_reducible refine' w_listT ?vv ?_); (case vv => walk_at "tr"))
  | with_reducible refine w_tyS ?_
  | with_reducible refine w_lcZM ?_
  | with_reducible refine w_js ?_
  | with_reducible refine w_jsN ?_
  | ((with_reducible refine' w_jsP ?vv ?_); (case vv => walk_at "size"))
  | with_reducible refine w_fmt ?_
  | with_reducible refine w_forRR ?_
  | with_reducible refine w_retN ?_
  | with_reducible refine w_break ?_
  | with_reducible refine w_cont ?_)
local macro_rules | `(tactic| walk_at "w") => `(tactic| first
  | walk_at "v"
  | with_reducible refine w_or ?_
  | with_reducible refine w_and ?_
  | with_reducible refine w_andV ?_
  | with_reducible refine w_orV ?_)
local macro_rules | `(tactic| walk_at "wd") => `(tactic| first
  | walk_at "w"
  | ((with_reducible refine' w_decT ?vv ?_); (case vv => decide +kernel))
  | ((with_reducible refine' w_decF ?vv ?_); (case vv => decide +kernel)))
local macro_rules | `(tactic| walk_at "tz") => `(tactic| (intro S z; (repeat walk_at "w"); exact z))
local macro_rules | `(tactic| walk_at "wf") => `(tactic| first
  | walk_at "wd"
  | ((with_reducible refine' w_decF ?vv ?_); (case vv => with_reducible assumption)))
/-! ### errors: their classes' __init__ -/
/-- at a: an error of the class at C with the fields l (the last one first) -/
def ErrAt (H : Hp) (a C : Addr) (l : List (Str × V)) : Prop := (l = [] ∧ H a = some (exo a C none)) ∨ ∃ dx, H a = some (exo a C (some dx)) ∧ H dx = some (exd dx l)
theorem ErrAt.sm {H H' : Hp} {a C : Addr} {l : List (Str × V)} (h : ErrAt H a C l) (e : Same H H') : ErrAt H' a C l := by
  rcases h with ⟨z, h⟩ | ⟨dx, h, g⟩
  · exact .inl ⟨z, e _ _ h⟩
  · exact .inr ⟨dx, e _ _ h, e _ _ g⟩
def spEx0 (C : Addr) : Sp := fun vs H Q _ => ∃ a, vs = [.ref a] ∧ H a = some (exo a C none) ∧ ∀ H', ErrAt H' a C [] → But a H H' → Q .non H'
def spEx1 (C : Addr) (f : Str) : Sp := fun vs H Q _ => ∃ a x, vs = [.ref a, x] ∧ H a = some (exo a C none) ∧ ∀ H', ErrAt H' a C [(f, x)] → But a H H' → Q .non H'
def spEx2 (C : Addr) (f g : Str) : Sp := fun vs H Q _ => ∃ a x y, vs = [.ref a, x, y] ∧ H a = some (exo a C none) ∧ ∀ H', ErrAt H' a C [(g, y), (f, x)] → But a H H' → Q .non H'
section
variable {K : PySem.W.Frag} {σ : L2.St} {H : Hp} {Q : VK}
theorem w_vei {ta : TA} (k : ta σ H fun vs H1 => ∃ (a C : Addr) (ws : List V), vs = .ref a :: ws ∧ ws.length ≤ 1000 ∧ OexC K C ∧ H1 a = some (exo a C none) ∧ Q .non H1) : tVeI K ta σ H Q := k
theorem w_ost {f : Str} {to te : TE} {D : L2.Ends} (k : te σ H fun y H1 => to σ H1 fun x H2 => ∃ a C : Addr, x = .ref a ∧ OexC K C ∧ PySem.W.findIn K (.ref C) f = some none ∧
  ((H2 a = some (exo a C none) ∧ ∀ dx, H2 dx = none → dx ≠ a → D.nx σ (upd (upd H2 dx (exd dx [(f, y)])) a (exo a C (some dx)))) ∨
    ∃ (dx : Addr) (fs : List (Str × V)), H2 a = some (exo a C (some dx)) ∧ H2 dx = some (exd dx fs) ∧ fs.length ≤ 900 ∧ D.nx σ (upd H2 dx (exd dx ((f, y) :: fs))))) : tOst K f to te D σ H := k
end
theorem len_NoTextu_initu {K : PySem.W.Frag} {vs H Q E} (h : spEx1 (He.ga K "NoText") "place" vs H Q E) : vs.length = 2 := by obtain ⟨_, _, rfl, _⟩ := h; rfl
theorem len_Twiceu_initu {K : PySem.W.Frag} {vs H Q E} (h : spEx1 (He.ga K "Twice") "name" vs H Q E) : vs.length = 2 := by obtain ⟨_, _, rfl, _⟩ := h; rfl
theorem len_NoNameu_initu {K : PySem.W.Frag} {vs H Q E} (h : spEx1 (He.ga K "NoName") "name" vs H Q E) : vs.length = 2 := by obtain ⟨_, _, rfl, _⟩ := h; rfl
theorem len_NoFitu_initu {K : PySem.W.Frag} {vs H Q E} (h : spEx1 (He.ga K "NoFit") "name" vs H Q E) : vs.length = 2 := by obtain ⟨_, _, rfl, _⟩ := h; rfl
theorem len_BadLineu_initu {K : PySem.W.Frag} {vs H Q E} (h : spEx1 (He.ga K "BadLine") "line" vs H Q E) : vs.length = 2 := by obtain ⟨_, _, rfl, _⟩ := h; rfl
theorem len_NoKindu_initu {K : PySem.W.Frag} {vs H Q E} (h : spEx1 (He.ga K "NoKind") "name" vs H Q E) : vs.length = 2 := by obtain ⟨_, _, rfl, _⟩ := h; rfl
theorem len_NoRowu_initu {K : PySem.W.Frag} {vs H Q E} (h : spEx1 (He.ga K "NoRow") "row" vs H Q E) : vs.length = 2 := by obtain ⟨_, _, rfl, _⟩ := h; rfl
theorem len_NoStateu_initu {K : PySem.W.Frag} {vs H Q E} (h : spEx1 (He.ga K "NoState") "thing" vs H Q E) : vs.length = 2 := by obtain ⟨_, _, rfl, _⟩ := h; rfl
theorem len_BadStepu_initu {K : PySem.W.Frag} {vs H Q E} (h : spEx1 (He.ga K "BadStep") "thing" vs H Q E) : vs.length = 2 := by obtain ⟨_, _, rfl, _⟩ := h; rfl
theorem len_NoPlacesu_initu {K : PySem.W.Frag} {vs H Q E} (h : spEx1 (He.ga K "NoPlaces") "many" vs H Q E) : vs.length = 2 := by obtain ⟨_, _, rfl, _⟩ := h; rfl
theorem len_NoSizeu_initu {K : PySem.W.Frag} {vs H Q E} (h : spEx1 (He.ga K "NoSize") "thing" vs H Q E) : vs.length = 2 := by obtain ⟨_, _, rfl, _⟩ := h; rfl
theorem len_NoRoomu_initu {K : PySem.W.Frag} {vs H Q E} (h : spEx2 (He.ga K "NoRoom") "kind" "lacking" vs H Q E) : vs.length = 3 := by obtain ⟨_, _, _, rfl, _⟩ := h; rfl
theorem len_Crowdedu_initu {K : PySem.W.Frag} {vs H Q E} (h : spEx2 (He.ga K "Crowded") "kind" "needed" vs H Q E) : vs.length = 3 := by obtain ⟨_, _, _, rfl, _⟩ := h; rfl
theorem len_NoBudgetu_initu {K : PySem.W.Frag} {vs H Q E} (h : spEx1 (He.ga K "NoBudget") "thing" vs H Q E) : vs.length = 2 := by obtain ⟨_, _, rfl, _⟩ := h; rfl
theorem len_Withinu_initu {K : PySem.W.Frag} {vs H Q E} (h : spEx0 (He.ga K "Within") vs H Q E) : vs.length = 1 := by obtain ⟨_, rfl, _⟩ := h; rfl
theorem len_NoChangeu_initu {K : PySem.W.Frag} {vs H Q E} (h : spEx1 (He.ga K "NoChange") "kind" vs H Q E) : vs.length = 2 := by obtain ⟨_, _, rfl, _⟩ := h; rfl
theorem len_Unlikeu_initu {K : PySem.W.Frag} {vs H Q E} (h : spEx1 (He.ga K "Unlike") "word" vs H Q E) : vs.length = 2 := by obtain ⟨_, _, rfl, _⟩ := h; rfl
theorem len_NotPlainu_initu {K : PySem.W.Frag} {vs H Q E} (h : spEx1 (He.ga K "NotPlain") "kind" vs H Q E) : vs.length = 2 := by obtain ⟨_, _, rfl, _⟩ := h; rfl
theorem len_NoLineu_initu {K : PySem.W.Frag} {vs H Q E} (h : spEx0 (He.ga K "NoLine") vs H Q E) : vs.length = 1 := by obtain ⟨_, rfl, _⟩ := h; rfl
section
variable {P : Program} {w : World} {K : PySem.W.Frag} {mg : Str → Option Value}
theorem ok_NoTextu_initu [c : Facts K mg] {f : Addr} {fd : FuncData} (F : FunD K "__init__" "NoText.__init__" (defArgs s_NoTextu_initu) (defBody s_NoTextu_initu) (defScope s_NoTextu_initu) [] [] f fd) : FnA P w K mg f 1 ["self", "place"] ((spEx1 (He.ga K "NoText") "place")) := by
  refine FnA.mk' F sc_NoTextu_initu (k := 0) (fun vs H Q E h => ?_) (fun _ _ _ _ _ _ us hl => match us, hl with | [_, _], _ => rfl) (fun base cdv A outer s H vs Q E hr h => ?_)
  · exact len_NoTextu_initu h
  · have nd := sc_NoTextu_initu.nd
    have hu := hu_of hr
    refine ⟨_, (pss_cons (ps_expr (EXV.pe_roinit (by rfl) c.gc_RowsError c.xr_RowsError.r c.xr_RowsError.v (pa_cons (pv 0) (pa_cons pe_str pa_nil))))
      (pss_one (ps_ost (pv 0) (pv 1)))), ?_⟩
    try dsimp only [cxOf, Cx.nox, Cx.wish]
    obtain ⟨a, x0, rfl, ha, q⟩ := h
    repeat walk_at "w"
    refine w_vei ?_
    repeat walk_at "w"
    refine ⟨a, _, _, rfl, by simp, Facts.x_NoText.o, ha, ?_⟩
    repeat walk_at "w"
    refine w_ost ?_
    repeat walk_at "w"
    refine ⟨a, _, rfl, Facts.x_NoText.o, Facts.xn_NoText_place, .inl ⟨ha, fun dx hd nd => ?_⟩⟩
    have b1 : But a H (upd (upd H dx (exd dx [("place", x0)])) a (exo a (He.ga K "NoText") (some dx))) := fun b o nb hb => by rw [upd_ne nb, upd_ne (ne_of_none hb hd)]; exact hb
    have e1 := upd_same (H := upd H dx (exd dx [("place", x0)])) (a := a) (o := exo a (He.ga K "NoText") (some dx))
    have e2 : upd (upd H dx (exd dx [("place", x0)])) a (exo a (He.ga K "NoText") (some dx)) dx = some (exd dx [("place", x0)]) := by rw [upd_ne nd]; exact upd_same
    repeat walk_at "w"
    exact q _ (.inr ⟨dx, e1, e2⟩) b1
theorem ok_Twiceu_initu [c : Facts K mg] {f : Addr} {fd : FuncData} (F : FunD K "__init__" "Twice.__init__" (defArgs s_Twiceu_initu) (defBody s_Twiceu_initu) (defScope s_Twiceu_initu) [] [] f fd) : FnA P w K mg f 1 ["self", "name"] ((spEx1 (He.ga K "Twice") "name")) := by
  refine FnA.mk' F sc_Twiceu_initu (k := 0) (fun vs H Q E h => ?_) (fun _ _ _ _ _ _ us hl => match us, hl with | [_, _], _ => rfl) (fun base cdv A outer s H vs Q E hr h => ?_)
  · exact len_Twiceu_initu h
  · have nd := sc_Twiceu_initu.nd
    have hu := hu_of hr
    refine ⟨_, (pss_cons (ps_expr (EXV.pe_roinit (by rfl) c.gc_RowsError c.xr_RowsError.r c.xr_RowsError.v (pa_cons (pv 0) (pa_cons pe_str pa_nil))))
      (pss_one (ps_ost (pv 0) (pv 1)))), ?_⟩
    try dsimp only [cxOf, Cx.nox, Cx.wish]
    obtain ⟨a, x0, rfl, ha, q⟩ := h
    repeat walk_at "w"
    refine w_vei ?_
    repeat walk_at "w"
    refine ⟨a, _, _, rfl, by simp, Facts.x_Twice.o, ha, ?_⟩
    repeat walk_at "w"
    refine w_ost ?_
    repeat walk_at "w"
    refine ⟨a, _, rfl, Facts.x_Twice.o, Facts.xn_Twice_name, .inl ⟨ha, fun dx hd nd => ?_⟩⟩
    have b1 : But a H (upd (upd H dx (exd dx [("name", x0)])) a (exo a (He.ga K "Twice") (some dx))) := fun b o nb hb => by rw [upd_ne nb, upd_ne (ne_of_none hb hd)]; exact hb
    have e1 := upd_same (H := upd H dx (exd dx [("name", x0)])) (a := a) (o := exo a (He.ga K "Twice") (some dx))
    have e2 : upd (upd H dx (exd dx [("name", x0)])) a (exo a (He.ga K "Twice") (some dx)) dx = some (exd dx [("name", x0)]) := by rw [upd_ne nd]; exact upd_same
    repeat walk_at "w"
    exact q _ (.inr ⟨dx, e1, e2⟩) b1
theorem ok_NoNameu_initu [c : Facts K mg] {f : Addr} {fd : FuncData} (F : FunD K "__init__" "NoName.__init__" (defArgs s_NoNameu_initu) (defBody s_NoNameu_initu) (defScope s_NoNameu_initu) [] [] f fd) : FnA P w K mg f 1 ["self", "name"] ((spEx1 (He.ga K "NoName") "name")) := by
  refine FnA.mk' F sc_NoNameu_initu (k := 0) (fun vs H Q E h => ?_) (fun _ _ _ _ _ _ us hl => match us, hl with | [_, _], _ => rfl) (fun base cdv A outer s H vs Q E hr h => ?_)
  · exact len_NoNameu_initu h
  · have nd := sc_NoNameu_initu.nd
    have hu := hu_of hr
    refine ⟨_, (pss_cons (ps_expr (EXV.pe_roinit (by rfl) c.gc_RowsError c.xr_RowsError.r c.xr_RowsError.v (pa_cons (pv 0) (pa_cons pe_str pa_nil))))
      (pss_one (ps_ost (pv 0) (pv 1)))), ?_⟩
    try dsimp only [cxOf, Cx.nox, Cx.wish]
    obtain ⟨a, x0, rfl, ha, q⟩ := h
    repeat walk_at "w"
    refine w_vei ?_
    repeat walk_at "w"
    refine ⟨a, _, _, rfl, by simp, Facts.x_NoName.o, ha, ?_⟩
    repeat walk_at "w"
    refine w_ost ?_
    repeat walk_at "w"
    refine ⟨a, _, rfl, Facts.x_NoName.o, Facts.xn_NoName_name, .inl ⟨ha, fun dx hd nd => ?_⟩⟩
    have b1 : But a H (upd (upd H dx (exd dx [("name", x0)])) a (exo a (He.ga K "NoName") (some dx))) := fun b o nb hb => by rw [upd_ne nb, upd_ne (ne_of_none hb hd)]; exact hb
    have e1 := upd_same (H := upd H dx (exd dx [("name", x0)])) (a := a) (o := exo a (He.ga K "NoName") (some dx))
    have e2 : upd (upd H dx (exd dx [("name", x0)])) a (exo a (He.ga K "NoName") (some dx)) dx = some (exd dx [("name", x0)]) := by rw [upd_ne nd]; exact upd_same
    repeat walk_at "w"
    exact q _ (.inr ⟨dx, e1, e2⟩) b1
theorem ok_NoFitu_initu [c : Facts K mg] {f : Addr} {fd : FuncData} (F : FunD K "__init__" "NoFit.__init__" (defArgs s_NoFitu_initu) (defBody s_NoFitu_initu) (defScope s_NoFitu_initu) [] [] f fd) : FnA P w K mg f 1 ["self", "name"] ((spEx1 (He.ga K "NoFit") "name")) := by
  refine FnA.mk' F sc_NoFitu_initu (k := 0) (fun vs H Q E h => ?_) (fun _ _ _ _ _ _ us hl => match us, hl with | [_, _], _ => rfl) (fun base cdv A outer s H vs Q E hr h => ?_)
  · exact len_NoFitu_initu h
  · have nd := sc_NoFitu_initu.nd
    have hu := hu_of hr
    refine ⟨_, (pss_cons (ps_expr (EXV.pe_roinit (by rfl) c.gc_RowsError c.xr_RowsError.r c.xr_RowsError.v (pa_cons (pv 0) (pa_cons pe_str pa_nil))))
      (pss_one (ps_ost (pv 0) (pv 1)))), ?_⟩
    try dsimp only [cxOf, Cx.nox, Cx.wish]
    obtain ⟨a, x0, rfl, ha, q⟩ := h
    repeat walk_at "w"
    refine w_vei ?_
    repeat walk_at "w"
    refine ⟨a, _, _, rfl, by simp, Facts.x_NoFit.o, ha, ?_⟩
    repeat walk_at "w"
    refine w_ost ?_
    repeat walk_at "w"
    refine ⟨a, _, rfl, Facts.x_NoFit.o, Facts.xn_NoFit_name, .inl ⟨ha, fun dx hd nd => ?_⟩⟩
    have b1 : But a H (upd (upd H dx (exd dx [("name", x0)])) a (exo a (He.ga K "NoFit") (some dx))) := fun b o nb hb => by rw [upd_ne nb, upd_ne (ne_of_none hb hd)]; exact hb
    have e1 := upd_same (H := upd H dx (exd dx [("name", x0)])) (a := a) (o := exo a (He.ga K "NoFit") (some dx))
    have e2 : upd (upd H dx (exd dx [("name", x0)])) a (exo a (He.ga K "NoFit") (some dx)) dx = some (exd dx [("name", x0)]) := by rw [upd_ne nd]; exact upd_same
    repeat walk_at "w"
    exact q _ (.inr ⟨dx, e1, e2⟩) b1
theorem ok_BadLineu_initu [c : Facts K mg] {f : Addr} {fd : FuncData} (F : FunD K "__init__" "BadLine.__init__" (defArgs s_BadLineu_initu) (defBody s_BadLineu_initu) (defScope s_BadLineu_initu) [] [] f fd) : FnA P w K mg f 1 ["self", "line"] ((spEx1 (He.ga K "BadLine") "line")) := by
  refine FnA.mk' F sc_BadLineu_initu (k := 0) (fun vs H Q E h => ?_) (fun _ _ _ _ _ _ us hl => match us, hl with | [_, _], _ => rfl) (fun base cdv A outer s H vs Q E hr h => ?_)
  · exact len_BadLineu_initu h
  · have nd := sc_BadLineu_initu.nd
    have hu := hu_of hr
    refine ⟨_, (pss_cons (ps_expr (EXV.pe_roinit (by rfl) c.gc_RowsError c.xr_RowsError.r c.xr_RowsError.v (pa_cons (pv 0) (pa_cons pe_str pa_nil))))
      (pss_one (ps_ost (pv 0) (pv 1)))), ?_⟩
    try dsimp only [cxOf, Cx.nox, Cx.wish]
    obtain ⟨a, x0, rfl, ha, q⟩ := h
    repeat walk_at "w"
    refine w_vei ?_
    repeat walk_at "w"
    refine ⟨a, _, _, rfl, by simp, Facts.x_BadLine.o, ha, ?_⟩
    repeat walk_at "w"
    refine w_ost ?_
    repeat walk_at "w"
    refine ⟨a, _, rfl, Facts.x_BadLine.o, Facts.xn_BadLine_line, .inl ⟨ha, fun dx hd nd => ?_⟩⟩
    have b1 : But a H (upd (upd H dx (exd dx [("line", x0)])) a (exo a (He.ga K "BadLine") (some dx))) := fun b o nb hb => by rw [upd_ne nb, upd_ne (ne_of_none hb hd)]; exact hb
    have e1 := upd_same (H := upd H dx (exd dx [("line", x0)])) (a := a) (o := exo a (He.ga K "BadLine") (some dx))
    have e2 : upd (upd H dx (exd dx [("line", x0)])) a (exo a (He.ga K "BadLine") (some dx)) dx = some (exd dx [("line", x0)]) := by rw [upd_ne nd]; exact upd_same
    repeat walk_at "w"
    exact q _ (.inr ⟨dx, e1, e2⟩) b1
theorem ok_NoKindu_initu [c : Facts K mg] {f : Addr} {fd : FuncData} (F : FunD K "__init__" "NoKind.__init__" (defArgs s_NoKindu_initu) (defBody s_NoKindu_initu) (defScope s_NoKindu_initu) [] [] f fd) : FnA P w K mg f 1 ["self", "name"] ((spEx1 (He.ga K "NoKind") "name")) := by
  refine FnA.mk' F sc_NoKindu_initu (k := 0) (fun vs H Q E h => ?_) (fun _ _ _ _ _ _ us hl => match us, hl with | [_, _], _ => rfl) (fun base cdv A outer s H vs Q E hr h => ?_)
  · exact len_NoKindu_initu h
  · have nd := sc_NoKindu_initu.nd
    have hu := hu_of hr
    refine ⟨_, (pss_cons (ps_expr (EXV.pe_roinit (by rfl) c.gc_RowsError c.xr_RowsError.r c.xr_RowsError.v (pa_cons (pv 0) (pa_cons pe_str pa_nil))))
      (pss_one (ps_ost (pv 0) (pv 1)))), ?_⟩
    try dsimp only [cxOf, Cx.nox, Cx.wish]
    obtain ⟨a, x0, rfl, ha, q⟩ := h
    repeat walk_at "w"
    refine w_vei ?_
    repeat walk_at "w"
    refine ⟨a, _, _, rfl, by simp, Facts.x_NoKind.o, ha, ?_⟩
    repeat walk_at "w"
    refine w_ost ?_
    repeat walk_at "w"
    refine ⟨a, _, rfl, Facts.x_NoKind.o, Facts.xn_NoKind_name, .inl ⟨ha, fun dx hd nd => ?_⟩⟩
    have b1 : But a H (upd (upd H dx (exd dx [("name", x0)])) a (exo a (He.ga K "NoKind") (some dx))) := fun b o nb hb => by rw [upd_ne nb, upd_ne (ne_of_none hb hd)]; exact hb
    have e1 := upd_same (H := upd H dx (exd dx [("name", x0)])) (a := a) (o := exo a (He.ga K "NoKind") (some dx))
    have e2 : upd (upd H dx (exd dx [("name", x0)])) a (exo a (He.ga K "NoKind") (some dx)) dx = some (exd dx [("name", x0)]) := by rw [upd_ne nd]; exact upd_same
    repeat walk_at "w"
    exact q _ (.inr ⟨dx, e1, e2⟩) b1
theorem ok_NoRowu_initu [c : Facts K mg] {f : Addr} {fd : FuncData} (F : FunD K "__init__" "NoRow.__init__" (defArgs s_NoRowu_initu) (defBody s_NoRowu_initu) (defScope s_NoRowu_initu) [] [] f fd) : FnA P w K mg f 1 ["self", "row"] ((spEx1 (He.ga K "NoRow") "row")) := by
  refine FnA.mk' F sc_NoRowu_initu (k := 0) (fun vs H Q E h => ?_) (fun _ _ _ _ _ _ us hl => match us, hl with | [_, _], _ => rfl) (fun base cdv A outer s H vs Q E hr h => ?_)
  · exact len_NoRowu_initu h
  · have nd := sc_NoRowu_initu.nd
    have hu := hu_of hr
    refine ⟨_, (pss_cons (ps_expr (EXV.pe_roinit (by rfl) c.gc_RowsError c.xr_RowsError.r c.xr_RowsError.v (pa_cons (pv 0) (pa_cons pe_str pa_nil))))
      (pss_one (ps_ost (pv 0) (pv 1)))), ?_⟩
    try dsimp only [cxOf, Cx.nox, Cx.wish]
    obtain ⟨a, x0, rfl, ha, q⟩ := h
    repeat walk_at "w"
    refine w_vei ?_
    repeat walk_at "w"
    refine ⟨a, _, _, rfl, by simp, Facts.x_NoRow.o, ha, ?_⟩
    repeat walk_at "w"
    refine w_ost ?_
    repeat walk_at "w"
    refine ⟨a, _, rfl, Facts.x_NoRow.o, Facts.xn_NoRow_row, .inl ⟨ha, fun dx hd nd => ?_⟩⟩
    have b1 : But a H (upd (upd H dx (exd dx [("row", x0)])) a (exo a (He.ga K "NoRow") (some dx))) := fun b o nb hb => by rw [upd_ne nb, upd_ne (ne_of_none hb hd)]; exact hb
    have e1 := upd_same (H := upd H dx (exd dx [("row", x0)])) (a := a) (o := exo a (He.ga K "NoRow") (some dx))
    have e2 : upd (upd H dx (exd dx [("row", x0)])) a (exo a (He.ga K "NoRow") (some dx)) dx = some (exd dx [("row", x0)]) := by rw [upd_ne nd]; exact upd_same
    repeat walk_at "w"
    exact q _ (.inr ⟨dx, e1, e2⟩) b1
theorem ok_NoStateu_initu [c : Facts K mg] {f : Addr} {fd : FuncData} (F : FunD K "__init__" "NoState.__init__" (defArgs s_NoStateu_initu) (defBody s_NoStateu_initu) (defScope s_NoStateu_initu) [] [] f fd) : FnA P w K mg f 1 ["self", "thing"] ((spEx1 (He.ga K "NoState") "thing")) := by
  refine FnA.mk' F sc_NoStateu_initu (k := 0) (fun vs H Q E h => ?_) (fun _ _ _ _ _ _ us hl => match us, hl with | [_, _], _ => rfl) (fun base cdv A outer s H vs Q E hr h => ?_)
  · exact len_NoStateu_initu h
  · have nd := sc_NoStateu_initu.nd
    have hu := hu_of hr
    refine ⟨_, (pss_cons (ps_expr (EXV.pe_roinit (by rfl) c.gc_RowsError c.xr_RowsError.r c.xr_RowsError.v (pa_cons (pv 0) (pa_cons pe_str pa_nil))))
      (pss_one (ps_ost (pv 0) (pv 1)))), ?_⟩
    try dsimp only [cxOf, Cx.nox, Cx.wish]
    obtain ⟨a, x0, rfl, ha, q⟩ := h
    repeat walk_at "w"
    refine w_vei ?_
    repeat walk_at "w"
    refine ⟨a, _, _, rfl, by simp, Facts.x_NoState.o, ha, ?_⟩
    repeat walk_at "w"
    refine w_ost ?_
    repeat walk_at "w"
    refine ⟨a, _, rfl, Facts.x_NoState.o, Facts.xn_NoState_thing, .inl ⟨ha, fun dx hd nd => ?_⟩⟩
    have b1 : But a H (upd (upd H dx (exd dx [("thing", x0)])) a (exo a (He.ga K "NoState") (some dx))) := fun b o nb hb => by rw [upd_ne nb, upd_ne (ne_of_none hb hd)]; exact hb
    have e1 := upd_same (H := upd H dx (exd dx [("thing", x0)])) (a := a) (o := exo a (He.ga K "NoState") (some dx))
    have e2 : upd (upd H dx (exd dx [("thing", x0)])) a (exo a (He.ga K "NoState") (some dx)) dx = some (exd dx [("thing", x0)]) := by rw [upd_ne nd]; exact upd_same
    repeat walk_at "w"
    exact q _ (.inr ⟨dx, e1, e2⟩) b1
theorem ok_BadStepu_initu [c : Facts K mg] {f : Addr} {fd : FuncData} (F : FunD K "__init__" "BadStep.__init__" (defArgs s_BadStepu_initu) (defBody s_BadStepu_initu) (defScope s_BadStepu_initu) [] [] f fd) : FnA P w K mg f 1 ["self", "thing"] ((spEx1 (He.ga K "BadStep") "thing")) := by
  refine FnA.mk' F sc_BadStepu_initu (k := 0) (fun vs H Q E h => ?_) (fun _ _ _ _ _ _ us hl => match us, hl with | [_, _], _ => rfl) (fun base cdv A outer s H vs Q E hr h => ?_)
  · exact len_BadStepu_initu h
  · have nd := sc_BadStepu_initu.nd
    have hu := hu_of hr
    refine ⟨_, (pss_cons (ps_expr (EXV.pe_roinit (by rfl) c.gc_RowsError c.xr_RowsError.r c.xr_RowsError.v (pa_cons (pv 0) (pa_cons pe_str pa_nil))))
      (pss_one (ps_ost (pv 0) (pv 1)))), ?_⟩
    try dsimp only [cxOf, Cx.nox, Cx.wish]
    obtain ⟨a, x0, rfl, ha, q⟩ := h
    repeat walk_at "w"
    refine w_vei ?_
    repeat walk_at "w"
    refine ⟨a, _, _, rfl, by simp, Facts.x_BadStep.o, ha, ?_⟩
    repeat walk_at "w"
    refine w_ost ?_
    repeat walk_at "w"
    refine ⟨a, _, rfl, Facts.x_BadStep.o, Facts.xn_BadStep_thing, .inl ⟨ha, fun dx hd nd => ?_⟩⟩
    have b1 : But a H (upd (upd H dx (exd dx [("thing", x0)])) a (exo a (He.ga K "BadStep") (some dx))) := fun b o nb hb => by rw [upd_ne nb, upd_ne (ne_of_none hb hd)]; exact hb
    have e1 := upd_same (H := upd H dx (exd dx [("thing", x0)])) (a := a) (o := exo a (He.ga K "BadStep") (some dx))
    have e2 : upd (upd H dx (exd dx [("thing", x0)])) a (exo a (He.ga K "BadStep") (some dx)) dx = some (exd dx [("thing", x0)]) := by rw [upd_ne nd]; exact upd_same
    repeat walk_at "w"
    exact q _ (.inr ⟨dx, e1, e2⟩) b1
theorem ok_NoPlacesu_initu [c : Facts K mg] {f : Addr} {fd : FuncData} (F : FunD K "__init__" "NoPlaces.__init__" (defArgs s_NoPlacesu_initu) (defBody s_NoPlacesu_initu) (defScope s_NoPlacesu_initu) [] [] f fd) : FnA P w K mg f 1 ["self", "many"] ((spEx1 (He.ga K "NoPlaces") "many")) := by
  refine FnA.mk' F sc_NoPlacesu_initu (k := 0) (fun vs H Q E h => ?_) (fun _ _ _ _ _ _ us hl => match us, hl with | [_, _], _ => rfl) (fun base cdv A outer s H vs Q E hr h => ?_)
  · exact len_NoPlacesu_initu h
  · have nd := sc_NoPlacesu_initu.nd
    have hu := hu_of hr
    refine ⟨_, (pss_cons (ps_expr (EXV.pe_roinit (by rfl) c.gc_RowsError c.xr_RowsError.r c.xr_RowsError.v (pa_cons (pv 0) (pa_cons pe_str pa_nil))))
      (pss_one (ps_ost (pv 0) (pv 1)))), ?_⟩
    try dsimp only [cxOf, Cx.nox, Cx.wish]
    obtain ⟨a, x0, rfl, ha, q⟩ := h
    repeat walk_at "w"
    refine w_vei ?_
    repeat walk_at "w"
    refine ⟨a, _, _, rfl, by simp, Facts.x_NoPlaces.o, ha, ?_⟩
    repeat walk_at "w"
    refine w_ost ?_
    repeat walk_at "w"
    refine ⟨a, _, rfl, Facts.x_NoPlaces.o, Facts.xn_NoPlaces_many, .inl ⟨ha, fun dx hd nd => ?_⟩⟩
    have b1 : But a H (upd (upd H dx (exd dx [("many", x0)])) a (exo a (He.ga K "NoPlaces") (some dx))) := fun b o nb hb => by rw [upd_ne nb, upd_ne (ne_of_none hb hd)]; exact hb
    have e1 := upd_same (H := upd H dx (exd dx [("many", x0)])) (a := a) (o := exo a (He.ga K "NoPlaces") (some dx))
    have e2 : upd (upd H dx (exd dx [("many", x0)])) a (exo a (He.ga K "NoPlaces") (some dx)) dx = some (exd dx [("many", x0)]) := by rw [upd_ne nd]; exact upd_same
    repeat walk_at "w"
    exact q _ (.inr ⟨dx, e1, e2⟩) b1
theorem ok_NoSizeu_initu [c : Facts K mg] {f : Addr} {fd : FuncData} (F : FunD K "__init__" "NoSize.__init__" (defArgs s_NoSizeu_initu) (defBody s_NoSizeu_initu) (defScope s_NoSizeu_initu) [] [] f fd) : FnA P w K mg f 1 ["self", "thing"] ((spEx1 (He.ga K "NoSize") "thing")) := by
  refine FnA.mk' F sc_NoSizeu_initu (k := 0) (fun vs H Q E h => ?_) (fun _ _ _ _ _ _ us hl => match us, hl with | [_, _], _ => rfl) (fun base cdv A outer s H vs Q E hr h => ?_)
  · exact len_NoSizeu_initu h
  · have nd := sc_NoSizeu_initu.nd
    have hu := hu_of hr
    refine ⟨_, (pss_cons (ps_expr (EXV.pe_roinit (by rfl) c.gc_RowsError c.xr_RowsError.r c.xr_RowsError.v (pa_cons (pv 0) (pa_cons pe_str pa_nil))))
      (pss_one (ps_ost (pv 0) (pv 1)))), ?_⟩
    try dsimp only [cxOf, Cx.nox, Cx.wish]
    obtain ⟨a, x0, rfl, ha, q⟩ := h
    repeat walk_at "w"
    refine w_vei ?_
    repeat walk_at "w"
    refine ⟨a, _, _, rfl, by simp, Facts.x_NoSize.o, ha, ?_⟩
    repeat walk_at "w"
    refine w_ost ?_
    repeat walk_at "w"
    refine ⟨a, _, rfl, Facts.x_NoSize.o, Facts.xn_NoSize_thing, .inl ⟨ha, fun dx hd nd => ?_⟩⟩
    have b1 : But a H (upd (upd H dx (exd dx [("thing", x0)])) a (exo a (He.ga K "NoSize") (some dx))) := fun b o nb hb => by rw [upd_ne nb, upd_ne (ne_of_none hb hd)]; exact hb
    have e1 := upd_same (H := upd H dx (exd dx [("thing", x0)])) (a := a) (o := exo a (He.ga K "NoSize") (some dx))
    have e2 : upd (upd H dx (exd dx [("thing", x0)])) a (exo a (He.ga K "NoSize") (some dx)) dx = some (exd dx [("thing", x0)]) := by rw [upd_ne nd]; exact upd_same
    repeat walk_at "w"
    exact q _ (.inr ⟨dx, e1, e2⟩) b1
theorem ok_NoRoomu_initu [c : Facts K mg] {f : Addr} {fd : FuncData} (F : FunD K "__init__" "NoRoom.__init__" (defArgs s_NoRoomu_initu) (defBody s_NoRoomu_initu) (defScope s_NoRoomu_initu) [] [] f fd) : FnA P w K mg f 1 ["self", "kind", "lacking"] ((spEx2 (He.ga K "NoRoom") "kind" "lacking")) := by
  refine FnA.mk' F sc_NoRoomu_initu (k := 0) (fun vs H Q E h => ?_) (fun _ _ _ _ _ _ us hl => match us, hl with | [_, _, _], _ => rfl) (fun base cdv A outer s H vs Q E hr h => ?_)
  · exact len_NoRoomu_initu h
  · have nd := sc_NoRoomu_initu.nd
    have hu := hu_of hr
    refine ⟨_, (pss_cons (ps_expr (EXV.pe_roinit (by rfl) c.gc_RowsError c.xr_RowsError.r c.xr_RowsError.v (pa_cons (pv 0) (pa_cons pe_str pa_nil))))
      (pss_cons (ps_ost (pv 0) (pv 1))
      (pss_one (ps_ost (pv 0) (pv 2))))), ?_⟩
    try dsimp only [cxOf, Cx.nox, Cx.wish]
    obtain ⟨a, x0, x1, rfl, ha, q⟩ := h
    repeat walk_at "w"
    refine w_vei ?_
    repeat walk_at "w"
    refine ⟨a, _, _, rfl, by simp, Facts.x_NoRoom.o, ha, ?_⟩
    repeat walk_at "w"
    refine w_ost ?_
    repeat walk_at "w"
    refine ⟨a, _, rfl, Facts.x_NoRoom.o, Facts.xn_NoRoom_kind, .inl ⟨ha, fun dx hd nd => ?_⟩⟩
    have b1 : But a H (upd (upd H dx (exd dx [("kind", x0)])) a (exo a (He.ga K "NoRoom") (some dx))) := fun b o nb hb => by rw [upd_ne nb, upd_ne (ne_of_none hb hd)]; exact hb
    have e1 := upd_same (H := upd H dx (exd dx [("kind", x0)])) (a := a) (o := exo a (He.ga K "NoRoom") (some dx))
    have e2 : upd (upd H dx (exd dx [("kind", x0)])) a (exo a (He.ga K "NoRoom") (some dx)) dx = some (exd dx [("kind", x0)]) := by rw [upd_ne nd]; exact upd_same
    generalize upd (upd H dx (exd dx [("kind", x0)])) a (exo a (He.ga K "NoRoom") (some dx)) = H1 at b1 e1 e2
    dsimp only
    refine w_ost ?_
    repeat walk_at "w"
    refine ⟨a, _, rfl, Facts.x_NoRoom.o, Facts.xn_NoRoom_lacking, .inr ⟨dx, _, e1, e2, by simp, ?_⟩⟩
    repeat walk_at "w"
    exact q _ (.inr ⟨dx, by rw [upd_ne nd.symm]; exact e1, upd_same⟩) (fun b o nb hb => by rw [upd_ne (ne_of_none hb hd)]; exact b1 b o nb hb)
theorem ok_Crowdedu_initu [c : Facts K mg] {f : Addr} {fd : FuncData} (F : FunD K "__init__" "Crowded.__init__" (defArgs s_Crowdedu_initu) (defBody s_Crowdedu_initu) (defScope s_Crowdedu_initu) [] [] f fd) : FnA P w K mg f 1 ["self", "kind", "needed"] ((spEx2 (He.ga K "Crowded") "kind" "needed")) := by
  refine FnA.mk' F sc_Crowdedu_initu (k := 0) (fun vs H Q E h => ?_) (fun _ _ _ _ _ _ us hl => match us, hl with | [_, _, _], _ => rfl) (fun base cdv A outer s H vs Q E hr h => ?_)
  · exact len_Crowdedu_initu h
  · have nd := sc_Crowdedu_initu.nd
    have hu := hu_of hr
    refine ⟨_, (pss_cons (ps_expr (EXV.pe_roinit (by rfl) c.gc_RowsError c.xr_RowsError.r c.xr_RowsError.v (pa_cons (pv 0) (pa_cons pe_str pa_nil))))
      (pss_cons (ps_ost (pv 0) (pv 1))
      (pss_one (ps_ost (pv 0) (pv 2))))), ?_⟩
    try dsimp only [cxOf, Cx.nox, Cx.wish]
    obtain ⟨a, x0, x1, rfl, ha, q⟩ := h
    repeat walk_at "w"
    refine w_vei ?_
    repeat walk_at "w"
    refine ⟨a, _, _, rfl, by simp, Facts.x_Crowded.o, ha, ?_⟩
    repeat walk_at "w"
    refine w_ost ?_
    repeat walk_at "w"
    refine ⟨a, _, rfl, Facts.x_Crowded.o, Facts.xn_Crowded_kind, .inl ⟨ha, fun dx hd nd => ?_⟩⟩
    have b1 : But a H (upd (upd H dx (exd dx [("kind", x0)])) a (exo a (He.ga K "Crowded") (some dx))) := fun b o nb hb => by rw [upd_ne nb, upd_ne (ne_of_none hb hd)]; exact hb
    have e1 := upd_same (H := upd H dx (exd dx [("kind", x0)])) (a := a) (o := exo a (He.ga K "Crowded") (some dx))
    have e2 : upd (upd H dx (exd dx [("kind", x0)])) a (exo a (He.ga K "Crowded") (some dx)) dx = some (exd dx [("kind", x0)]) := by rw [upd_ne nd]; exact upd_same
    generalize upd (upd H dx (exd dx [("kind", x0)])) a (exo a (He.ga K "Crowded") (some dx)) = H1 at b1 e1 e2
    dsimp only
    refine w_ost ?_
    repeat walk_at "w"
    refine ⟨a, _, rfl, Facts.x_Crowded.o, Facts.xn_Crowded_needed, .inr ⟨dx, _, e1, e2, by simp, ?_⟩⟩
    repeat walk_at "w"
    exact q _ (.inr ⟨dx, by rw [upd_ne nd.symm]; exact e1, upd_same⟩) (fun b o nb hb => by rw [upd_ne (ne_of_none hb hd)]; exact b1 b o nb hb)
theorem ok_NoBudgetu_initu [c : Facts K mg] {f : Addr} {fd : FuncData} (F : FunD K "__init__" "NoBudget.__init__" (defArgs s_NoBudgetu_initu) (defBody s_NoBudgetu_initu) (defScope s_NoBudgetu_initu) [] [] f fd) : FnA P w K mg f 1 ["self", "thing"] ((spEx1 (He.ga K "NoBudget") "thing")) := by
  refine FnA.mk' F sc_NoBudgetu_initu (k := 0) (fun vs H Q E h => ?_) (fun _ _ _ _ _ _ us hl => match us, hl with | [_, _], _ => rfl) (fun base cdv A outer s H vs Q E hr h => ?_)
  · exact len_NoBudgetu_initu h
  · have nd := sc_NoBudgetu_initu.nd
    have hu := hu_of hr
    refine ⟨_, (pss_cons (ps_expr (EXV.pe_roinit (by rfl) c.gc_RowsError c.xr_RowsError.r c.xr_RowsError.v (pa_cons (pv 0) (pa_cons pe_str pa_nil))))
      (pss_one (ps_ost (pv 0) (pv 1)))), ?_⟩
    try dsimp only [cxOf, Cx.nox, Cx.wish]
    obtain ⟨a, x0, rfl, ha, q⟩ := h
    repeat walk_at "w"
    refine w_vei ?_
    repeat walk_at "w"
    refine ⟨a, _, _, rfl, by simp, Facts.x_NoBudget.o, ha, ?_⟩
    repeat walk_at "w"
    refine w_ost ?_
    repeat walk_at "w"
    refine ⟨a, _, rfl, Facts.x_NoBudget.o, Facts.xn_NoBudget_thing, .inl ⟨ha, fun dx hd nd => ?_⟩⟩
    have b1 : But a H (upd (upd H dx (exd dx [("thing", x0)])) a (exo a (He.ga K "NoBudget") (some dx))) := fun b o nb hb => by rw [upd_ne nb, upd_ne (ne_of_none hb hd)]; exact hb
    have e1 := upd_same (H := upd H dx (exd dx [("thing", x0)])) (a := a) (o := exo a (He.ga K "NoBudget") (some dx))
    have e2 : upd (upd H dx (exd dx [("thing", x0)])) a (exo a (He.ga K "NoBudget") (some dx)) dx = some (exd dx [("thing", x0)]) := by rw [upd_ne nd]; exact upd_same
    repeat walk_at "w"
    exact q _ (.inr ⟨dx, e1, e2⟩) b1
theorem ok_Withinu_initu [c : Facts K mg] {f : Addr} {fd : FuncData} (F : FunD K "__init__" "Within.__init__" (defArgs s_Withinu_initu) (defBody s_Withinu_initu) (defScope s_Withinu_initu) [] [] f fd) : FnA P w K mg f 1 ["self"] ((spEx0 (He.ga K "Within"))) := by
  refine FnA.mk' F sc_Withinu_initu (k := 0) (fun vs H Q E h => ?_) (fun _ _ _ _ _ _ us hl => match us, hl with | [_], _ => rfl) (fun base cdv A outer s H vs Q E hr h => ?_)
  · exact len_Withinu_initu h
  · have nd := sc_Withinu_initu.nd
    have hu := hu_of hr
    refine ⟨_, (pss_one (ps_expr (EXV.pe_roinit (by rfl) c.gc_RowsError c.xr_RowsError.r c.xr_RowsError.v (pa_cons (pv 0) (pa_cons pe_str pa_nil))))), ?_⟩
    try dsimp only [cxOf, Cx.nox, Cx.wish]
    obtain ⟨a, rfl, ha, q⟩ := h
    repeat walk_at "w"
    refine w_vei ?_
    repeat walk_at "w"
    refine ⟨a, _, _, rfl, by simp, Facts.x_Within.o, ha, ?_⟩
    repeat walk_at "w"
    exact q H (.inl ⟨rfl, ha⟩) (But.refl _ _)
theorem ok_NoChangeu_initu [c : Facts K mg] {f : Addr} {fd : FuncData} (F : FunD K "__init__" "NoChange.__init__" (defArgs s_NoChangeu_initu) (defBody s_NoChangeu_initu) (defScope s_NoChangeu_initu) [] [] f fd) : FnA P w K mg f 1 ["self", "kind"] ((spEx1 (He.ga K "NoChange") "kind")) := by
  refine FnA.mk' F sc_NoChangeu_initu (k := 0) (fun vs H Q E h => ?_) (fun _ _ _ _ _ _ us hl => match us, hl with | [_, _], _ => rfl) (fun base cdv A outer s H vs Q E hr h => ?_)
  · exact len_NoChangeu_initu h
  · have nd := sc_NoChangeu_initu.nd
    have hu := hu_of hr
    refine ⟨_, (pss_cons (ps_expr (EXV.pe_roinit (by rfl) c.gc_RowsError c.xr_RowsError.r c.xr_RowsError.v (pa_cons (pv 0) (pa_cons pe_str pa_nil))))
      (pss_one (ps_ost (pv 0) (pv 1)))), ?_⟩
    try dsimp only [cxOf, Cx.nox, Cx.wish]
    obtain ⟨a, x0, rfl, ha, q⟩ := h
    repeat walk_at "w"
    refine w_vei ?_
    repeat walk_at "w"
    refine ⟨a, _, _, rfl, by simp, Facts.x_NoChange.o, ha, ?_⟩
    repeat walk_at "w"
    refine w_ost ?_
    repeat walk_at "w"
    refine ⟨a, _, rfl, Facts.x_NoChange.o, Facts.xn_NoChange_kind, .inl ⟨ha, fun dx hd nd => ?_⟩⟩
    have b1 : But a H (upd (upd H dx (exd dx [("kind", x0)])) a (exo a (He.ga K "NoChange") (some dx))) := fun b o nb hb => by rw [upd_ne nb, upd_ne (ne_of_none hb hd)]; exact hb
    have e1 := upd_same (H := upd H dx (exd dx [("kind", x0)])) (a := a) (o := exo a (He.ga K "NoChange") (some dx))
    have e2 : upd (upd H dx (exd dx [("kind", x0)])) a (exo a (He.ga K "NoChange") (some dx)) dx = some (exd dx [("kind", x0)]) := by rw [upd_ne nd]; exact upd_same
    repeat walk_at "w"
    exact q _ (.inr ⟨dx, e1, e2⟩) b1
theorem ok_Unlikeu_initu [c : Facts K mg] {f : Addr} {fd : FuncData} (F : FunD K "__init__" "Unlike.__init__" (defArgs s_Unlikeu_initu) (defBody s_Unlikeu_initu) (defScope s_Unlikeu_initu) [] [] f fd) : FnA P w K mg f 1 ["self", "word"] ((spEx1 (He.ga K "Unlike") "word")) := by
  refine FnA.mk' F sc_Unlikeu_initu (k := 0) (fun vs H Q E h => ?_) (fun _ _ _ _ _ _ us hl => match us, hl with | [_, _], _ => rfl) (fun base cdv A outer s H vs Q E hr h => ?_)
  · exact len_Unlikeu_initu h
  · have nd := sc_Unlikeu_initu.nd
    have hu := hu_of hr
    refine ⟨_, (pss_cons (ps_expr (EXV.pe_roinit (by rfl) c.gc_RowsError c.xr_RowsError.r c.xr_RowsError.v (pa_cons (pv 0) (pa_cons pe_str pa_nil))))
      (pss_one (ps_ost (pv 0) (pv 1)))), ?_⟩
    try dsimp only [cxOf, Cx.nox, Cx.wish]
    obtain ⟨a, x0, rfl, ha, q⟩ := h
    repeat walk_at "w"
    refine w_vei ?_
    repeat walk_at "w"
    refine ⟨a, _, _, rfl, by simp, Facts.x_Unlike.o, ha, ?_⟩
    repeat walk_at "w"
    refine w_ost ?_
    repeat walk_at "w"
    refine ⟨a, _, rfl, Facts.x_Unlike.o, Facts.xn_Unlike_word, .inl ⟨ha, fun dx hd nd => ?_⟩⟩
    have b1 : But a H (upd (upd H dx (exd dx [("word", x0)])) a (exo a (He.ga K "Unlike") (some dx))) := fun b o nb hb => by rw [upd_ne nb, upd_ne (ne_of_none hb hd)]; exact hb
    have e1 := upd_same (H := upd H dx (exd dx [("word", x0)])) (a := a) (o := exo a (He.ga K "Unlike") (some dx))
    have e2 : upd (upd H dx (exd dx [("word", x0)])) a (exo a (He.ga K "Unlike") (some dx)) dx = some (exd dx [("word", x0)]) := by rw [upd_ne nd]; exact upd_same
    repeat walk_at "w"
    exact q _ (.inr ⟨dx, e1, e2⟩) b1
theorem ok_NotPlainu_initu [c : Facts K mg] {f : Addr} {fd : FuncData} (F : FunD K "__init__" "NotPlain.__init__" (defArgs s_NotPlainu_initu) (defBody s_NotPlainu_initu) (defScope s_NotPlainu_initu) [] [] f fd) : FnA P w K mg f 1 ["self", "kind"] ((spEx1 (He.ga K "NotPlain") "kind")) := by
  refine FnA.mk' F sc_NotPlainu_initu (k := 0) (fun vs H Q E h => ?_) (fun _ _ _ _ _ _ us hl => match us, hl with | [_, _], _ => rfl) (fun base cdv A outer s H vs Q E hr h => ?_)
  · exact len_NotPlainu_initu h
  · have nd := sc_NotPlainu_initu.nd
    have hu := hu_of hr
    refine ⟨_, (pss_cons (ps_expr (EXV.pe_roinit (by rfl) c.gc_RowsError c.xr_RowsError.r c.xr_RowsError.v (pa_cons (pv 0) (pa_cons pe_str pa_nil))))
      (pss_one (ps_ost (pv 0) (pv 1)))), ?_⟩
    try dsimp only [cxOf, Cx.nox, Cx.wish]
    obtain ⟨a, x0, rfl, ha, q⟩ := h
    repeat walk_at "w"
    refine w_vei ?_
    repeat walk_at "w"
    refine ⟨a, _, _, rfl, by simp, Facts.x_NotPlain.o, ha, ?_⟩
    repeat walk_at "w"
    refine w_ost ?_
    repeat walk_at "w"
    refine ⟨a, _, rfl, Facts.x_NotPlain.o, Facts.xn_NotPlain_kind, .inl ⟨ha, fun dx hd nd => ?_⟩⟩
    have b1 : But a H (upd (upd H dx (exd dx [("kind", x0)])) a (exo a (He.ga K "NotPlain") (some dx))) := fun b o nb hb => by rw [upd_ne nb, upd_ne (ne_of_none hb hd)]; exact hb
    have e1 := upd_same (H := upd H dx (exd dx [("kind", x0)])) (a := a) (o := exo a (He.ga K "NotPlain") (some dx))
    have e2 : upd (upd H dx (exd dx [("kind", x0)])) a (exo a (He.ga K "NotPlain") (some dx)) dx = some (exd dx [("kind", x0)]) := by rw [upd_ne nd]; exact upd_same
    repeat walk_at "w"
    exact q _ (.inr ⟨dx, e1, e2⟩) b1
theorem ok_NoLineu_initu [c : Facts K mg] {f : Addr} {fd : FuncData} (F : FunD K "__init__" "NoLine.__init__" (defArgs s_NoLineu_initu) (defBody s_NoLineu_initu) (defScope s_NoLineu_initu) [] [] f fd) : FnA P w K mg f 1 ["self"] ((spEx0 (He.ga K "NoLine"))) := by
  refine FnA.mk' F sc_NoLineu_initu (k := 0) (fun vs H Q E h => ?_) (fun _ _ _ _ _ _ us hl => match us, hl with | [_], _ => rfl) (fun base cdv A outer s H vs Q E hr h => ?_)
  · exact len_NoLineu_initu h
  · have nd := sc_NoLineu_initu.nd
    have hu := hu_of hr
    refine ⟨_, (pss_one (ps_expr (EXV.pe_roinit (by rfl) c.gc_RowsError c.xr_RowsError.r c.xr_RowsError.v (pa_cons (pv 0) (pa_cons pe_str pa_nil))))), ?_⟩
    try dsimp only [cxOf, Cx.nox, Cx.wish]
    obtain ⟨a, rfl, ha, q⟩ := h
    repeat walk_at "w"
    refine w_vei ?_
    repeat walk_at "w"
    refine ⟨a, _, _, rfl, by simp, Facts.x_NoLine.o, ha, ?_⟩
    repeat walk_at "w"
    exact q H (.inl ⟨rfl, ha⟩) (But.refl _ _)
end

end J
namespace J
open PySem PySem.Spec PyProof.Rows L2

local macro_rules | `(tactic| walk_at "ty") => `(tactic| first
  | with_reducible exact ty_int
  | with_reducible exact ty_bl
  | with_reducible exact ty_str
  | with_reducible exact ty_non
  | ((with_reducible refine' ty_lst ?vv); (case vv => walk_at "tr"))
  | ((with_reducible refine' ty_sqT ?vv); (case vv => walk_at "tr"))
  | ((with_reducible refine' ty_dic ?vv); (case vv => walk_at "tr")))
local macro_rules | `(tactic| walk_at "ix") => `(tactic| first | exact at0 | exact at1 | exact at2 | assumption)
local macro_rules | `(tactic| walk_at "size") => `(tactic| first
  | assumption
  | (show _ < sizeLine; rw [sizeLine_eq]; (try simp only [List.length_cons, List.length_nil, List.length_append, List.length_map]); omega)
  | (show _ ≤ sizeLine; rw [sizeLine_eq]; (try simp only [List.length_cons, List.length_nil, List.length_append, List.length_map]); omega))
local macro_rules | `(tactic| walk_at "side") => `(tactic| first
  | assumption
  | ((with_reducible refine cdw ?_ ?_) <;> omega)
  | omega
  | (exact ⟨by omega, by omega⟩)
  | (exact Or.inl ⟨by omega, by omega⟩)
  | (exact Or.inr ⟨by omega, by omega⟩)
  | decide
  | (simp only [List.length_cons, List.length_nil, List.length_append, List.length_map]; omega)
  | (show _ ≤ _; decide))
local macro_rules | `(tactic| walk_at "as") => `(tactic| with_reducible assumption)
local macro_rules | `(tactic| walk_at "tr") => `(tactic| first
  | with_reducible assumption
  | with_reducible exact upd_same
  | ((with_reducible refine' SqL.of ?hh); (case hh => walk_at "as"))
  | ((with_reducible refine' SqT.of ?hh); (case hh => walk_at "as"))
  | ((with_reducible refine' Same.stm ?ee ?gg); (case ee => walk_at "as"); (case gg => walk_at "tr"))
  | ((with_reducible refine' Same.sqT ?ee ?gg); (case ee => walk_at "as"); (case gg => walk_at "tr"))
  | ((with_reducible refine' Same.sqL ?ee ?gg); (case ee => walk_at "as"); (case gg => walk_at "tr"))
  | ((with_reducible refine' Same.at ?ee ?gg); (case ee => walk_at "as"); (case gg => walk_at "tr"))
  | ((with_reducible refine' But.stm ?ee ?ff ?gg); (case ee => walk_at "as"); (case ff => walk_at "ne"); (case gg => walk_at "tr"))
  | ((with_reducible refine' But.tup ?ee ?ff ?gg); (case ee => walk_at "as"); (case ff => walk_at "tr1"); (case gg => walk_at "tr"))
  | ((with_reducible refine' But.sqT ?ee ?ff ?gg); (case ee => walk_at "as"); (case ff => walk_at "tr1"); (case gg => walk_at "tr"))
  | ((with_reducible refine' But.tupL ?ee ?ff ?gg); (case ee => walk_at "as"); (case ff => walk_at "tr1"); (case gg => walk_at "tr"))
  | ((with_reducible refine' But.sqTL ?ee ?ff ?gg); (case ee => walk_at "as"); (case ff => walk_at "tr1"); (case gg => walk_at "tr"))
  | ((with_reducible refine' But.sqL ?ee ?ff ?gg); (case ee => walk_at "as"); (case ff => walk_at "ne"); (case gg => walk_at "tr"))
  | ((with_reducible refine' But.at ?ee ?ff ?gg); (case ee => walk_at "as"); (case ff => walk_at "ne"); (case gg => walk_at "tr")))
local macro_rules | `(tactic| walk_at "ts") => `(tactic| first
  | with_reducible assumption
  | with_reducible exact TS.refl _
  | ((with_reducible refine' TS.trans ?gg (TS.of ?ee)); (case ee => walk_at "as"); (case gg => walk_at "ts"))
  | ((with_reducible refine' TS.trans ?gg (TS.butS ?ee ?ff)); (case ee => walk_at "as"); (case ff => walk_at "tr1"); (case gg => walk_at "ts"))
  | ((with_reducible refine' TS.trans ?gg (TS.butL ?ee ?ff)); (case ee => walk_at "as"); (case ff => walk_at "tr1"); (case gg => walk_at "ts"))
  | ((with_reducible refine' TS.trans ?gg (TS.butI ?ee ?ff)); (case ee => walk_at "as"); (case ff => walk_at "tr1"); (case gg => walk_at "ts")))
local macro_rules | `(tactic| walk_at "sm") => `(tactic| first
  | with_reducible assumption
  | with_reducible exact Same.refl _
  | ((with_reducible refine' Same.trans ?gg ?ee); (case ee => walk_at "as"); (case gg => walk_at "sm"))
  | ((with_reducible refine' But.new ?gg ?nn ?ee); (case ee => walk_at "as"); (case nn => walk_at "fr"); (case gg => walk_at "sm")))
local macro_rules | `(tactic| walk_at "fr") => `(tactic| first
  | with_reducible assumption
  | ((with_reducible refine' Same.back ?ee ?nn); (case nn => walk_at "as"); (case ee => walk_at "sm"))
  | ((with_reducible refine' But.back ?ee ?ff ?nn); (case nn => walk_at "as"); (case ff => walk_at "ne0"); (case ee => walk_at "bu")))
local macro_rules | `(tactic| walk_at "bu") => `(tactic| first
  | with_reducible assumption
  | with_reducible exact But.refl _ _
  | ((with_reducible refine' But.trans ?gg ?ee); (case ee => walk_at "as"); (case gg => walk_at "bu"))
  | ((with_reducible refine' But.trans ?gg (But.of ?ee)); (case ee => walk_at "as"); (case gg => walk_at "bu"))
  | ((with_reducible refine' But.new2 ?gg ?nn ?ee); (case ee => walk_at "as"); (case nn => walk_at "frB"); (case gg => walk_at "bu")))
local macro_rules | `(tactic| walk_at "frB") => `(tactic| first
  | with_reducible assumption
  | ((with_reducible refine' Same.back ?ee ?nn); (case nn => walk_at "as"); (case ee => walk_at "sm"))
  | ((with_reducible refine' But.back' ?ee ?ff ?nn); (case nn => walk_at "as"); (case ee => walk_at "bu"); (case ff => walk_at "tr1")))
local macro_rules | `(tactic| walk_at "tr1") => `(tactic| first
  | with_reducible assumption
  | ((with_reducible refine' Same.stm ?ee ?gg); (case ee => walk_at "as"); (case gg => walk_at "tr1"))
  | ((with_reducible refine' Same.at ?ee ?gg); (case ee => walk_at "as"); (case gg => walk_at "tr1"))
  | ((with_reducible refine' But.at ?ee ?ff ?gg); (case ee => walk_at "as"); (case ff => walk_at "ne0"); (case gg => walk_at "tr1"))
  | ((with_reducible refine' But.stm ?ee ?ff ?gg); (case ee => walk_at "as"); (case ff => walk_at "ne0"); (case gg => walk_at "tr1")))
local macro_rules | `(tactic| walk_at "ne0") => `(tactic| first
  | with_reducible assumption
  | (with_reducible apply Ne.symm; with_reducible assumption))
local macro_rules | `(tactic| walk_at "ne") => `(tactic| first
  | with_reducible assumption
  | (with_reducible apply Ne.symm; with_reducible assumption)
  | ((with_reducible refine' stm_ne ?hh ?nn); (case nn => walk_at "as"); (case hh => walk_at "tr1"))
  | ((with_reducible refine' ne_of_none ?hh ?nn); (case nn => walk_at "as"); (case hh => walk_at "tr1"))
  | ((with_reducible apply Ne.symm); (with_reducible refine' ne_of_none ?hh ?nn); (case nn => walk_at "as"); (case hh => walk_at "tr1")))
local macro_rules | `(tactic| walk_at "v") => `(tactic| first
  | with_reducible refine w_seq ?_
  | ((with_reducible refine' w_var ?vv ?_); (case vv => exact rfl))
  | with_reducible refine w_c ?_
  | with_reducible refine w_op ?_
  | with_reducible refine w_asg ?_
  | with_reducible refine w_gName ?_
  | with_reducible refine w_ret ?_
  | with_reducible refine w_ifS ?_
  | with_reducible refine w_drop ?_
  | with_reducible refine w_next ?_
  | with_reducible refine w_cons ?_
  | with_reducible refine w_nil ?_
  | with_reducible refine w_call ?_
  | with_reducible refine w_cb ?_
  | with_reducible refine w_rI0 ?_
  | with_reducible refine w_addI ?_
  | with_reducible refine w_eqI ?_
  | with_reducible refine w_neI ?_
  | with_reducible refine w_eqS ?_
  | with_reducible refine w_neS ?_
  | with_reducible refine w_eqB ?_
  | with_reducible refine w_neB ?_
  | with_reducible refine w_chain ?_
  | with_reducible refine w_test ?_
  | with_reducible refine w_tB ?_
  | with_reducible refine w_bl ?_
  | ((with_reducible refine' w_mulI ?vv ?_); (case vv => walk_at "side"))
  | ((with_reducible refine' w_rI ?vv ?_); (case vv => walk_at "side"))
  | with_reducible refine w_int1 ?_
  | with_reducible refine w_int1b ?_
  | with_reducible refine w_tup ?_
  | with_reducible refine w_lst ?_
  | with_reducible refine w_un ?_
  | with_reducible refine w_rU ?_
  | with_reducible refine w_not ?_
  | with_reducible refine w_notV ?_
  | with_reducible refine w_ifE ?_
  | with_reducible refine w_nT ?_
  | with_reducible refine w_nF ?_
  | with_reducible refine iteT ?_
  | with_reducible refine iteF ?_
  | ((with_reducible refine' w_ixT ?vv ?ww ?_); (case vv => walk_at "tr"); (case ww => walk_at "ix"))
  | ((with_reducible refine' w_ixL ?vv ?ww ?_); (case vv => walk_at "tr"); (case ww => walk_at "ix"))
  | with_reducible refine w_gSub ?_
  | ((with_reducible refine' w_setL ?vv ?ww ?_); (case vv => walk_at "tr"); (case ww => first | rfl | decide | assumption))
  | ((with_reducible refine' w_lenL ?vv ?_); (case vv => walk_at "tr"))
  | ((with_reducible refine' w_lenT ?vv ?_); (case vv => walk_at "tr"))
  | with_reducible refine w_max2 ?_
  | with_reducible refine w_max3 ?_
  | with_reducible refine w_din ?_
  | with_reducible refine w_dnotin ?_
  | with_reducible refine w_dput ?_
  | with_reducible refine w_min2 ?_
  | with_reducible refine w_bm ?_
  | with_reducible refine w_bm0 ?_
  | ((with_reducible refine' w_tyL ?vv ?_); (case vv => walk_at "tr"))
  | ((with_reducible refine' w_append ?vv ?ww ?_); (case vv => walk_at "tr"); (case ww => walk_at "size"))
  | ((with_reducible refine' w_size ?vv ?_); (case vv => walk_at "size"))
  | with_reducible refine w_forL ?_
  | with_reducible refine w_forT ?_
  | with_reducible refine w_forR1 ?_
  | with_reducible refine w_forR2 ?_
  | with_reducible refine w_lcL ?_
  | with_reducible refine w_lcT ?_
  | with_reducible refine w_lcR1 ?_
  | with_reducible refine w_yes ?_
  | with_reducible refine w_sl ?_
  | with_reducible refine w_noPart ?_
  | with_reducible refine w_part ?_
  | with_reducible refine w_int ?_
  | ((with_reducible refine' w_slL ?vv ?_); (case vv => walk_at "tr"))
  | ((with_reducible refine' w_seqL ?vv ?ww ?_); (case vv => walk_at "tr"); (case ww => rfl))
  | ((with_reducible refine' w_seqT ?vv ?ww ?_); (case vv => walk_at "tr"); (case ww => rfl))
  | with_reducible refine w_gNil ?_
  | with_reducible refine w_gCons ?_
  | with_reducible refine w_forZ ?_
  | with_reducible refine w_forM ?_
  | with_reducible refine w_forE ?_
  | with_reducible refine w_forV ?_
  | with_reducible refine w_lcZ ?_
  | with_reducible refine w_lcE ?_
  | ((with_reducible refine' w_isi (b := true) ?vv ?ww ?_); (case vv => walk_at "ty"); (case ww => decide +kernel))
  | ((with_reducible refine' w_isi (b := false) ?vv ?ww ?_); (case vv => walk_at "ty"); (case ww => decide +kernel))
  | with_reducible refine w_revL ?_
  | with_reducible refine w_pairN ?_
  | with_reducible refine w_pairC ?_
  | with_reducible refine w_dget ?_
  | with_reducible refine w_met ?_
  | ((with_reducible refine' w_metAt ?vv ?ww ?_); (case vv => walk_at "tr"); (case ww => rfl))
  | with_reducible refine w_mkI ?_
  | with_reducible refine w_fld ?_
  | ((with_reducible refine' w_fldAt ?vv ?cc ?nn ?ww ?_); (case vv => walk_at "tr"); (case cc => walk_at "cls"); (case nn => walk_at "na"); (case ww => rfl))
  | with_reducible refine w_sfld ?_
  | ((with_reducible refine' w_sfldAt ?vv ?cc ?nn ?ll ?ee ?_); (case vv => walk_at "tr"); (case cc => walk_at "cls"); (case nn => walk_at "na"); (case ll => simp); (case ee => rfl))
  | ((with_reducible refine' w_tupL ?vv ?_); (case vv => walk_at "tr"))
  | ((with_reducible refine' w_tupT ?vv ?_); (case vv => walk_at "tr"))
  | ((with_reducible refine' w_listL ?vv ?_); (case vv => walk_at "tr"))
  | ((with_reducible refine' w_listT ?vv ?_); (case vv => walk_at "tr"))
  | with_reducible refine w_tyS ?_
  | with_reducible refine w_lcZM ?_
  | with_reducible refine w_js ?_
  | with_reducible refine w_jsN ?_
  | ((with_reducible refine' w_jsP ?vv ?_); (case vv => walk_at "size"))
  | with_reducible refine w_fmt ?_
  | with_reducible refine w_forRR ?_
  | with_reducible refine w_retN ?_
  | with_reducible refine w_break ?_
  | with_reducible refine w_cont ?_)
local macro_rules | `(tactic| walk_at "w") => `(tactic| first
  | walk_at "v"
  | with_reducible refine w_or ?_
  | with_reducible refine w_and ?_
  | with_reducible refine w_andV ?_
  | with_reducible refine w_orV ?_)
local macro_rules | `(tactic| walk_at "wd") => `(tactic| first
  | walk_at "w"
  | ((with_reducible refine' w_decT ?vv ?_); (case vv => decide +kernel))
  | ((with_reducible refine' w_decF ?vv ?_); (case vv => decide +kernel)))
local macro_rules | `(tactic| walk_at "tz") => `(tactic| (intro S z; (repeat walk_at "w"); exact z))
local macro_rules | `(tactic| walk_at "wf") => `(tactic| first
  | walk_at "wd"
  | ((with_reducible refine' w_decF ?vv ?_); (case vv => with_reducible assumption)))
/-! ### k04: the law's parts -/
def esL : List (Str × List Str) := [("NoText", ["place"]), ("Twice", ["name"]), ("NoName", ["name"]), ("NoFit", ["name"]), ("BadLine", ["line"]), ("NoKind", ["name"]), ("NoRow", ["row"]), ("NoState", ["thing"]), ("BadStep", ["thing"]), ("NoPlaces", ["many"]), ("NoSize", ["thing"]), ("NoRoom", ["kind", "lacking"]), ("Crowded", ["kind", "needed"]), ("NoBudget", ["thing"]), ("Within", []), ("NoChange", ["kind"]), ("Unlike", ["word"]), ("NotPlain", ["kind"]), ("NoLine", [])]
/-- the fields of error k, of one and other (the last one first) -/
def fsOf (k : Nat) (x y : V) : List (Str × V) := match (esL.getD k ("", [])).2 with
  | [f] => [(f, x)]
  | [f, g] => [(g, y), (f, x)]
  | _ => []
def clOf (k : Nat) : Str := (esL.getD k ("", [])).1
def spFirst (K : PySem.W.Frag) : Sp := fun vs H Q _ => ∃ (k : Nat) (x y : V), vs = [.int (k : Int), x, y] ∧ k < 19 ∧ ∀ a H', ErrAt H' a (He.ga K (clOf k)) (fsOf k x y) → Same H H' → Q (.ref a) H'
theorem len_law_first {K : PySem.W.Frag} {vs H Q E} (h : spFirst K vs H Q E) : vs.length = 3 := by obtain ⟨_, _, _, rfl, _⟩ := h; rfl
/-- at a: an error of the class at C -/
def ErrX (H : Hp) (a C : Addr) : Prop := (∃ l, ErrAt H a C l) ∨ H a = some (ExO (.ref C) a)
theorem ErrX.sm {H H' : Hp} {a C : Addr} (h : ErrX H a C) (e : Same H H') : ErrX H' a C := by
  rcases h with ⟨l, h⟩ | h
  · exact .inl ⟨l, h.sm e⟩
  · exact .inr (e _ _ h)
theorem ErrX.ty {K : PySem.W.Frag} {H : Hp} {a C : Addr} (h : ErrX H a C) (c : ExcC K C) : EXV.TyE K H (.ref a) (.ref C) := by
  rcases h with ⟨l, ⟨_, h⟩ | ⟨dx, h, g⟩⟩ | h
  · exact .exc0 h c
  · exact .exc1 h g c
  · exact .exv h c
def kindsB (C : Str) : List Bool := esL.map fun p => decide (p.1 = C)
def spKinds (K : PySem.W.Frag) : Sp := fun vs H Q _ => ∃ (a : Addr) (C : Str), vs = [.ref a] ∧ C ∈ exN ∧ ErrX H a (He.ga K C) ∧ ∀ q H', H' q = some (.lst ((kindsB C).map V.bl)) → Same H H' → Q (.ref q) H'
theorem len_law_kinds {K : PySem.W.Frag} {vs H Q E} (h : spKinds K vs H Q E) : vs.length = 1 := by obtain ⟨_, _, rfl, _⟩ := h; rfl
theorem same_of {H H' : Hp} {a : Addr} {o : HO} (ha : H a = none) (b : But a (upd H a o) H') : Same H H' := fun c u hc => b c u (ne_of_none hc ha) (by rw [upd_ne (ne_of_none hc ha)]; exact hc)
theorem mk0 {C : Addr} {H : Hp} {Q : VK} (k : ∀ a H', ErrAt H' a C [] → Same H H' → Q (.ref a) H') : ([] : List V).length ≤ 1000 ∧ ∀ a, H a = none → spEx0 C (.ref a :: []) (upd H a (exo a C none)) (EXV.mkQ a Q) (fun _ _ _ => False) :=
  ⟨by simp, fun a ha => ⟨a, rfl, upd_same, fun H' e b => ⟨rfl, k a H' e (same_of ha b)⟩⟩⟩
theorem mk1 {C : Addr} {f : Str} {x : V} {H : Hp} {Q : VK} (k : ∀ a H', ErrAt H' a C [(f, x)] → Same H H' → Q (.ref a) H') : [x].length ≤ 1000 ∧ ∀ a, H a = none → spEx1 C f (.ref a :: [x]) (upd H a (exo a C none)) (EXV.mkQ a Q) (fun _ _ _ => False) :=
  ⟨by simp, fun a ha => ⟨a, x, rfl, upd_same, fun H' e b => ⟨rfl, k a H' e (same_of ha b)⟩⟩⟩
theorem mk2 {C : Addr} {f g : Str} {x y : V} {H : Hp} {Q : VK} (k : ∀ a H', ErrAt H' a C [(g, y), (f, x)] → Same H H' → Q (.ref a) H') : [x, y].length ≤ 1000 ∧ ∀ a, H a = none → spEx2 C f g (.ref a :: [x, y]) (upd H a (exo a C none)) (EXV.mkQ a Q) (fun _ _ _ => False) :=
  ⟨by simp, fun a ha => ⟨a, x, y, rfl, upd_same, fun H' e b => ⟨rfl, k a H' e (same_of ha b)⟩⟩⟩
section
variable {K : PySem.W.Frag} {mg : Str → Option Value} {H : Hp} {Q : VK}
theorem ex_all [Facts K mg] : ∀ C ∈ exN, EXV.Ex K (He.ga K C) := by
  intro C hC
  simp only [exN, List.mem_cons, List.not_mem_nil, or_false] at hC
  rcases hC with rfl | rfl | rfl | rfl | rfl | rfl | rfl | rfl | rfl | rfl | rfl | rfl | rfl | rfl | rfl | rfl | rfl | rfl | rfl | rfl
  · exact Facts.x_RowsError
  · exact Facts.x_NoText
  · exact Facts.x_Twice
  · exact Facts.x_NoName
  · exact Facts.x_NoFit
  · exact Facts.x_BadLine
  · exact Facts.x_NoKind
  · exact Facts.x_NoRow
  · exact Facts.x_NoState
  · exact Facts.x_BadStep
  · exact Facts.x_NoPlaces
  · exact Facts.x_NoSize
  · exact Facts.x_NoRoom
  · exact Facts.x_Crowded
  · exact Facts.x_NoBudget
  · exact Facts.x_Within
  · exact Facts.x_NoChange
  · exact Facts.x_Unlike
  · exact Facts.x_NotPlain
  · exact Facts.x_NoLine
theorem w_isiE [Facts K mg] {a : Addr} {C D : Str} (hC : C ∈ exN) (hD : D ∈ exN) (h : ErrX H a (He.ga K C)) (k : Q (.bl (exAb C D)) H) : EXV.rIsiE K [.ref a, .ref (He.ga K D)] H Q :=
  ⟨_, _, _, _, exAb C D, rfl, .own _, h.ty (ex_all C hC).e, Facts.xk C hC D hD, k⟩
theorem kinds_eq : ∀ C ∈ exN, [exAb C "NoText", exAb C "Twice", exAb C "NoName", exAb C "NoFit", exAb C "BadLine", exAb C "NoKind", exAb C "NoRow", exAb C "NoState", exAb C "BadStep", exAb C "NoPlaces", exAb C "NoSize", exAb C "NoRoom", exAb C "Crowded", exAb C "NoBudget", exAb C "Within", exAb C "NoChange", exAb C "Unlike", exAb C "NotPlain", exAb C "NoLine"] = kindsB C := by decide +kernel
end
section
variable {P : Program} {w : World} {K : PySem.W.Frag} {mg : Str → Option Value}
theorem ok_law_first [c : Facts K mg] (GM_BadLine___init__ : FnA P w K mg (He.ma K (He.ga K "BadLine") "__init__") 1 ["self", "line"] ((spEx1 (He.ga K "BadLine") "line"))) (GM_BadStep___init__ : FnA P w K mg (He.ma K (He.ga K "BadStep") "__init__") 1 ["self", "thing"] ((spEx1 (He.ga K "BadStep") "thing"))) (GM_Crowded___init__ : FnA P w K mg (He.ma K (He.ga K "Crowded") "__init__") 1 ["self", "kind", "needed"] ((spEx2 (He.ga K "Crowded") "kind" "needed"))) (GM_NoBudget___init__ : FnA P w K mg (He.ma K (He.ga K "NoBudget") "__init__") 1 ["self", "thing"] ((spEx1 (He.ga K "NoBudget") "thing"))) (GM_NoChange___init__ : FnA P w K mg (He.ma K (He.ga K "NoChange") "__init__") 1 ["self", "kind"] ((spEx1 (He.ga K "NoChange") "kind"))) (GM_NoFit___init__ : FnA P w K mg (He.ma K (He.ga K "NoFit") "__init__") 1 ["self", "name"] ((spEx1 (He.ga K "NoFit") "name"))) (GM_NoKind___init__ : FnA P w K mg (He.ma K (He.ga K "NoKind") "__init__") 1 ["self", "name"] ((spEx1 (He.ga K "NoKind") "name"))) (GM_NoLine___init__ : FnA P w K mg (He.ma K (He.ga K "NoLine") "__init__") 1 ["self"] ((spEx0 (He.ga K "NoLine")))) (GM_NoName___init__ : FnA P w K mg (He.ma K (He.ga K "NoName") "__init__") 1 ["self", "name"] ((spEx1 (He.ga K "NoName") "name"))) (GM_NoPlaces___init__ : FnA P w K mg (He.ma K (He.ga K "NoPlaces") "__init__") 1 ["self", "many"] ((spEx1 (He.ga K "NoPlaces") "many"))) (GM_NoRoom___init__ : FnA P w K mg (He.ma K (He.ga K "NoRoom") "__init__") 1 ["self", "kind", "lacking"] ((spEx2 (He.ga K "NoRoom") "kind" "lacking"))) (GM_NoRow___init__ : FnA P w K mg (He.ma K (He.ga K "NoRow") "__init__") 1 ["self", "row"] ((spEx1 (He.ga K "NoRow") "row"))) (GM_NoSize___init__ : FnA P w K mg (He.ma K (He.ga K "NoSize") "__init__") 1 ["self", "thing"] ((spEx1 (He.ga K "NoSize") "thing"))) (GM_NoState___init__ : FnA P w K mg (He.ma K (He.ga K "NoState") "__init__") 1 ["self", "thing"] ((spEx1 (He.ga K "NoState") "thing"))) (GM_NoText___init__ : FnA P w K mg (He.ma K (He.ga K "NoText") "__init__") 1 ["self", "place"] ((spEx1 (He.ga K "NoText") "place"))) (GM_NotPlain___init__ : FnA P w K mg (He.ma K (He.ga K "NotPlain") "__init__") 1 ["self", "kind"] ((spEx1 (He.ga K "NotPlain") "kind"))) (GM_Twice___init__ : FnA P w K mg (He.ma K (He.ga K "Twice") "__init__") 1 ["self", "name"] ((spEx1 (He.ga K "Twice") "name"))) (GM_Unlike___init__ : FnA P w K mg (He.ma K (He.ga K "Unlike") "__init__") 1 ["self", "word"] ((spEx1 (He.ga K "Unlike") "word"))) (GM_Within___init__ : FnA P w K mg (He.ma K (He.ga K "Within") "__init__") 1 ["self"] ((spEx0 (He.ga K "Within")))) : Fn P w K mg "_law_first" 4 ["k", "one", "other"] ((spFirst K)) := by
  obtain ⟨fd, F⟩ := c.d_law_first
  refine Fn.mk' F c.g_law_first sc_law_first (k := 3) (fun vs H Q E h => ?_) (fun _ _ _ _ _ _ us hl => match us, hl with | [_, _, _], _ => rfl) (fun base cdv A outer s H vs Q E hr h => ?_)
  · exact len_law_first h
  · have nd := sc_law_first.nd
    have hu := hu_of hr
    have hrI_BadLine : Room (1 + 1) _ := hr.mono (by omega)
    have hrI_BadStep : Room (1 + 1) _ := hr.mono (by omega)
    have hrI_Crowded : Room (1 + 1) _ := hr.mono (by omega)
    have hrI_NoBudget : Room (1 + 1) _ := hr.mono (by omega)
    have hrI_NoChange : Room (1 + 1) _ := hr.mono (by omega)
    have hrI_NoFit : Room (1 + 1) _ := hr.mono (by omega)
    have hrI_NoKind : Room (1 + 1) _ := hr.mono (by omega)
    have hrI_NoLine : Room (1 + 1) _ := hr.mono (by omega)
    have hrI_NoName : Room (1 + 1) _ := hr.mono (by omega)
    have hrI_NoPlaces : Room (1 + 1) _ := hr.mono (by omega)
    have hrI_NoRoom : Room (1 + 1) _ := hr.mono (by omega)
    have hrI_NoRow : Room (1 + 1) _ := hr.mono (by omega)
    have hrI_NoSize : Room (1 + 1) _ := hr.mono (by omega)
    have hrI_NoState : Room (1 + 1) _ := hr.mono (by omega)
    have hrI_NoText : Room (1 + 1) _ := hr.mono (by omega)
    have hrI_NotPlain : Room (1 + 1) _ := hr.mono (by omega)
    have hrI_Twice : Room (1 + 1) _ := hr.mono (by omega)
    have hrI_Unlike : Room (1 + 1) _ := hr.mono (by omega)
    have hrI_Within : Room (1 + 1) _ := hr.mono (by omega)
    refine ⟨_, (pss_cons (ps_if (pt_cmpR op_lt (pv 0) pe_int (nomark _)) (pss_cons (ps_set (i := 3) nd rfl (Or.inl rfl) (pe_lst (pa_cons (EXV.pe_mkX GM_NoText___init__ rfl c.x_NoText c.xi_NoText c.gc_NoText hrI_NoText (by rfl) (pa_cons (pv 1) pa_nil)) (pa_cons (EXV.pe_mkX GM_Twice___init__ rfl c.x_Twice c.xi_Twice c.gc_Twice hrI_Twice (by rfl) (pa_cons (pv 1) pa_nil)) (pa_cons (EXV.pe_mkX GM_NoName___init__ rfl c.x_NoName c.xi_NoName c.gc_NoName hrI_NoName (by rfl) (pa_cons (pv 1) pa_nil)) (pa_cons (EXV.pe_mkX GM_NoFit___init__ rfl c.x_NoFit c.xi_NoFit c.gc_NoFit hrI_NoFit (by rfl) (pa_cons (pv 1) pa_nil)) (pa_cons (EXV.pe_mkX GM_BadLine___init__ rfl c.x_BadLine c.xi_BadLine c.gc_BadLine hrI_BadLine (by rfl) (pa_cons (pv 1) pa_nil)) pa_nil)))))))
      (pss_one (ps_ret (pe_ix (ix_any (K := K) rfl) (pv 3) (pv 0) (fun _ _ => rfl))))) pss_nil)
      (pss_cons (ps_set (i := 3) nd rfl (Or.inl rfl) (pe_lst (pa_cons (EXV.pe_mkX GM_NoKind___init__ rfl c.x_NoKind c.xi_NoKind c.gc_NoKind hrI_NoKind (by rfl) (pa_cons (pv 1) pa_nil)) (pa_cons (EXV.pe_mkX GM_NoRow___init__ rfl c.x_NoRow c.xi_NoRow c.gc_NoRow hrI_NoRow (by rfl) (pa_cons (pv 1) pa_nil)) (pa_cons (EXV.pe_mkX GM_NoState___init__ rfl c.x_NoState c.xi_NoState c.gc_NoState hrI_NoState (by rfl) (pa_cons (pv 1) pa_nil)) (pa_cons (EXV.pe_mkX GM_BadStep___init__ rfl c.x_BadStep c.xi_BadStep c.gc_BadStep hrI_BadStep (by rfl) (pa_cons (pv 1) pa_nil)) (pa_cons (EXV.pe_mkX GM_NoPlaces___init__ rfl c.x_NoPlaces c.xi_NoPlaces c.gc_NoPlaces hrI_NoPlaces (by rfl) (pa_cons (pv 1) pa_nil)) (pa_cons (EXV.pe_mkX GM_NoSize___init__ rfl c.x_NoSize c.xi_NoSize c.gc_NoSize hrI_NoSize (by rfl) (pa_cons (pv 1) pa_nil)) (pa_cons (EXV.pe_mkX GM_NoRoom___init__ rfl c.x_NoRoom c.xi_NoRoom c.gc_NoRoom hrI_NoRoom (by rfl) (pa_cons (pv 1) (pa_cons (pv 2) pa_nil))) pa_nil)))))))))
      (pss_cons (ps_set (i := 3) nd rfl (Or.inl rfl) (pe_op (op_addA (K := K) rfl) (pv 3) (pe_lst (pa_cons (EXV.pe_mkX GM_Crowded___init__ rfl c.x_Crowded c.xi_Crowded c.gc_Crowded hrI_Crowded (by rfl) (pa_cons (pv 1) (pa_cons (pv 2) pa_nil))) (pa_cons (EXV.pe_mkX GM_NoBudget___init__ rfl c.x_NoBudget c.xi_NoBudget c.gc_NoBudget hrI_NoBudget (by rfl) (pa_cons (pv 1) pa_nil)) (pa_cons (EXV.pe_mkX0 GM_Within___init__ rfl c.x_Within c.xi_Within c.gc_Within hrI_Within (by rfl)) (pa_cons (EXV.pe_mkX GM_NoChange___init__ rfl c.x_NoChange c.xi_NoChange c.gc_NoChange hrI_NoChange (by rfl) (pa_cons (pv 1) pa_nil)) (pa_cons (EXV.pe_mkX GM_Unlike___init__ rfl c.x_Unlike c.xi_Unlike c.gc_Unlike hrI_Unlike (by rfl) (pa_cons (pv 1) pa_nil)) (pa_cons (EXV.pe_mkX GM_NotPlain___init__ rfl c.x_NotPlain c.xi_NotPlain c.gc_NotPlain hrI_NotPlain (by rfl) (pa_cons (pv 1) pa_nil)) (pa_cons (EXV.pe_mkX0 GM_NoLine___init__ rfl c.x_NoLine c.xi_NoLine c.gc_NoLine hrI_NoLine (by rfl)) pa_nil))))))))))
      (pss_one (ps_ret (pe_ix (ix_any (K := K) rfl) (pv 3) (pe_op op_sub (pv 0) pe_int) (fun _ _ => rfl))))))), ?_⟩
    try dsimp only [cxOf, Cx.nox, Cx.wish]
    obtain ⟨k, x, y, rfl, hk, q⟩ := h
    have hz : sizeLine = 16777216 := sizeLine_eq
    repeat walk_at "w"
    refine ite2 (fun hk5 => ?_) (fun hk5 => ?_)
    · rw [decide_eq_true_eq] at hk5
      repeat walk_at "w"
      refine EXV.w_mkV ?_
      repeat walk_at "w"
      refine mk1 fun aNoText H1 eNoText s1 => ?_
      repeat walk_at "w"
      refine EXV.w_mkV ?_
      repeat walk_at "w"
      refine mk1 fun aTwice H2 eTwice s2 => ?_
      repeat walk_at "w"
      refine EXV.w_mkV ?_
      repeat walk_at "w"
      refine mk1 fun aNoName H3 eNoName s3 => ?_
      repeat walk_at "w"
      refine EXV.w_mkV ?_
      repeat walk_at "w"
      refine mk1 fun aNoFit H4 eNoFit s4 => ?_
      repeat walk_at "w"
      refine EXV.w_mkV ?_
      repeat walk_at "w"
      refine mk1 fun aBadLine H5 eBadLine s5 => ?_
      repeat walk_at "w"
      refine w_new fun L6 H6 n6 s6 f6 => ?_
      repeat walk_at "w"
      have c : k = 0 ∨ k = 1 ∨ k = 2 ∨ k = 3 ∨ k = 4 := by omega
      rcases c with rfl | rfl | rfl | rfl | rfl
      · refine w_ixL (SqL.of f6) (v := .ref aNoText) (atI_of (by omega) (by rfl)) ?_
        try repeat walk_at "w"
        exact q aNoText H6 (eNoText.sm (s2.trans (s3.trans (s4.trans (s5.trans s6))))) (s1.trans (s2.trans (s3.trans (s4.trans (s5.trans s6)))))
      · refine w_ixL (SqL.of f6) (v := .ref aTwice) (atI_of (by omega) (by rfl)) ?_
        try repeat walk_at "w"
        exact q aTwice H6 (eTwice.sm (s3.trans (s4.trans (s5.trans s6)))) (s1.trans (s2.trans (s3.trans (s4.trans (s5.trans s6)))))
      · refine w_ixL (SqL.of f6) (v := .ref aNoName) (atI_of (by omega) (by rfl)) ?_
        try repeat walk_at "w"
        exact q aNoName H6 (eNoName.sm (s4.trans (s5.trans s6))) (s1.trans (s2.trans (s3.trans (s4.trans (s5.trans s6)))))
      · refine w_ixL (SqL.of f6) (v := .ref aNoFit) (atI_of (by omega) (by rfl)) ?_
        try repeat walk_at "w"
        exact q aNoFit H6 (eNoFit.sm (s5.trans s6)) (s1.trans (s2.trans (s3.trans (s4.trans (s5.trans s6)))))
      · refine w_ixL (SqL.of f6) (v := .ref aBadLine) (atI_of (by omega) (by rfl)) ?_
        try repeat walk_at "w"
        exact q aBadLine H6 (eBadLine.sm s6) (s1.trans (s2.trans (s3.trans (s4.trans (s5.trans s6)))))
    · rw [decide_eq_true_eq] at hk5
      repeat walk_at "w"
      refine EXV.w_mkV ?_
      repeat walk_at "w"
      refine mk1 fun aNoKind H1 eNoKind s1 => ?_
      repeat walk_at "w"
      refine EXV.w_mkV ?_
      repeat walk_at "w"
      refine mk1 fun aNoRow H2 eNoRow s2 => ?_
      repeat walk_at "w"
      refine EXV.w_mkV ?_
      repeat walk_at "w"
      refine mk1 fun aNoState H3 eNoState s3 => ?_
      repeat walk_at "w"
      refine EXV.w_mkV ?_
      repeat walk_at "w"
      refine mk1 fun aBadStep H4 eBadStep s4 => ?_
      repeat walk_at "w"
      refine EXV.w_mkV ?_
      repeat walk_at "w"
      refine mk1 fun aNoPlaces H5 eNoPlaces s5 => ?_
      repeat walk_at "w"
      refine EXV.w_mkV ?_
      repeat walk_at "w"
      refine mk1 fun aNoSize H6 eNoSize s6 => ?_
      repeat walk_at "w"
      refine EXV.w_mkV ?_
      repeat walk_at "w"
      refine mk2 fun aNoRoom H7 eNoRoom s7 => ?_
      repeat walk_at "w"
      refine w_new fun L8 H8 n8 s8 f8 => ?_
      repeat walk_at "w"
      refine EXV.w_mkV ?_
      repeat walk_at "w"
      refine mk2 fun aCrowded H9 eCrowded s9 => ?_
      repeat walk_at "w"
      refine EXV.w_mkV ?_
      repeat walk_at "w"
      refine mk1 fun aNoBudget H10 eNoBudget s10 => ?_
      repeat walk_at "w"
      refine EXV.w_mkV ?_
      repeat walk_at "w"
      refine mk0 fun aWithin H11 eWithin s11 => ?_
      repeat walk_at "w"
      refine EXV.w_mkV ?_
      repeat walk_at "w"
      refine mk1 fun aNoChange H12 eNoChange s12 => ?_
      repeat walk_at "w"
      refine EXV.w_mkV ?_
      repeat walk_at "w"
      refine mk1 fun aUnlike H13 eUnlike s13 => ?_
      repeat walk_at "w"
      refine EXV.w_mkV ?_
      repeat walk_at "w"
      refine mk1 fun aNotPlain H14 eNotPlain s14 => ?_
      repeat walk_at "w"
      refine EXV.w_mkV ?_
      repeat walk_at "w"
      refine mk0 fun aNoLine H15 eNoLine s15 => ?_
      repeat walk_at "w"
      refine w_new fun L16 H16 n16 s16 f16 => ?_
      repeat walk_at "w"
      have g1 := (s9.trans (s10.trans (s11.trans (s12.trans (s13.trans (s14.trans (s15.trans s16))))))) _ _ f8
      try refine w_addL g1 f16 (by rw [hz]; simp) ?_
      refine w_new fun L17 H17 n17 s17 f17 => ?_
      repeat walk_at "w"
      have c : k = 5 ∨ k = 6 ∨ k = 7 ∨ k = 8 ∨ k = 9 ∨ k = 10 ∨ k = 11 ∨ k = 12 ∨ k = 13 ∨ k = 14 ∨ k = 15 ∨ k = 16 ∨ k = 17 ∨ k = 18 := by omega
      rcases c with rfl | rfl | rfl | rfl | rfl | rfl | rfl | rfl | rfl | rfl | rfl | rfl | rfl | rfl
      · refine w_ixL (SqL.of f17) (v := .ref aNoKind) (atI_of (by omega) (by rfl)) ?_
        try repeat walk_at "w"
        exact q aNoKind H17 (eNoKind.sm (s2.trans (s3.trans (s4.trans (s5.trans (s6.trans (s7.trans (s8.trans (s9.trans (s10.trans (s11.trans (s12.trans (s13.trans (s14.trans (s15.trans (s16.trans s17)))))))))))))))) (s1.trans (s2.trans (s3.trans (s4.trans (s5.trans (s6.trans (s7.trans (s8.trans (s9.trans (s10.trans (s11.trans (s12.trans (s13.trans (s14.trans (s15.trans (s16.trans s17))))))))))))))))
      · refine w_ixL (SqL.of f17) (v := .ref aNoRow) (atI_of (by omega) (by rfl)) ?_
        try repeat walk_at "w"
        exact q aNoRow H17 (eNoRow.sm (s3.trans (s4.trans (s5.trans (s6.trans (s7.trans (s8.trans (s9.trans (s10.trans (s11.trans (s12.trans (s13.trans (s14.trans (s15.trans (s16.trans s17))))))))))))))) (s1.trans (s2.trans (s3.trans (s4.trans (s5.trans (s6.trans (s7.trans (s8.trans (s9.trans (s10.trans (s11.trans (s12.trans (s13.trans (s14.trans (s15.trans (s16.trans s17))))))))))))))))
      · refine w_ixL (SqL.of f17) (v := .ref aNoState) (atI_of (by omega) (by rfl)) ?_
        try repeat walk_at "w"
        exact q aNoState H17 (eNoState.sm (s4.trans (s5.trans (s6.trans (s7.trans (s8.trans (s9.trans (s10.trans (s11.trans (s12.trans (s13.trans (s14.trans (s15.trans (s16.trans s17)))))))))))))) (s1.trans (s2.trans (s3.trans (s4.trans (s5.trans (s6.trans (s7.trans (s8.trans (s9.trans (s10.trans (s11.trans (s12.trans (s13.trans (s14.trans (s15.trans (s16.trans s17))))))))))))))))
      · refine w_ixL (SqL.of f17) (v := .ref aBadStep) (atI_of (by omega) (by rfl)) ?_
        try repeat walk_at "w"
        exact q aBadStep H17 (eBadStep.sm (s5.trans (s6.trans (s7.trans (s8.trans (s9.trans (s10.trans (s11.trans (s12.trans (s13.trans (s14.trans (s15.trans (s16.trans s17))))))))))))) (s1.trans (s2.trans (s3.trans (s4.trans (s5.trans (s6.trans (s7.trans (s8.trans (s9.trans (s10.trans (s11.trans (s12.trans (s13.trans (s14.trans (s15.trans (s16.trans s17))))))))))))))))
      · refine w_ixL (SqL.of f17) (v := .ref aNoPlaces) (atI_of (by omega) (by rfl)) ?_
        try repeat walk_at "w"
        exact q aNoPlaces H17 (eNoPlaces.sm (s6.trans (s7.trans (s8.trans (s9.trans (s10.trans (s11.trans (s12.trans (s13.trans (s14.trans (s15.trans (s16.trans s17)))))))))))) (s1.trans (s2.trans (s3.trans (s4.trans (s5.trans (s6.trans (s7.trans (s8.trans (s9.trans (s10.trans (s11.trans (s12.trans (s13.trans (s14.trans (s15.trans (s16.trans s17))))))))))))))))
      · refine w_ixL (SqL.of f17) (v := .ref aNoSize) (atI_of (by omega) (by rfl)) ?_
        try repeat walk_at "w"
        exact q aNoSize H17 (eNoSize.sm (s7.trans (s8.trans (s9.trans (s10.trans (s11.trans (s12.trans (s13.trans (s14.trans (s15.trans (s16.trans s17))))))))))) (s1.trans (s2.trans (s3.trans (s4.trans (s5.trans (s6.trans (s7.trans (s8.trans (s9.trans (s10.trans (s11.trans (s12.trans (s13.trans (s14.trans (s15.trans (s16.trans s17))))))))))))))))
      · refine w_ixL (SqL.of f17) (v := .ref aNoRoom) (atI_of (by omega) (by rfl)) ?_
        try repeat walk_at "w"
        exact q aNoRoom H17 (eNoRoom.sm (s8.trans (s9.trans (s10.trans (s11.trans (s12.trans (s13.trans (s14.trans (s15.trans (s16.trans s17)))))))))) (s1.trans (s2.trans (s3.trans (s4.trans (s5.trans (s6.trans (s7.trans (s8.trans (s9.trans (s10.trans (s11.trans (s12.trans (s13.trans (s14.trans (s15.trans (s16.trans s17))))))))))))))))
      · refine w_ixL (SqL.of f17) (v := .ref aCrowded) (atI_of (by omega) (by rfl)) ?_
        try repeat walk_at "w"
        exact q aCrowded H17 (eCrowded.sm (s10.trans (s11.trans (s12.trans (s13.trans (s14.trans (s15.trans (s16.trans s17)))))))) (s1.trans (s2.trans (s3.trans (s4.trans (s5.trans (s6.trans (s7.trans (s8.trans (s9.trans (s10.trans (s11.trans (s12.trans (s13.trans (s14.trans (s15.trans (s16.trans s17))))))))))))))))
      · refine w_ixL (SqL.of f17) (v := .ref aNoBudget) (atI_of (by omega) (by rfl)) ?_
        try repeat walk_at "w"
        exact q aNoBudget H17 (eNoBudget.sm (s11.trans (s12.trans (s13.trans (s14.trans (s15.trans (s16.trans s17))))))) (s1.trans (s2.trans (s3.trans (s4.trans (s5.trans (s6.trans (s7.trans (s8.trans (s9.trans (s10.trans (s11.trans (s12.trans (s13.trans (s14.trans (s15.trans (s16.trans s17))))))))))))))))
      · refine w_ixL (SqL.of f17) (v := .ref aWithin) (atI_of (by omega) (by rfl)) ?_
        try repeat walk_at "w"
        exact q aWithin H17 (eWithin.sm (s12.trans (s13.trans (s14.trans (s15.trans (s16.trans s17)))))) (s1.trans (s2.trans (s3.trans (s4.trans (s5.trans (s6.trans (s7.trans (s8.trans (s9.trans (s10.trans (s11.trans (s12.trans (s13.trans (s14.trans (s15.trans (s16.trans s17))))))))))))))))
      · refine w_ixL (SqL.of f17) (v := .ref aNoChange) (atI_of (by omega) (by rfl)) ?_
        try repeat walk_at "w"
        exact q aNoChange H17 (eNoChange.sm (s13.trans (s14.trans (s15.trans (s16.trans s17))))) (s1.trans (s2.trans (s3.trans (s4.trans (s5.trans (s6.trans (s7.trans (s8.trans (s9.trans (s10.trans (s11.trans (s12.trans (s13.trans (s14.trans (s15.trans (s16.trans s17))))))))))))))))
      · refine w_ixL (SqL.of f17) (v := .ref aUnlike) (atI_of (by omega) (by rfl)) ?_
        try repeat walk_at "w"
        exact q aUnlike H17 (eUnlike.sm (s14.trans (s15.trans (s16.trans s17)))) (s1.trans (s2.trans (s3.trans (s4.trans (s5.trans (s6.trans (s7.trans (s8.trans (s9.trans (s10.trans (s11.trans (s12.trans (s13.trans (s14.trans (s15.trans (s16.trans s17))))))))))))))))
      · refine w_ixL (SqL.of f17) (v := .ref aNotPlain) (atI_of (by omega) (by rfl)) ?_
        try repeat walk_at "w"
        exact q aNotPlain H17 (eNotPlain.sm (s15.trans (s16.trans s17))) (s1.trans (s2.trans (s3.trans (s4.trans (s5.trans (s6.trans (s7.trans (s8.trans (s9.trans (s10.trans (s11.trans (s12.trans (s13.trans (s14.trans (s15.trans (s16.trans s17))))))))))))))))
      · refine w_ixL (SqL.of f17) (v := .ref aNoLine) (atI_of (by omega) (by rfl)) ?_
        try repeat walk_at "w"
        exact q aNoLine H17 (eNoLine.sm (s16.trans s17)) (s1.trans (s2.trans (s3.trans (s4.trans (s5.trans (s6.trans (s7.trans (s8.trans (s9.trans (s10.trans (s11.trans (s12.trans (s13.trans (s14.trans (s15.trans (s16.trans s17))))))))))))))))
theorem ok_law_kinds [c : Facts K mg] : Fn P w K mg "_law_kinds" 1 ["error"] ((spKinds K)) := by
  obtain ⟨fd, F⟩ := c.d_law_kinds
  refine Fn.mk' F c.g_law_kinds sc_law_kinds (k := 0) (fun vs H Q E h => ?_) (fun _ _ _ _ _ _ us hl => match us, hl with | [_], _ => rfl) (fun base cdv A outer s H vs Q E hr h => ?_)
  · exact len_law_kinds h
  · have nd := sc_law_kinds.nd
    have hu := hu_of hr
    refine ⟨_, (pss_cons (ps_set (i := 1) nd rfl (Or.inl rfl) (pe_lst (pa_cons (pe_callB (EXV.call_isiE (K := K) rfl) (by rfl) c.f_isinstance boot_isinstance (pa_cons (pv 0) (pa_cons (pe_glob (v := .ref (He.ga K "NoText")) (by rfl) c.gc_NoText rfl) pa_nil))) (pa_cons (pe_callB (EXV.call_isiE (K := K) rfl) (by rfl) c.f_isinstance boot_isinstance (pa_cons (pv 0) (pa_cons (pe_glob (v := .ref (He.ga K "Twice")) (by rfl) c.gc_Twice rfl) pa_nil))) (pa_cons (pe_callB (EXV.call_isiE (K := K) rfl) (by rfl) c.f_isinstance boot_isinstance (pa_cons (pv 0) (pa_cons (pe_glob (v := .ref (He.ga K "NoName")) (by rfl) c.gc_NoName rfl) pa_nil))) (pa_cons (pe_callB (EXV.call_isiE (K := K) rfl) (by rfl) c.f_isinstance boot_isinstance (pa_cons (pv 0) (pa_cons (pe_glob (v := .ref (He.ga K "NoFit")) (by rfl) c.gc_NoFit rfl) pa_nil))) pa_nil))))))
      (pss_cons (ps_set (i := 1) nd rfl (Or.inl rfl) (pe_op (op_addA (K := K) rfl) (pv 1) (pe_lst (pa_cons (pe_callB (EXV.call_isiE (K := K) rfl) (by rfl) c.f_isinstance boot_isinstance (pa_cons (pv 0) (pa_cons (pe_glob (v := .ref (He.ga K "BadLine")) (by rfl) c.gc_BadLine rfl) pa_nil))) (pa_cons (pe_callB (EXV.call_isiE (K := K) rfl) (by rfl) c.f_isinstance boot_isinstance (pa_cons (pv 0) (pa_cons (pe_glob (v := .ref (He.ga K "NoKind")) (by rfl) c.gc_NoKind rfl) pa_nil))) (pa_cons (pe_callB (EXV.call_isiE (K := K) rfl) (by rfl) c.f_isinstance boot_isinstance (pa_cons (pv 0) (pa_cons (pe_glob (v := .ref (He.ga K "NoRow")) (by rfl) c.gc_NoRow rfl) pa_nil))) pa_nil))))))
      (pss_cons (ps_set (i := 1) nd rfl (Or.inl rfl) (pe_op (op_addA (K := K) rfl) (pv 1) (pe_lst (pa_cons (pe_callB (EXV.call_isiE (K := K) rfl) (by rfl) c.f_isinstance boot_isinstance (pa_cons (pv 0) (pa_cons (pe_glob (v := .ref (He.ga K "NoState")) (by rfl) c.gc_NoState rfl) pa_nil))) (pa_cons (pe_callB (EXV.call_isiE (K := K) rfl) (by rfl) c.f_isinstance boot_isinstance (pa_cons (pv 0) (pa_cons (pe_glob (v := .ref (He.ga K "BadStep")) (by rfl) c.gc_BadStep rfl) pa_nil))) (pa_cons (pe_callB (EXV.call_isiE (K := K) rfl) (by rfl) c.f_isinstance boot_isinstance (pa_cons (pv 0) (pa_cons (pe_glob (v := .ref (He.ga K "NoPlaces")) (by rfl) c.gc_NoPlaces rfl) pa_nil))) pa_nil))))))
      (pss_cons (ps_set (i := 1) nd rfl (Or.inl rfl) (pe_op (op_addA (K := K) rfl) (pv 1) (pe_lst (pa_cons (pe_callB (EXV.call_isiE (K := K) rfl) (by rfl) c.f_isinstance boot_isinstance (pa_cons (pv 0) (pa_cons (pe_glob (v := .ref (He.ga K "NoSize")) (by rfl) c.gc_NoSize rfl) pa_nil))) (pa_cons (pe_callB (EXV.call_isiE (K := K) rfl) (by rfl) c.f_isinstance boot_isinstance (pa_cons (pv 0) (pa_cons (pe_glob (v := .ref (He.ga K "NoRoom")) (by rfl) c.gc_NoRoom rfl) pa_nil))) (pa_cons (pe_callB (EXV.call_isiE (K := K) rfl) (by rfl) c.f_isinstance boot_isinstance (pa_cons (pv 0) (pa_cons (pe_glob (v := .ref (He.ga K "Crowded")) (by rfl) c.gc_Crowded rfl) pa_nil))) pa_nil))))))
      (pss_cons (ps_set (i := 1) nd rfl (Or.inl rfl) (pe_op (op_addA (K := K) rfl) (pv 1) (pe_lst (pa_cons (pe_callB (EXV.call_isiE (K := K) rfl) (by rfl) c.f_isinstance boot_isinstance (pa_cons (pv 0) (pa_cons (pe_glob (v := .ref (He.ga K "NoBudget")) (by rfl) c.gc_NoBudget rfl) pa_nil))) (pa_cons (pe_callB (EXV.call_isiE (K := K) rfl) (by rfl) c.f_isinstance boot_isinstance (pa_cons (pv 0) (pa_cons (pe_glob (v := .ref (He.ga K "Within")) (by rfl) c.gc_Within rfl) pa_nil))) (pa_cons (pe_callB (EXV.call_isiE (K := K) rfl) (by rfl) c.f_isinstance boot_isinstance (pa_cons (pv 0) (pa_cons (pe_glob (v := .ref (He.ga K "NoChange")) (by rfl) c.gc_NoChange rfl) pa_nil))) pa_nil))))))
      (pss_one (ps_ret (pe_op (op_addA (K := K) rfl) (pv 1) (pe_lst (pa_cons (pe_callB (EXV.call_isiE (K := K) rfl) (by rfl) c.f_isinstance boot_isinstance (pa_cons (pv 0) (pa_cons (pe_glob (v := .ref (He.ga K "Unlike")) (by rfl) c.gc_Unlike rfl) pa_nil))) (pa_cons (pe_callB (EXV.call_isiE (K := K) rfl) (by rfl) c.f_isinstance boot_isinstance (pa_cons (pv 0) (pa_cons (pe_glob (v := .ref (He.ga K "NotPlain")) (by rfl) c.gc_NotPlain rfl) pa_nil))) (pa_cons (pe_callB (EXV.call_isiE (K := K) rfl) (by rfl) c.f_isinstance boot_isinstance (pa_cons (pv 0) (pa_cons (pe_glob (v := .ref (He.ga K "NoLine")) (by rfl) c.gc_NoLine rfl) pa_nil))) pa_nil)))))))))))), ?_⟩
    try dsimp only [cxOf, Cx.nox, Cx.wish]
    obtain ⟨a, C, rfl, hC, he, q⟩ := h
    have hz : sizeLine = 16777216 := sizeLine_eq
    repeat walk_at "w"
    refine w_isiE (D := "NoText") hC (by decide +kernel) (he.sm (Same.refl _)) ?_
    repeat walk_at "w"
    refine w_isiE (D := "Twice") hC (by decide +kernel) (he.sm (Same.refl _)) ?_
    repeat walk_at "w"
    refine w_isiE (D := "NoName") hC (by decide +kernel) (he.sm (Same.refl _)) ?_
    repeat walk_at "w"
    refine w_isiE (D := "NoFit") hC (by decide +kernel) (he.sm (Same.refl _)) ?_
    repeat walk_at "w"
    refine w_new fun L1 H1 n1 s1 f1 => ?_
    repeat walk_at "w"
    refine w_isiE (D := "BadLine") hC (by decide +kernel) (he.sm s1) ?_
    repeat walk_at "w"
    refine w_isiE (D := "NoKind") hC (by decide +kernel) (he.sm s1) ?_
    repeat walk_at "w"
    refine w_isiE (D := "NoRow") hC (by decide +kernel) (he.sm s1) ?_
    repeat walk_at "w"
    refine w_new fun L2 H2 n2 s2 f2 => ?_
    repeat walk_at "w"
    have g2 := s2 _ _ f1
    try refine w_addL g2 f2 (by rw [hz]; simp) ?_
    refine w_new fun L3 H3 n3 s3 f3 => ?_
    repeat walk_at "w"
    refine w_isiE (D := "NoState") hC (by decide +kernel) (he.sm (s1.trans (s2.trans s3))) ?_
    repeat walk_at "w"
    refine w_isiE (D := "BadStep") hC (by decide +kernel) (he.sm (s1.trans (s2.trans s3))) ?_
    repeat walk_at "w"
    refine w_isiE (D := "NoPlaces") hC (by decide +kernel) (he.sm (s1.trans (s2.trans s3))) ?_
    repeat walk_at "w"
    refine w_new fun L4 H4 n4 s4 f4 => ?_
    repeat walk_at "w"
    have g4 := s4 _ _ f3
    try refine w_addL g4 f4 (by rw [hz]; simp) ?_
    refine w_new fun L5 H5 n5 s5 f5 => ?_
    repeat walk_at "w"
    refine w_isiE (D := "NoSize") hC (by decide +kernel) (he.sm (s1.trans (s2.trans (s3.trans (s4.trans s5))))) ?_
    repeat walk_at "w"
    refine w_isiE (D := "NoRoom") hC (by decide +kernel) (he.sm (s1.trans (s2.trans (s3.trans (s4.trans s5))))) ?_
    repeat walk_at "w"
    refine w_isiE (D := "Crowded") hC (by decide +kernel) (he.sm (s1.trans (s2.trans (s3.trans (s4.trans s5))))) ?_
    repeat walk_at "w"
    refine w_new fun L6 H6 n6 s6 f6 => ?_
    repeat walk_at "w"
    have g6 := s6 _ _ f5
    try refine w_addL g6 f6 (by rw [hz]; simp) ?_
    refine w_new fun L7 H7 n7 s7 f7 => ?_
    repeat walk_at "w"
    refine w_isiE (D := "NoBudget") hC (by decide +kernel) (he.sm (s1.trans (s2.trans (s3.trans (s4.trans (s5.trans (s6.trans s7))))))) ?_
    repeat walk_at "w"
    refine w_isiE (D := "Within") hC (by decide +kernel) (he.sm (s1.trans (s2.trans (s3.trans (s4.trans (s5.trans (s6.trans s7))))))) ?_
    repeat walk_at "w"
    refine w_isiE (D := "NoChange") hC (by decide +kernel) (he.sm (s1.trans (s2.trans (s3.trans (s4.trans (s5.trans (s6.trans s7))))))) ?_
    repeat walk_at "w"
    refine w_new fun L8 H8 n8 s8 f8 => ?_
    repeat walk_at "w"
    have g8 := s8 _ _ f7
    try refine w_addL g8 f8 (by rw [hz]; simp) ?_
    refine w_new fun L9 H9 n9 s9 f9 => ?_
    repeat walk_at "w"
    refine w_isiE (D := "Unlike") hC (by decide +kernel) (he.sm (s1.trans (s2.trans (s3.trans (s4.trans (s5.trans (s6.trans (s7.trans (s8.trans s9))))))))) ?_
    repeat walk_at "w"
    refine w_isiE (D := "NotPlain") hC (by decide +kernel) (he.sm (s1.trans (s2.trans (s3.trans (s4.trans (s5.trans (s6.trans (s7.trans (s8.trans s9))))))))) ?_
    repeat walk_at "w"
    refine w_isiE (D := "NoLine") hC (by decide +kernel) (he.sm (s1.trans (s2.trans (s3.trans (s4.trans (s5.trans (s6.trans (s7.trans (s8.trans s9))))))))) ?_
    repeat walk_at "w"
    refine w_new fun L10 H10 n10 s10 f10 => ?_
    repeat walk_at "w"
    have g10 := s10 _ _ f9
    try refine w_addL g10 f10 (by rw [hz]; simp) ?_
    refine w_new fun L11 H11 n11 s11 f11 => ?_
    refine q L11 H11 ?_ (s1.trans (s2.trans (s3.trans (s4.trans (s5.trans (s6.trans (s7.trans (s8.trans (s9.trans (s10.trans s11))))))))))
    rw [← kinds_eq C hC]
    exact f11
end

end J
namespace J
open PySem PySem.Spec PyProof.Rows L2

local macro_rules | `(tactic| walk_at "ty") => `(tactic| first
  | with_reducible exact ty_int
  | with_reducible exact ty_bl
  | with_reducible exact ty_str
  | with_reducible exact ty_non
  | ((with_reducible refine' ty_lst ?vv); (case vv => walk_at "tr"))
  | ((with_reducible refine' ty_sqT ?vv); (case vv => walk_at "tr"))
  | ((with_reducible refine' ty_dic ?vv); (case vv => walk_at "tr")))
local macro_rules | `(tactic| walk_at "ix") => `(tactic| first | exact at0 | exact at1 | exact at2 | assumption)
local macro_rules | `(tactic| walk_at "size") => `(tactic| first
  | assumption
  | (show _ < sizeLine; rw [sizeLine_eq]; (try simp only [List.length_cons, List.length_nil, List.length_append, List.length_map]); omega)
  | (show _ ≤ sizeLine; rw [sizeLine_eq]; (try simp only [List.length_cons, List.length_nil, List.length_append, List.length_map]); omega))
local macro_rules | `(tactic| walk_at "side") => `(tactic| first
  | assumption
  | ((with_reducible refine cdw ?_ ?_) <;> omega)
  | omega
  | (exact ⟨by omega, by omega⟩)
  | (exact Or.inl ⟨by omega, by omega⟩)
  | (exact Or.inr ⟨by omega, by omega⟩)
  | decide
  | (simp only [List.length_cons, List.length_nil, List.length_append, List.length_map]; omega)
  | (show _ ≤ _; decide))
local macro_rules | `(tactic| walk_at "as") => `(tactic| with_reducible assumption)
local macro_rules | `(tactic| walk_at "tr") => `(tactic| first
  | with_reducible assumption
  | with_reducible exact upd_same
  | ((with_reducible refine' SqL.of ?hh); (case hh => walk_at "as"))
  | ((with_reducible refine' SqT.of ?hh); (case hh => walk_at "as"))
  | ((with_reducible refine' Same.stm ?ee ?gg); (case ee => walk_at "as"); (case gg => walk_at "tr"))
  | ((with_reducible refine' Same.sqT ?ee ?gg); (case ee => walk_at "as"); (case gg => walk_at "tr"))
  | ((with_reducible refine' Same.sqL ?ee ?gg); (case ee => walk_at "as"); (case gg => walk_at "tr"))
  | ((with_reducible refine' Same.at ?ee ?gg); (case ee => walk_at "as"); (case gg => walk_at "tr"))
  | ((with_reducible refine' But.stm ?ee ?ff ?gg); (case ee => walk_at "as"); (case ff => walk_at "ne"); (case gg => walk_at "tr"))
  | ((with_reducible refine' But.tup ?ee ?ff ?gg); (case ee => walk_at "as"); (case ff => walk_at "tr1"); (case gg => walk_at "tr"))
  | ((with_reducible refine' But.sqT ?ee ?ff ?gg); (case ee => walk_at "as"); (case ff => walk_at "tr1"); (case gg => walk_at "tr"))
  | ((with_reducible refine' But.tupL ?ee ?ff ?gg); (case ee => walk_at "as"); (case ff => walk_at "tr1"); (case gg => walk_at "tr"))
  | ((with_reducible refine' But.sqTL ?ee ?ff ?gg); (case ee => walk_at "as"); (case ff => walk_at "tr1"); (case gg => walk_at "tr"))
  | ((with_reducible refine' But.sqL ?ee ?ff ?gg); (case ee => walk_at "as"); (case ff => walk_at "ne"); (case gg => walk_at "tr"))
  | ((with_reducible refine' But.at ?ee ?ff ?gg); (case ee => walk_at "as"); (case ff => walk_at "ne"); (case gg => walk_at "tr")))
local macro_rules | `(tactic| walk_at "ts") => `(tactic| first
  | with_reducible assumption
  | with_reducible exact TS.refl _
  | ((with_reducible refine' TS.trans ?gg (TS.of ?ee)); (case ee => walk_at "as"); (case gg => walk_at "ts"))
  | ((with_reducible refine' TS.trans ?gg (TS.butS ?ee ?ff)); (case ee => walk_at "as"); (case ff => walk_at "tr1"); (case gg => walk_at "ts"))
  | ((with_reducible refine' TS.trans ?gg (TS.butL ?ee ?ff)); (case ee => walk_at "as"); (case ff => walk_at "tr1"); (case gg => walk_at "ts"))
  | ((with_reducible refine' TS.trans ?gg (TS.butI ?ee ?ff)); (case ee => walk_at "as"); (case ff => walk_at "tr1"); (case gg => walk_at "ts")))
local macro_rules | `(tactic| walk_at "sm") => `(tactic| first
  | with_reducible assumption
  | with_reducible exact Same.refl _
  | ((with_reducible refine' Same.trans ?gg ?ee); (case ee => walk_at "as"); (case gg => walk_at "sm"))
  | ((with_reducible refine' But.new ?gg ?nn ?ee); (case ee => walk_at "as"); (case nn => walk_at "fr"); (case gg => walk_at "sm")))
local macro_rules | `(tactic| walk_at "fr") => `(tactic| first
  | with_reducible assumption
  | ((with_reducible refine' Same.back ?ee ?nn); (case nn => walk_at "as"); (case ee => walk_at "sm"))
  | ((with_reducible refine' But.back ?ee ?ff ?nn); (case nn => walk_at "as"); (case ff => walk_at "ne0"); (case ee => walk_at "bu")))
local macro_rules | `(tactic| walk_at "bu") => `(tactic| first
  | with_reducible assumption
  | with_reducible exact But.refl _ _
  | ((with_reducible refine' But.trans ?gg ?ee); (case ee => walk_at "as"); (case gg => walk_at "bu"))
  | ((with_reducible refine' But.trans ?gg (But.of ?ee)); (case ee => walk_at "as"); (case gg => walk_at "bu"))
  | ((with_reducible refine' But.new2 ?gg ?nn ?ee); (case ee => walk_at "as"); (case nn => walk_at "frB"); (case gg => walk_at "bu")))
local macro_rules | `(tactic| walk_at "frB") => `(tactic| first
  | with_reducible assumption
  | ((with_reducible refine' Same.back ?ee ?nn); (case nn => walk_at "as"); (case ee => walk_at "sm"))
  | ((with_reducible refine' But.back' ?ee ?ff ?nn); (case nn => walk_at "as"); (case ee => walk_at "bu"); (case ff => walk_at "tr1")))
local macro_rules | `(tactic| walk_at "tr1") => `(tactic| first
  | with_reducible assumption
  | ((with_reducible refine' Same.stm ?ee ?gg); (case ee => walk_at "as"); (case gg => walk_at "tr1"))
  | ((with_reducible refine' Same.at ?ee ?gg); (case ee => walk_at "as"); (case gg => walk_at "tr1"))
  | ((with_reducible refine' But.at ?ee ?ff ?gg); (case ee => walk_at "as"); (case ff => walk_at "ne0"); (case gg => walk_at "tr1"))
  | ((with_reducible refine' But.stm ?ee ?ff ?gg); (case ee => walk_at "as"); (case ff => walk_at "ne0"); (case gg => walk_at "tr1")))
local macro_rules | `(tactic| walk_at "ne0") => `(tactic| first
  | with_reducible assumption
  | (with_reducible apply Ne.symm; with_reducible assumption))
local macro_rules | `(tactic| walk_at "ne") => `(tactic| first
  | with_reducible assumption
  | (with_reducible apply Ne.symm; with_reducible assumption)
  | ((with_reducible refine' stm_ne ?hh ?nn); (case nn => walk_at "as"); (case hh => walk_at "tr1"))
  | ((with_reducible refine' ne_of_none ?hh ?nn); (case nn => walk_at "as"); (case hh => walk_at "tr1"))
  | ((with_reducible apply Ne.symm); (with_reducible refine' ne_of_none ?hh ?nn); (case nn => walk_at "as"); (case hh => walk_at "tr1")))
local macro_rules | `(tactic| walk_at "v") => `(tactic| first
  | with_reducible refine w_seq ?_
  | ((with_reducible refine' w_var ?vv ?_); (case vv => exact rfl))
  | with_reducible refine w_c ?_
  | with_reducible refine w_op ?_
  | with_reducible refine w_asg ?_
  | with_reducible refine w_gName ?_
  | with_reducible refine w_ret ?_
  | with_reducible refine w_ifS ?_
  | with_reducible refine w_drop ?_
  | with_reducible refine w_next ?_
  | with_reducible refine w_cons ?_
  | with_reducible refine w_nil ?_
  | with_reducible refine w_call ?_
  | with_reducible refine w_cb ?_
  | with_reducible refine w_rI0 ?_
  | with_reducible refine w_addI ?_
  | with_reducible refine w_eqI ?_
  | with_reducible refine w_neI ?_
  | with_reducible refine w_eqS ?_
  | with_reducible refine w_neS ?_
  | with_reducible refine w_eqB ?_
  | with_reducible refine w_neB ?_
  | with_reducible refine w_chain ?_
  | with_reducible refine w_test ?_
  | with_reducible refine w_tB ?_
  | with_reducible refine w_bl ?_
  | ((with_reducible refine' w_mulI ?vv ?_); (case vv => walk_at "side"))
  | ((with_reducible refine' w_rI ?vv ?_); (case vv => walk_at "side"))
  | with_reducible refine w_int1 ?_
  | with_reducible refine w_int1b ?_
  | with_reducible refine w_tup ?_
  | with_reducible refine w_lst ?_
  | with_reducible refine w_un ?_
  | with_reducible refine w_rU ?_
  | with_reducible refine w_not ?_
  | with_reducible refine w_notV ?_
  | with_reducible refine w_ifE ?_
  | with_reducible refine w_nT ?_
  | with_reducible refine w_nF ?_
  | with_reducible refine iteT ?_
  | with_reducible refine iteF ?_
  | ((with_reducible refine' w_ixT ?vv ?ww ?_); (case vv => walk_at "tr"); (case ww => walk_at "ix"))
  | ((with_reducible refine' w_ixL ?vv ?ww ?_); (case vv => walk_at "tr"); (case ww => walk_at "ix"))
  | with_reducible refine w_gSub ?_
  | ((with_reducible refine' w_setL ?vv ?ww ?_); (case vv => walk_at "tr"); (case ww => first | rfl | decide | assumption))
  | ((with_reducible refine' w_lenL ?vv ?_); (case vv => walk_at "tr"))
  | ((with_reducible refine' w_lenT ?vv ?_); (case vv => walk_at "tr"))
  | with_reducible refine w_max2 ?_
  | with_reducible refine w_max3 ?_
  | with_reducible refine w_din ?_
  | with_reducible refine w_dnotin ?_
  | with_reducible refine w_dput ?_
  | with_reducible refine w_min2 ?_
  | with_reducible refine w_bm ?_
  | with_reducible refine w_bm0 ?_
  | ((with_reducible refine' w_tyL ?vv ?_); (case vv => walk_at "tr"))
  | ((with_reducible refine' w_append ?vv ?ww ?_); (case vv => walk_at "tr"); (case ww => walk_at "size"))
  | ((with_reducible refine' w_size ?vv ?_); (case vv => walk_at "size"))
  | with_reducible refine w_forL ?_
  | with_reducible refine w_forT ?_
  | with_reducible refine w_forR1 ?_
  | with_reducible refine w_forR2 ?_
  | with_reducible refine w_lcL ?_
  | with_reducible refine w_lcT ?_
  | with_reducible refine w_lcR1 ?_
  | with_reducible refine w_yes ?_
  | with_reducible refine w_sl ?_
  | with_reducible refine w_noPart ?_
  | with_reducible refine w_part ?_
  | with_reducible refine w_int ?_
  | ((with_reducible refine' w_slL ?vv ?_); (case vv => walk_at "tr"))
  | ((with_reducible refine' w_seqL ?vv ?ww ?_); (case vv => walk_at "tr"); (case ww => rfl))
  | ((with_reducible refine' w_seqT ?vv ?ww ?_); (case vv => walk_at "tr"); (case ww => rfl))
  | with_reducible refine w_gNil ?_
  | with_reducible refine w_gCons ?_
  | with_reducible refine w_forZ ?_
  | with_reducible refine w_forM ?_
  | with_reducible refine w_forE ?_
  | with_reducible refine w_forV ?_
  | with_reducible refine w_lcZ ?_
  | with_reducible refine w_lcE ?_
  | ((with_reducible refine' w_isi (b := true) ?vv ?ww ?_); (case vv => walk_at "ty"); (case ww => decide +kernel))
  | ((with_reducible refine' w_isi (b := false) ?vv ?ww ?_); (case vv => walk_at "ty"); (case ww => decide +kernel))
  | with_reducible refine w_revL ?_
  | with_reducible refine w_pairN ?_
  | with_reducible refine w_pairC ?_
  | with_reducible refine w_dget ?_
  | with_reducible refine w_met ?_
  | ((with_reducible refine' w_metAt ?vv ?ww ?_); (case vv => walk_at "tr"); (case ww => rfl))
  | with_reducible refine w_mkI ?_
  | with_reducible refine w_fld ?_
  | ((with_reducible refine' w_fldAt ?vv ?cc ?nn ?ww ?_); (case vv => walk_at "tr"); (case cc => walk_at "cls"); (case nn => walk_at "na"); (case ww => rfl))
  | with_reducible refine w_sfld ?_
  | ((with_reducible refine' w_sfldAt ?vv ?cc ?nn ?ll ?ee ?_); (case vv => walk_at "tr"); (case cc => walk_at "cls"); (case nn => walk_at "na"); (case ll => simp); (case ee => rfl))
  | ((with_reducible refine' w_tupL ?vv ?_); (case vv => walk_at "tr"))
  | ((with_reducible refine' w_tupT ?vv ?_); (case vv => walk_at "tr"))
  | ((with_reducible refine' w_listL ?vv ?_); (case vv => walk_at "tr"))
  | ((with_reducible refine' w_listT ?vv ?_); (case vv => walk_at "tr"))
  | with_reducible refine w_tyS ?_
  | with_reducible refine w_lcZM ?_
  | with_reducible refine w_js ?_
  | with_reducible refine w_jsN ?_
  | ((with_reducible refine' w_jsP ?vv ?_); (case vv => walk_at "size"))
  | with_reducible refine w_fmt ?_
  | with_reducible refine w_forRR ?_
  | with_reducible refine w_retN ?_
  | with_reducible refine w_break ?_
  | with_reducible refine w_cont ?_)
local macro_rules | `(tactic| walk_at "w") => `(tactic| first
  | walk_at "v"
  | with_reducible refine w_or ?_
  | with_reducible refine w_and ?_
  | with_reducible refine w_andV ?_
  | with_reducible refine w_orV ?_)
local macro_rules | `(tactic| walk_at "wd") => `(tactic| first
  | walk_at "w"
  | ((with_reducible refine' w_decT ?vv ?_); (case vv => decide +kernel))
  | ((with_reducible refine' w_decF ?vv ?_); (case vv => decide +kernel)))
local macro_rules | `(tactic| walk_at "tz") => `(tactic| (intro S z; (repeat walk_at "w"); exact z))
local macro_rules | `(tactic| walk_at "wf") => `(tactic| first
  | walk_at "wd"
  | ((with_reducible refine' w_decF ?vv ?_); (case vv => with_reducible assumption)))
/-! ### k04: fields of errors -/
def fieldsV (k : Nat) (x y : V) : List V := (fsOf k x y).reverse.map (·.2)
def spFields (K : PySem.W.Frag) : Sp := fun vs H Q _ => ∃ (a : Addr) (k : Nat) (x y : V), vs = [.ref a] ∧ k < 19 ∧ ErrAt H a (He.ga K (clOf k)) (fsOf k x y) ∧ ∀ q H', H' q = some (.lst (fieldsV k x y)) → Same H H' → H q = none → Q (.ref q) H'
theorem len_law_fields {K : PySem.W.Frag} {vs H Q E} (h : spFields K vs H Q E) : vs.length = 1 := by obtain ⟨_, _, _, _, rfl, _⟩ := h; rfl
section
variable {K : PySem.W.Frag} {mg : Str → Option Value} {H : Hp} {Q : VK}
theorem own_all (Ds : List Str) : Paired ClsV (Ds.map fun D => V.ref (He.ga K D)) (Ds.map fun D => Value.ref (He.ga K D)) := by
  induction Ds with
  | nil => exact .nil
  | cons D Ds ih => exact .cons (.own _) ih
theorem any_all [Facts K mg] {C : Str} (hC : C ∈ exN) : ∀ Ds : List Str, (∀ D ∈ Ds, D ∈ exN) → PySem.W.kitAny K (.ref (He.ga K C)) (Ds.map fun D => Value.ref (He.ga K D)) = some (Ds.any (exAb C))
  | [], _ => rfl
  | D :: Ds, h => by
    rw [List.map_cons, PySem.W.kitAny, Facts.xk C hC D (h D List.mem_cons_self), List.any_cons]
    cases exAb C D with
    | true => rfl
    | false => exact any_all hC Ds fun x hx => h x (List.mem_cons_of_mem _ hx)
theorem w_isiTE [Facts K mg] {a tp : Addr} {C : Str} (Ds : List Str) (hC : C ∈ exN) (hD : ∀ D ∈ Ds, D ∈ exN) (h : ErrX H a (He.ga K C)) (ht : H tp = some (.tup (Ds.map fun D => V.ref (He.ga K D)))) (k : Q (.bl (Ds.any (exAb C))) H) : EXV.rIsiTE K [.ref a, .ref tp] H Q :=
  ⟨_, tp, _, _, _, _, rfl, ht, own_all Ds, h.ty (ex_all C hC).e, any_all hC Ds hD, k⟩
end
section
variable {P : Program} {w : World} {K : PySem.W.Frag} {mg : Str → Option Value}
theorem ok_law_fields [c : Facts K mg] : Fn P w K mg "_law_fields" 1 ["error"] ((spFields K)) := by
  obtain ⟨fd, F⟩ := c.d_law_fields
  refine Fn.mk' F c.g_law_fields sc_law_fields (k := 0) (fun vs H Q E h => ?_) (fun _ _ _ _ _ _ us hl => match us, hl with | [_], _ => rfl) (fun base cdv A outer s H vs Q E hr h => ?_)
  · exact len_law_fields h
  · have nd := sc_law_fields.nd
    have hu := hu_of hr
    refine ⟨_, (pss_cons (ps_if (pt_val (pe_callB (EXV.call_isiE (K := K) rfl) (by rfl) c.f_isinstance boot_isinstance (pa_cons (pv 0) (pa_cons (pe_glob (v := .ref (He.ga K "NoText")) (by rfl) c.gc_NoText rfl) pa_nil)))) (pss_one (ps_ret (pe_lst (pa_cons (EXV.pe_xv (K := K) rfl (pv 0)) pa_nil)))) pss_nil)
      (pss_cons (ps_if (pt_val (pe_callB (EXV.call_isiTE (K := K) rfl) (by rfl) c.f_isinstance boot_isinstance (pa_cons (pv 0) (pa_cons (pe_tup (pa_cons (pe_glob (v := .ref (He.ga K "Twice")) (by rfl) c.gc_Twice rfl) (pa_cons (pe_glob (v := .ref (He.ga K "NoName")) (by rfl) c.gc_NoName rfl) (pa_cons (pe_glob (v := .ref (He.ga K "NoFit")) (by rfl) c.gc_NoFit rfl) (pa_cons (pe_glob (v := .ref (He.ga K "NoKind")) (by rfl) c.gc_NoKind rfl) pa_nil))))) pa_nil)))) (pss_one (ps_ret (pe_lst (pa_cons (EXV.pe_xv (K := K) rfl (pv 0)) pa_nil)))) pss_nil)
      (pss_cons (ps_if (pt_val (pe_callB (EXV.call_isiE (K := K) rfl) (by rfl) c.f_isinstance boot_isinstance (pa_cons (pv 0) (pa_cons (pe_glob (v := .ref (He.ga K "BadLine")) (by rfl) c.gc_BadLine rfl) pa_nil)))) (pss_one (ps_ret (pe_lst (pa_cons (EXV.pe_xv (K := K) rfl (pv 0)) pa_nil)))) pss_nil)
      (pss_cons (ps_if (pt_val (pe_callB (EXV.call_isiE (K := K) rfl) (by rfl) c.f_isinstance boot_isinstance (pa_cons (pv 0) (pa_cons (pe_glob (v := .ref (He.ga K "NoRow")) (by rfl) c.gc_NoRow rfl) pa_nil)))) (pss_one (ps_ret (pe_lst (pa_cons (EXV.pe_xv (K := K) rfl (pv 0)) pa_nil)))) pss_nil)
      (pss_cons (ps_if (pt_val (pe_callB (EXV.call_isiTE (K := K) rfl) (by rfl) c.f_isinstance boot_isinstance (pa_cons (pv 0) (pa_cons (pe_tup (pa_cons (pe_glob (v := .ref (He.ga K "NoState")) (by rfl) c.gc_NoState rfl) (pa_cons (pe_glob (v := .ref (He.ga K "BadStep")) (by rfl) c.gc_BadStep rfl) (pa_cons (pe_glob (v := .ref (He.ga K "NoSize")) (by rfl) c.gc_NoSize rfl) (pa_cons (pe_glob (v := .ref (He.ga K "NoBudget")) (by rfl) c.gc_NoBudget rfl) pa_nil))))) pa_nil)))) (pss_one (ps_ret (pe_lst (pa_cons (EXV.pe_xv (K := K) rfl (pv 0)) pa_nil)))) pss_nil)
      (pss_cons (ps_if (pt_val (pe_callB (EXV.call_isiE (K := K) rfl) (by rfl) c.f_isinstance boot_isinstance (pa_cons (pv 0) (pa_cons (pe_glob (v := .ref (He.ga K "NoPlaces")) (by rfl) c.gc_NoPlaces rfl) pa_nil)))) (pss_one (ps_ret (pe_lst (pa_cons (EXV.pe_xv (K := K) rfl (pv 0)) pa_nil)))) pss_nil)
      (pss_cons (ps_if (pt_val (pe_callB (EXV.call_isiE (K := K) rfl) (by rfl) c.f_isinstance boot_isinstance (pa_cons (pv 0) (pa_cons (pe_glob (v := .ref (He.ga K "NoRoom")) (by rfl) c.gc_NoRoom rfl) pa_nil)))) (pss_one (ps_ret (pe_lst (pa_cons (EXV.pe_xv (K := K) rfl (pv 0)) (pa_cons (EXV.pe_xv (K := K) rfl (pv 0)) pa_nil))))) pss_nil)
      (pss_cons (ps_if (pt_val (pe_callB (EXV.call_isiE (K := K) rfl) (by rfl) c.f_isinstance boot_isinstance (pa_cons (pv 0) (pa_cons (pe_glob (v := .ref (He.ga K "Crowded")) (by rfl) c.gc_Crowded rfl) pa_nil)))) (pss_one (ps_ret (pe_lst (pa_cons (EXV.pe_xv (K := K) rfl (pv 0)) (pa_cons (EXV.pe_xv (K := K) rfl (pv 0)) pa_nil))))) pss_nil)
      (pss_cons (ps_if (pt_val (pe_callB (EXV.call_isiTE (K := K) rfl) (by rfl) c.f_isinstance boot_isinstance (pa_cons (pv 0) (pa_cons (pe_tup (pa_cons (pe_glob (v := .ref (He.ga K "NoChange")) (by rfl) c.gc_NoChange rfl) (pa_cons (pe_glob (v := .ref (He.ga K "NotPlain")) (by rfl) c.gc_NotPlain rfl) pa_nil))) pa_nil)))) (pss_one (ps_ret (pe_lst (pa_cons (EXV.pe_xv (K := K) rfl (pv 0)) pa_nil)))) pss_nil)
      (pss_cons (ps_if (pt_val (pe_callB (EXV.call_isiE (K := K) rfl) (by rfl) c.f_isinstance boot_isinstance (pa_cons (pv 0) (pa_cons (pe_glob (v := .ref (He.ga K "Unlike")) (by rfl) c.gc_Unlike rfl) pa_nil)))) (pss_one (ps_ret (pe_lst (pa_cons (EXV.pe_xv (K := K) rfl (pv 0)) pa_nil)))) pss_nil)
      (pss_one (ps_ret (pe_lst pa_nil))))))))))))), ?_⟩
    try dsimp only [cxOf, Cx.nox, Cx.wish]
    obtain ⟨a, k, x, y, rfl, hk, he, q⟩ := h
    repeat walk_at "w"
    have c : k = 0 ∨ k = 1 ∨ k = 2 ∨ k = 3 ∨ k = 4 ∨ k = 5 ∨ k = 6 ∨ k = 7 ∨ k = 8 ∨ k = 9 ∨ k = 10 ∨ k = 11 ∨ k = 12 ∨ k = 13 ∨ k = 14 ∨ k = 15 ∨ k = 16 ∨ k = 17 ∨ k = 18 := by omega
    rcases c with rfl | rfl | rfl | rfl | rfl | rfl | rfl | rfl | rfl | rfl | rfl | rfl | rfl | rfl | rfl | rfl | rfl | rfl | rfl
    · replace he : ErrAt H a (He.ga K "NoText") [("place", x)] := he
      have hx : ErrX H a (He.ga K "NoText") := .inl ⟨_, he⟩
      have hC : ("NoText" : Str) ∈ exN := by decide +kernel
      refine w_isiE (D := "NoText") hC (by decide +kernel) (hx.sm (Same.refl _)) ?_
      rw [show exAb "NoText" "NoText" = true from by decide +kernel]
      repeat walk_at "w"
      rcases he.sm (Same.refl _) with ⟨z, _⟩ | ⟨dx, h1, h2⟩
      · cases z
      refine EXV.w_xv ?_
      repeat walk_at "w"
      refine ⟨a, _, dx, _, x, rfl, Facts.x_NoText.x, Facts.xn_NoText_place, h1, h2, by rfl, ?_⟩
      repeat walk_at "w"
      refine w_new fun t1 H1 n1 s1 f1 => ?_
      exact q t1 H1 f1 s1 ((Same.refl _).free n1)
    · replace he : ErrAt H a (He.ga K "Twice") [("name", x)] := he
      have hx : ErrX H a (He.ga K "Twice") := .inl ⟨_, he⟩
      have hC : ("Twice" : Str) ∈ exN := by decide +kernel
      refine w_isiE (D := "NoText") hC (by decide +kernel) (hx.sm (Same.refl _)) ?_
      rw [show exAb "Twice" "NoText" = false from by decide +kernel]
      repeat walk_at "w"
      refine w_new fun t1 H1 n1 s1 f1 => ?_
      repeat walk_at "w"
      refine w_isiTE ["Twice", "NoName", "NoFit", "NoKind"] hC (by decide +kernel) (hx.sm s1) f1 ?_
      rw [show (["Twice", "NoName", "NoFit", "NoKind"] : List Str).any (exAb "Twice") = true from by decide +kernel]
      repeat walk_at "w"
      rcases he.sm s1 with ⟨z, _⟩ | ⟨dx, h1, h2⟩
      · cases z
      refine EXV.w_xv ?_
      repeat walk_at "w"
      refine ⟨a, _, dx, _, x, rfl, Facts.x_Twice.x, Facts.xn_Twice_name, h1, h2, by rfl, ?_⟩
      repeat walk_at "w"
      refine w_new fun t2 H2 n2 s2 f2 => ?_
      exact q t2 H2 f2 (s1.trans s2) (s1.free n2)
    · replace he : ErrAt H a (He.ga K "NoName") [("name", x)] := he
      have hx : ErrX H a (He.ga K "NoName") := .inl ⟨_, he⟩
      have hC : ("NoName" : Str) ∈ exN := by decide +kernel
      refine w_isiE (D := "NoText") hC (by decide +kernel) (hx.sm (Same.refl _)) ?_
      rw [show exAb "NoName" "NoText" = false from by decide +kernel]
      repeat walk_at "w"
      refine w_new fun t1 H1 n1 s1 f1 => ?_
      repeat walk_at "w"
      refine w_isiTE ["Twice", "NoName", "NoFit", "NoKind"] hC (by decide +kernel) (hx.sm s1) f1 ?_
      rw [show (["Twice", "NoName", "NoFit", "NoKind"] : List Str).any (exAb "NoName") = true from by decide +kernel]
      repeat walk_at "w"
      rcases he.sm s1 with ⟨z, _⟩ | ⟨dx, h1, h2⟩
      · cases z
      refine EXV.w_xv ?_
      repeat walk_at "w"
      refine ⟨a, _, dx, _, x, rfl, Facts.x_NoName.x, Facts.xn_NoName_name, h1, h2, by rfl, ?_⟩
      repeat walk_at "w"
      refine w_new fun t2 H2 n2 s2 f2 => ?_
      exact q t2 H2 f2 (s1.trans s2) (s1.free n2)
    · replace he : ErrAt H a (He.ga K "NoFit") [("name", x)] := he
      have hx : ErrX H a (He.ga K "NoFit") := .inl ⟨_, he⟩
      have hC : ("NoFit" : Str) ∈ exN := by decide +kernel
      refine w_isiE (D := "NoText") hC (by decide +kernel) (hx.sm (Same.refl _)) ?_
      rw [show exAb "NoFit" "NoText" = false from by decide +kernel]
      repeat walk_at "w"
      refine w_new fun t1 H1 n1 s1 f1 => ?_
      repeat walk_at "w"
      refine w_isiTE ["Twice", "NoName", "NoFit", "NoKind"] hC (by decide +kernel) (hx.sm s1) f1 ?_
      rw [show (["Twice", "NoName", "NoFit", "NoKind"] : List Str).any (exAb "NoFit") = true from by decide +kernel]
      repeat walk_at "w"
      rcases he.sm s1 with ⟨z, _⟩ | ⟨dx, h1, h2⟩
      · cases z
      refine EXV.w_xv ?_
      repeat walk_at "w"
      refine ⟨a, _, dx, _, x, rfl, Facts.x_NoFit.x, Facts.xn_NoFit_name, h1, h2, by rfl, ?_⟩
      repeat walk_at "w"
      refine w_new fun t2 H2 n2 s2 f2 => ?_
      exact q t2 H2 f2 (s1.trans s2) (s1.free n2)
    · replace he : ErrAt H a (He.ga K "BadLine") [("line", x)] := he
      have hx : ErrX H a (He.ga K "BadLine") := .inl ⟨_, he⟩
      have hC : ("BadLine" : Str) ∈ exN := by decide +kernel
      refine w_isiE (D := "NoText") hC (by decide +kernel) (hx.sm (Same.refl _)) ?_
      rw [show exAb "BadLine" "NoText" = false from by decide +kernel]
      repeat walk_at "w"
      refine w_new fun t1 H1 n1 s1 f1 => ?_
      repeat walk_at "w"
      refine w_isiTE ["Twice", "NoName", "NoFit", "NoKind"] hC (by decide +kernel) (hx.sm s1) f1 ?_
      rw [show (["Twice", "NoName", "NoFit", "NoKind"] : List Str).any (exAb "BadLine") = false from by decide +kernel]
      repeat walk_at "w"
      refine w_isiE (D := "BadLine") hC (by decide +kernel) (hx.sm s1) ?_
      rw [show exAb "BadLine" "BadLine" = true from by decide +kernel]
      repeat walk_at "w"
      rcases he.sm s1 with ⟨z, _⟩ | ⟨dx, h1, h2⟩
      · cases z
      refine EXV.w_xv ?_
      repeat walk_at "w"
      refine ⟨a, _, dx, _, x, rfl, Facts.x_BadLine.x, Facts.xn_BadLine_line, h1, h2, by rfl, ?_⟩
      repeat walk_at "w"
      refine w_new fun t2 H2 n2 s2 f2 => ?_
      exact q t2 H2 f2 (s1.trans s2) (s1.free n2)
    · replace he : ErrAt H a (He.ga K "NoKind") [("name", x)] := he
      have hx : ErrX H a (He.ga K "NoKind") := .inl ⟨_, he⟩
      have hC : ("NoKind" : Str) ∈ exN := by decide +kernel
      refine w_isiE (D := "NoText") hC (by decide +kernel) (hx.sm (Same.refl _)) ?_
      rw [show exAb "NoKind" "NoText" = false from by decide +kernel]
      repeat walk_at "w"
      refine w_new fun t1 H1 n1 s1 f1 => ?_
      repeat walk_at "w"
      refine w_isiTE ["Twice", "NoName", "NoFit", "NoKind"] hC (by decide +kernel) (hx.sm s1) f1 ?_
      rw [show (["Twice", "NoName", "NoFit", "NoKind"] : List Str).any (exAb "NoKind") = true from by decide +kernel]
      repeat walk_at "w"
      rcases he.sm s1 with ⟨z, _⟩ | ⟨dx, h1, h2⟩
      · cases z
      refine EXV.w_xv ?_
      repeat walk_at "w"
      refine ⟨a, _, dx, _, x, rfl, Facts.x_NoKind.x, Facts.xn_NoKind_name, h1, h2, by rfl, ?_⟩
      repeat walk_at "w"
      refine w_new fun t2 H2 n2 s2 f2 => ?_
      exact q t2 H2 f2 (s1.trans s2) (s1.free n2)
    · replace he : ErrAt H a (He.ga K "NoRow") [("row", x)] := he
      have hx : ErrX H a (He.ga K "NoRow") := .inl ⟨_, he⟩
      have hC : ("NoRow" : Str) ∈ exN := by decide +kernel
      refine w_isiE (D := "NoText") hC (by decide +kernel) (hx.sm (Same.refl _)) ?_
      rw [show exAb "NoRow" "NoText" = false from by decide +kernel]
      repeat walk_at "w"
      refine w_new fun t1 H1 n1 s1 f1 => ?_
      repeat walk_at "w"
      refine w_isiTE ["Twice", "NoName", "NoFit", "NoKind"] hC (by decide +kernel) (hx.sm s1) f1 ?_
      rw [show (["Twice", "NoName", "NoFit", "NoKind"] : List Str).any (exAb "NoRow") = false from by decide +kernel]
      repeat walk_at "w"
      refine w_isiE (D := "BadLine") hC (by decide +kernel) (hx.sm s1) ?_
      rw [show exAb "NoRow" "BadLine" = false from by decide +kernel]
      repeat walk_at "w"
      refine w_isiE (D := "NoRow") hC (by decide +kernel) (hx.sm s1) ?_
      rw [show exAb "NoRow" "NoRow" = true from by decide +kernel]
      repeat walk_at "w"
      rcases he.sm s1 with ⟨z, _⟩ | ⟨dx, h1, h2⟩
      · cases z
      refine EXV.w_xv ?_
      repeat walk_at "w"
      refine ⟨a, _, dx, _, x, rfl, Facts.x_NoRow.x, Facts.xn_NoRow_row, h1, h2, by rfl, ?_⟩
      repeat walk_at "w"
      refine w_new fun t2 H2 n2 s2 f2 => ?_
      exact q t2 H2 f2 (s1.trans s2) (s1.free n2)
    · replace he : ErrAt H a (He.ga K "NoState") [("thing", x)] := he
      have hx : ErrX H a (He.ga K "NoState") := .inl ⟨_, he⟩
      have hC : ("NoState" : Str) ∈ exN := by decide +kernel
      refine w_isiE (D := "NoText") hC (by decide +kernel) (hx.sm (Same.refl _)) ?_
      rw [show exAb "NoState" "NoText" = false from by decide +kernel]
      repeat walk_at "w"
      refine w_new fun t1 H1 n1 s1 f1 => ?_
      repeat walk_at "w"
      refine w_isiTE ["Twice", "NoName", "NoFit", "NoKind"] hC (by decide +kernel) (hx.sm s1) f1 ?_
      rw [show (["Twice", "NoName", "NoFit", "NoKind"] : List Str).any (exAb "NoState") = false from by decide +kernel]
      repeat walk_at "w"
      refine w_isiE (D := "BadLine") hC (by decide +kernel) (hx.sm s1) ?_
      rw [show exAb "NoState" "BadLine" = false from by decide +kernel]
      repeat walk_at "w"
      refine w_isiE (D := "NoRow") hC (by decide +kernel) (hx.sm s1) ?_
      rw [show exAb "NoState" "NoRow" = false from by decide +kernel]
      repeat walk_at "w"
      refine w_new fun t2 H2 n2 s2 f2 => ?_
      repeat walk_at "w"
      refine w_isiTE ["NoState", "BadStep", "NoSize", "NoBudget"] hC (by decide +kernel) (hx.sm (s1.trans s2)) f2 ?_
      rw [show (["NoState", "BadStep", "NoSize", "NoBudget"] : List Str).any (exAb "NoState") = true from by decide +kernel]
      repeat walk_at "w"
      rcases he.sm (s1.trans s2) with ⟨z, _⟩ | ⟨dx, h1, h2⟩
      · cases z
      refine EXV.w_xv ?_
      repeat walk_at "w"
      refine ⟨a, _, dx, _, x, rfl, Facts.x_NoState.x, Facts.xn_NoState_thing, h1, h2, by rfl, ?_⟩
      repeat walk_at "w"
      refine w_new fun t3 H3 n3 s3 f3 => ?_
      exact q t3 H3 f3 (s1.trans (s2.trans s3)) ((s1.trans s2).free n3)
    · replace he : ErrAt H a (He.ga K "BadStep") [("thing", x)] := he
      have hx : ErrX H a (He.ga K "BadStep") := .inl ⟨_, he⟩
      have hC : ("BadStep" : Str) ∈ exN := by decide +kernel
      refine w_isiE (D := "NoText") hC (by decide +kernel) (hx.sm (Same.refl _)) ?_
      rw [show exAb "BadStep" "NoText" = false from by decide +kernel]
      repeat walk_at "w"
      refine w_new fun t1 H1 n1 s1 f1 => ?_
      repeat walk_at "w"
      refine w_isiTE ["Twice", "NoName", "NoFit", "NoKind"] hC (by decide +kernel) (hx.sm s1) f1 ?_
      rw [show (["Twice", "NoName", "NoFit", "NoKind"] : List Str).any (exAb "BadStep") = false from by decide +kernel]
      repeat walk_at "w"
      refine w_isiE (D := "BadLine") hC (by decide +kernel) (hx.sm s1) ?_
      rw [show exAb "BadStep" "BadLine" = false from by decide +kernel]
      repeat walk_at "w"
      refine w_isiE (D := "NoRow") hC (by decide +kernel) (hx.sm s1) ?_
      rw [show exAb "BadStep" "NoRow" = false from by decide +kernel]
      repeat walk_at "w"
      refine w_new fun t2 H2 n2 s2 f2 => ?_
      repeat walk_at "w"
      refine w_isiTE ["NoState", "BadStep", "NoSize", "NoBudget"] hC (by decide +kernel) (hx.sm (s1.trans s2)) f2 ?_
      rw [show (["NoState", "BadStep", "NoSize", "NoBudget"] : List Str).any (exAb "BadStep") = true from by decide +kernel]
      repeat walk_at "w"
      rcases he.sm (s1.trans s2) with ⟨z, _⟩ | ⟨dx, h1, h2⟩
      · cases z
      refine EXV.w_xv ?_
      repeat walk_at "w"
      refine ⟨a, _, dx, _, x, rfl, Facts.x_BadStep.x, Facts.xn_BadStep_thing, h1, h2, by rfl, ?_⟩
      repeat walk_at "w"
      refine w_new fun t3 H3 n3 s3 f3 => ?_
      exact q t3 H3 f3 (s1.trans (s2.trans s3)) ((s1.trans s2).free n3)
    · replace he : ErrAt H a (He.ga K "NoPlaces") [("many", x)] := he
      have hx : ErrX H a (He.ga K "NoPlaces") := .inl ⟨_, he⟩
      have hC : ("NoPlaces" : Str) ∈ exN := by decide +kernel
      refine w_isiE (D := "NoText") hC (by decide +kernel) (hx.sm (Same.refl _)) ?_
      rw [show exAb "NoPlaces" "NoText" = false from by decide +kernel]
      repeat walk_at "w"
      refine w_new fun t1 H1 n1 s1 f1 => ?_
      repeat walk_at "w"
      refine w_isiTE ["Twice", "NoName", "NoFit", "NoKind"] hC (by decide +kernel) (hx.sm s1) f1 ?_
      rw [show (["Twice", "NoName", "NoFit", "NoKind"] : List Str).any (exAb "NoPlaces") = false from by decide +kernel]
      repeat walk_at "w"
      refine w_isiE (D := "BadLine") hC (by decide +kernel) (hx.sm s1) ?_
      rw [show exAb "NoPlaces" "BadLine" = false from by decide +kernel]
      repeat walk_at "w"
      refine w_isiE (D := "NoRow") hC (by decide +kernel) (hx.sm s1) ?_
      rw [show exAb "NoPlaces" "NoRow" = false from by decide +kernel]
      repeat walk_at "w"
      refine w_new fun t2 H2 n2 s2 f2 => ?_
      repeat walk_at "w"
      refine w_isiTE ["NoState", "BadStep", "NoSize", "NoBudget"] hC (by decide +kernel) (hx.sm (s1.trans s2)) f2 ?_
      rw [show (["NoState", "BadStep", "NoSize", "NoBudget"] : List Str).any (exAb "NoPlaces") = false from by decide +kernel]
      repeat walk_at "w"
      refine w_isiE (D := "NoPlaces") hC (by decide +kernel) (hx.sm (s1.trans s2)) ?_
      rw [show exAb "NoPlaces" "NoPlaces" = true from by decide +kernel]
      repeat walk_at "w"
      rcases he.sm (s1.trans s2) with ⟨z, _⟩ | ⟨dx, h1, h2⟩
      · cases z
      refine EXV.w_xv ?_
      repeat walk_at "w"
      refine ⟨a, _, dx, _, x, rfl, Facts.x_NoPlaces.x, Facts.xn_NoPlaces_many, h1, h2, by rfl, ?_⟩
      repeat walk_at "w"
      refine w_new fun t3 H3 n3 s3 f3 => ?_
      exact q t3 H3 f3 (s1.trans (s2.trans s3)) ((s1.trans s2).free n3)
    · replace he : ErrAt H a (He.ga K "NoSize") [("thing", x)] := he
      have hx : ErrX H a (He.ga K "NoSize") := .inl ⟨_, he⟩
      have hC : ("NoSize" : Str) ∈ exN := by decide +kernel
      refine w_isiE (D := "NoText") hC (by decide +kernel) (hx.sm (Same.refl _)) ?_
      rw [show exAb "NoSize" "NoText" = false from by decide +kernel]
      repeat walk_at "w"
      refine w_new fun t1 H1 n1 s1 f1 => ?_
      repeat walk_at "w"
      refine w_isiTE ["Twice", "NoName", "NoFit", "NoKind"] hC (by decide +kernel) (hx.sm s1) f1 ?_
      rw [show (["Twice", "NoName", "NoFit", "NoKind"] : List Str).any (exAb "NoSize") = false from by decide +kernel]
      repeat walk_at "w"
      refine w_isiE (D := "BadLine") hC (by decide +kernel) (hx.sm s1) ?_
      rw [show exAb "NoSize" "BadLine" = false from by decide +kernel]
      repeat walk_at "w"
      refine w_isiE (D := "NoRow") hC (by decide +kernel) (hx.sm s1) ?_
      rw [show exAb "NoSize" "NoRow" = false from by decide +kernel]
      repeat walk_at "w"
      refine w_new fun t2 H2 n2 s2 f2 => ?_
      repeat walk_at "w"
      refine w_isiTE ["NoState", "BadStep", "NoSize", "NoBudget"] hC (by decide +kernel) (hx.sm (s1.trans s2)) f2 ?_
      rw [show (["NoState", "BadStep", "NoSize", "NoBudget"] : List Str).any (exAb "NoSize") = true from by decide +kernel]
      repeat walk_at "w"
      rcases he.sm (s1.trans s2) with ⟨z, _⟩ | ⟨dx, h1, h2⟩
      · cases z
      refine EXV.w_xv ?_
      repeat walk_at "w"
      refine ⟨a, _, dx, _, x, rfl, Facts.x_NoSize.x, Facts.xn_NoSize_thing, h1, h2, by rfl, ?_⟩
      repeat walk_at "w"
      refine w_new fun t3 H3 n3 s3 f3 => ?_
      exact q t3 H3 f3 (s1.trans (s2.trans s3)) ((s1.trans s2).free n3)
    · replace he : ErrAt H a (He.ga K "NoRoom") [("lacking", y), ("kind", x)] := he
      have hx : ErrX H a (He.ga K "NoRoom") := .inl ⟨_, he⟩
      have hC : ("NoRoom" : Str) ∈ exN := by decide +kernel
      refine w_isiE (D := "NoText") hC (by decide +kernel) (hx.sm (Same.refl _)) ?_
      rw [show exAb "NoRoom" "NoText" = false from by decide +kernel]
      repeat walk_at "w"
      refine w_new fun t1 H1 n1 s1 f1 => ?_
      repeat walk_at "w"
      refine w_isiTE ["Twice", "NoName", "NoFit", "NoKind"] hC (by decide +kernel) (hx.sm s1) f1 ?_
      rw [show (["Twice", "NoName", "NoFit", "NoKind"] : List Str).any (exAb "NoRoom") = false from by decide +kernel]
      repeat walk_at "w"
      refine w_isiE (D := "BadLine") hC (by decide +kernel) (hx.sm s1) ?_
      rw [show exAb "NoRoom" "BadLine" = false from by decide +kernel]
      repeat walk_at "w"
      refine w_isiE (D := "NoRow") hC (by decide +kernel) (hx.sm s1) ?_
      rw [show exAb "NoRoom" "NoRow" = false from by decide +kernel]
      repeat walk_at "w"
      refine w_new fun t2 H2 n2 s2 f2 => ?_
      repeat walk_at "w"
      refine w_isiTE ["NoState", "BadStep", "NoSize", "NoBudget"] hC (by decide +kernel) (hx.sm (s1.trans s2)) f2 ?_
      rw [show (["NoState", "BadStep", "NoSize", "NoBudget"] : List Str).any (exAb "NoRoom") = false from by decide +kernel]
      repeat walk_at "w"
      refine w_isiE (D := "NoPlaces") hC (by decide +kernel) (hx.sm (s1.trans s2)) ?_
      rw [show exAb "NoRoom" "NoPlaces" = false from by decide +kernel]
      repeat walk_at "w"
      refine w_isiE (D := "NoRoom") hC (by decide +kernel) (hx.sm (s1.trans s2)) ?_
      rw [show exAb "NoRoom" "NoRoom" = true from by decide +kernel]
      repeat walk_at "w"
      rcases he.sm (s1.trans s2) with ⟨z, _⟩ | ⟨dx, h1, h2⟩
      · cases z
      refine EXV.w_xv ?_
      repeat walk_at "w"
      refine ⟨a, _, dx, _, x, rfl, Facts.x_NoRoom.x, Facts.xn_NoRoom_kind, h1, h2, by rfl, ?_⟩
      repeat walk_at "w"
      refine EXV.w_xv ?_
      repeat walk_at "w"
      refine ⟨a, _, dx, _, y, rfl, Facts.x_NoRoom.x, Facts.xn_NoRoom_lacking, h1, h2, by rfl, ?_⟩
      repeat walk_at "w"
      refine w_new fun t3 H3 n3 s3 f3 => ?_
      exact q t3 H3 f3 (s1.trans (s2.trans s3)) ((s1.trans s2).free n3)
    · replace he : ErrAt H a (He.ga K "Crowded") [("needed", y), ("kind", x)] := he
      have hx : ErrX H a (He.ga K "Crowded") := .inl ⟨_, he⟩
      have hC : ("Crowded" : Str) ∈ exN := by decide +kernel
      refine w_isiE (D := "NoText") hC (by decide +kernel) (hx.sm (Same.refl _)) ?_
      rw [show exAb "Crowded" "NoText" = false from by decide +kernel]
      repeat walk_at "w"
      refine w_new fun t1 H1 n1 s1 f1 => ?_
      repeat walk_at "w"
      refine w_isiTE ["Twice", "NoName", "NoFit", "NoKind"] hC (by decide +kernel) (hx.sm s1) f1 ?_
      rw [show (["Twice", "NoName", "NoFit", "NoKind"] : List Str).any (exAb "Crowded") = false from by decide +kernel]
      repeat walk_at "w"
      refine w_isiE (D := "BadLine") hC (by decide +kernel) (hx.sm s1) ?_
      rw [show exAb "Crowded" "BadLine" = false from by decide +kernel]
      repeat walk_at "w"
      refine w_isiE (D := "NoRow") hC (by decide +kernel) (hx.sm s1) ?_
      rw [show exAb "Crowded" "NoRow" = false from by decide +kernel]
      repeat walk_at "w"
      refine w_new fun t2 H2 n2 s2 f2 => ?_
      repeat walk_at "w"
      refine w_isiTE ["NoState", "BadStep", "NoSize", "NoBudget"] hC (by decide +kernel) (hx.sm (s1.trans s2)) f2 ?_
      rw [show (["NoState", "BadStep", "NoSize", "NoBudget"] : List Str).any (exAb "Crowded") = false from by decide +kernel]
      repeat walk_at "w"
      refine w_isiE (D := "NoPlaces") hC (by decide +kernel) (hx.sm (s1.trans s2)) ?_
      rw [show exAb "Crowded" "NoPlaces" = false from by decide +kernel]
      repeat walk_at "w"
      refine w_isiE (D := "NoRoom") hC (by decide +kernel) (hx.sm (s1.trans s2)) ?_
      rw [show exAb "Crowded" "NoRoom" = false from by decide +kernel]
      repeat walk_at "w"
      refine w_isiE (D := "Crowded") hC (by decide +kernel) (hx.sm (s1.trans s2)) ?_
      rw [show exAb "Crowded" "Crowded" = true from by decide +kernel]
      repeat walk_at "w"
      rcases he.sm (s1.trans s2) with ⟨z, _⟩ | ⟨dx, h1, h2⟩
      · cases z
      refine EXV.w_xv ?_
      repeat walk_at "w"
      refine ⟨a, _, dx, _, x, rfl, Facts.x_Crowded.x, Facts.xn_Crowded_kind, h1, h2, by rfl, ?_⟩
      repeat walk_at "w"
      refine EXV.w_xv ?_
      repeat walk_at "w"
      refine ⟨a, _, dx, _, y, rfl, Facts.x_Crowded.x, Facts.xn_Crowded_needed, h1, h2, by rfl, ?_⟩
      repeat walk_at "w"
      refine w_new fun t3 H3 n3 s3 f3 => ?_
      exact q t3 H3 f3 (s1.trans (s2.trans s3)) ((s1.trans s2).free n3)
    · replace he : ErrAt H a (He.ga K "NoBudget") [("thing", x)] := he
      have hx : ErrX H a (He.ga K "NoBudget") := .inl ⟨_, he⟩
      have hC : ("NoBudget" : Str) ∈ exN := by decide +kernel
      refine w_isiE (D := "NoText") hC (by decide +kernel) (hx.sm (Same.refl _)) ?_
      rw [show exAb "NoBudget" "NoText" = false from by decide +kernel]
      repeat walk_at "w"
      refine w_new fun t1 H1 n1 s1 f1 => ?_
      repeat walk_at "w"
      refine w_isiTE ["Twice", "NoName", "NoFit", "NoKind"] hC (by decide +kernel) (hx.sm s1) f1 ?_
      rw [show (["Twice", "NoName", "NoFit", "NoKind"] : List Str).any (exAb "NoBudget") = false from by decide +kernel]
      repeat walk_at "w"
      refine w_isiE (D := "BadLine") hC (by decide +kernel) (hx.sm s1) ?_
      rw [show exAb "NoBudget" "BadLine" = false from by decide +kernel]
      repeat walk_at "w"
      refine w_isiE (D := "NoRow") hC (by decide +kernel) (hx.sm s1) ?_
      rw [show exAb "NoBudget" "NoRow" = false from by decide +kernel]
      repeat walk_at "w"
      refine w_new fun t2 H2 n2 s2 f2 => ?_
      repeat walk_at "w"
      refine w_isiTE ["NoState", "BadStep", "NoSize", "NoBudget"] hC (by decide +kernel) (hx.sm (s1.trans s2)) f2 ?_
      rw [show (["NoState", "BadStep", "NoSize", "NoBudget"] : List Str).any (exAb "NoBudget") = true from by decide +kernel]
      repeat walk_at "w"
      rcases he.sm (s1.trans s2) with ⟨z, _⟩ | ⟨dx, h1, h2⟩
      · cases z
      refine EXV.w_xv ?_
      repeat walk_at "w"
      refine ⟨a, _, dx, _, x, rfl, Facts.x_NoBudget.x, Facts.xn_NoBudget_thing, h1, h2, by rfl, ?_⟩
      repeat walk_at "w"
      refine w_new fun t3 H3 n3 s3 f3 => ?_
      exact q t3 H3 f3 (s1.trans (s2.trans s3)) ((s1.trans s2).free n3)
    · replace he : ErrAt H a (He.ga K "Within") [] := he
      have hx : ErrX H a (He.ga K "Within") := .inl ⟨_, he⟩
      have hC : ("Within" : Str) ∈ exN := by decide +kernel
      refine w_isiE (D := "NoText") hC (by decide +kernel) (hx.sm (Same.refl _)) ?_
      rw [show exAb "Within" "NoText" = false from by decide +kernel]
      repeat walk_at "w"
      refine w_new fun t1 H1 n1 s1 f1 => ?_
      repeat walk_at "w"
      refine w_isiTE ["Twice", "NoName", "NoFit", "NoKind"] hC (by decide +kernel) (hx.sm s1) f1 ?_
      rw [show (["Twice", "NoName", "NoFit", "NoKind"] : List Str).any (exAb "Within") = false from by decide +kernel]
      repeat walk_at "w"
      refine w_isiE (D := "BadLine") hC (by decide +kernel) (hx.sm s1) ?_
      rw [show exAb "Within" "BadLine" = false from by decide +kernel]
      repeat walk_at "w"
      refine w_isiE (D := "NoRow") hC (by decide +kernel) (hx.sm s1) ?_
      rw [show exAb "Within" "NoRow" = false from by decide +kernel]
      repeat walk_at "w"
      refine w_new fun t2 H2 n2 s2 f2 => ?_
      repeat walk_at "w"
      refine w_isiTE ["NoState", "BadStep", "NoSize", "NoBudget"] hC (by decide +kernel) (hx.sm (s1.trans s2)) f2 ?_
      rw [show (["NoState", "BadStep", "NoSize", "NoBudget"] : List Str).any (exAb "Within") = false from by decide +kernel]
      repeat walk_at "w"
      refine w_isiE (D := "NoPlaces") hC (by decide +kernel) (hx.sm (s1.trans s2)) ?_
      rw [show exAb "Within" "NoPlaces" = false from by decide +kernel]
      repeat walk_at "w"
      refine w_isiE (D := "NoRoom") hC (by decide +kernel) (hx.sm (s1.trans s2)) ?_
      rw [show exAb "Within" "NoRoom" = false from by decide +kernel]
      repeat walk_at "w"
      refine w_isiE (D := "Crowded") hC (by decide +kernel) (hx.sm (s1.trans s2)) ?_
      rw [show exAb "Within" "Crowded" = false from by decide +kernel]
      repeat walk_at "w"
      refine w_new fun t3 H3 n3 s3 f3 => ?_
      repeat walk_at "w"
      refine w_isiTE ["NoChange", "NotPlain"] hC (by decide +kernel) (hx.sm (s1.trans (s2.trans s3))) f3 ?_
      rw [show (["NoChange", "NotPlain"] : List Str).any (exAb "Within") = false from by decide +kernel]
      repeat walk_at "w"
      refine w_isiE (D := "Unlike") hC (by decide +kernel) (hx.sm (s1.trans (s2.trans s3))) ?_
      rw [show exAb "Within" "Unlike" = false from by decide +kernel]
      repeat walk_at "w"
      refine w_new fun t4 H4 n4 s4 f4 => ?_
      exact q t4 H4 f4 (s1.trans (s2.trans (s3.trans s4))) ((s1.trans (s2.trans s3)).free n4)
    · replace he : ErrAt H a (He.ga K "NoChange") [("kind", x)] := he
      have hx : ErrX H a (He.ga K "NoChange") := .inl ⟨_, he⟩
      have hC : ("NoChange" : Str) ∈ exN := by decide +kernel
      refine w_isiE (D := "NoText") hC (by decide +kernel) (hx.sm (Same.refl _)) ?_
      rw [show exAb "NoChange" "NoText" = false from by decide +kernel]
      repeat walk_at "w"
      refine w_new fun t1 H1 n1 s1 f1 => ?_
      repeat walk_at "w"
      refine w_isiTE ["Twice", "NoName", "NoFit", "NoKind"] hC (by decide +kernel) (hx.sm s1) f1 ?_
      rw [show (["Twice", "NoName", "NoFit", "NoKind"] : List Str).any (exAb "NoChange") = false from by decide +kernel]
      repeat walk_at "w"
      refine w_isiE (D := "BadLine") hC (by decide +kernel) (hx.sm s1) ?_
      rw [show exAb "NoChange" "BadLine" = false from by decide +kernel]
      repeat walk_at "w"
      refine w_isiE (D := "NoRow") hC (by decide +kernel) (hx.sm s1) ?_
      rw [show exAb "NoChange" "NoRow" = false from by decide +kernel]
      repeat walk_at "w"
      refine w_new fun t2 H2 n2 s2 f2 => ?_
      repeat walk_at "w"
      refine w_isiTE ["NoState", "BadStep", "NoSize", "NoBudget"] hC (by decide +kernel) (hx.sm (s1.trans s2)) f2 ?_
      rw [show (["NoState", "BadStep", "NoSize", "NoBudget"] : List Str).any (exAb "NoChange") = false from by decide +kernel]
      repeat walk_at "w"
      refine w_isiE (D := "NoPlaces") hC (by decide +kernel) (hx.sm (s1.trans s2)) ?_
      rw [show exAb "NoChange" "NoPlaces" = false from by decide +kernel]
      repeat walk_at "w"
      refine w_isiE (D := "NoRoom") hC (by decide +kernel) (hx.sm (s1.trans s2)) ?_
      rw [show exAb "NoChange" "NoRoom" = false from by decide +kernel]
      repeat walk_at "w"
      refine w_isiE (D := "Crowded") hC (by decide +kernel) (hx.sm (s1.trans s2)) ?_
      rw [show exAb "NoChange" "Crowded" = false from by decide +kernel]
      repeat walk_at "w"
      refine w_new fun t3 H3 n3 s3 f3 => ?_
      repeat walk_at "w"
      refine w_isiTE ["NoChange", "NotPlain"] hC (by decide +kernel) (hx.sm (s1.trans (s2.trans s3))) f3 ?_
      rw [show (["NoChange", "NotPlain"] : List Str).any (exAb "NoChange") = true from by decide +kernel]
      repeat walk_at "w"
      rcases he.sm (s1.trans (s2.trans s3)) with ⟨z, _⟩ | ⟨dx, h1, h2⟩
      · cases z
      refine EXV.w_xv ?_
      repeat walk_at "w"
      refine ⟨a, _, dx, _, x, rfl, Facts.x_NoChange.x, Facts.xn_NoChange_kind, h1, h2, by rfl, ?_⟩
      repeat walk_at "w"
      refine w_new fun t4 H4 n4 s4 f4 => ?_
      exact q t4 H4 f4 (s1.trans (s2.trans (s3.trans s4))) ((s1.trans (s2.trans s3)).free n4)
    · replace he : ErrAt H a (He.ga K "Unlike") [("word", x)] := he
      have hx : ErrX H a (He.ga K "Unlike") := .inl ⟨_, he⟩
      have hC : ("Unlike" : Str) ∈ exN := by decide +kernel
      refine w_isiE (D := "NoText") hC (by decide +kernel) (hx.sm (Same.refl _)) ?_
      rw [show exAb "Unlike" "NoText" = false from by decide +kernel]
      repeat walk_at "w"
      refine w_new fun t1 H1 n1 s1 f1 => ?_
      repeat walk_at "w"
      refine w_isiTE ["Twice", "NoName", "NoFit", "NoKind"] hC (by decide +kernel) (hx.sm s1) f1 ?_
      rw [show (["Twice", "NoName", "NoFit", "NoKind"] : List Str).any (exAb "Unlike") = false from by decide +kernel]
      repeat walk_at "w"
      refine w_isiE (D := "BadLine") hC (by decide +kernel) (hx.sm s1) ?_
      rw [show exAb "Unlike" "BadLine" = false from by decide +kernel]
      repeat walk_at "w"
      refine w_isiE (D := "NoRow") hC (by decide +kernel) (hx.sm s1) ?_
      rw [show exAb "Unlike" "NoRow" = false from by decide +kernel]
      repeat walk_at "w"
      refine w_new fun t2 H2 n2 s2 f2 => ?_
      repeat walk_at "w"
      refine w_isiTE ["NoState", "BadStep", "NoSize", "NoBudget"] hC (by decide +kernel) (hx.sm (s1.trans s2)) f2 ?_
      rw [show (["NoState", "BadStep", "NoSize", "NoBudget"] : List Str).any (exAb "Unlike") = false from by decide +kernel]
      repeat walk_at "w"
      refine w_isiE (D := "NoPlaces") hC (by decide +kernel) (hx.sm (s1.trans s2)) ?_
      rw [show exAb "Unlike" "NoPlaces" = false from by decide +kernel]
      repeat walk_at "w"
      refine w_isiE (D := "NoRoom") hC (by decide +kernel) (hx.sm (s1.trans s2)) ?_
      rw [show exAb "Unlike" "NoRoom" = false from by decide +kernel]
      repeat walk_at "w"
      refine w_isiE (D := "Crowded") hC (by decide +kernel) (hx.sm (s1.trans s2)) ?_
      rw [show exAb "Unlike" "Crowded" = false from by decide +kernel]
      repeat walk_at "w"
      refine w_new fun t3 H3 n3 s3 f3 => ?_
      repeat walk_at "w"
      refine w_isiTE ["NoChange", "NotPlain"] hC (by decide +kernel) (hx.sm (s1.trans (s2.trans s3))) f3 ?_
      rw [show (["NoChange", "NotPlain"] : List Str).any (exAb "Unlike") = false from by decide +kernel]
      repeat walk_at "w"
      refine w_isiE (D := "Unlike") hC (by decide +kernel) (hx.sm (s1.trans (s2.trans s3))) ?_
      rw [show exAb "Unlike" "Unlike" = true from by decide +kernel]
      repeat walk_at "w"
      rcases he.sm (s1.trans (s2.trans s3)) with ⟨z, _⟩ | ⟨dx, h1, h2⟩
      · cases z
      refine EXV.w_xv ?_
      repeat walk_at "w"
      refine ⟨a, _, dx, _, x, rfl, Facts.x_Unlike.x, Facts.xn_Unlike_word, h1, h2, by rfl, ?_⟩
      repeat walk_at "w"
      refine w_new fun t4 H4 n4 s4 f4 => ?_
      exact q t4 H4 f4 (s1.trans (s2.trans (s3.trans s4))) ((s1.trans (s2.trans s3)).free n4)
    · replace he : ErrAt H a (He.ga K "NotPlain") [("kind", x)] := he
      have hx : ErrX H a (He.ga K "NotPlain") := .inl ⟨_, he⟩
      have hC : ("NotPlain" : Str) ∈ exN := by decide +kernel
      refine w_isiE (D := "NoText") hC (by decide +kernel) (hx.sm (Same.refl _)) ?_
      rw [show exAb "NotPlain" "NoText" = false from by decide +kernel]
      repeat walk_at "w"
      refine w_new fun t1 H1 n1 s1 f1 => ?_
      repeat walk_at "w"
      refine w_isiTE ["Twice", "NoName", "NoFit", "NoKind"] hC (by decide +kernel) (hx.sm s1) f1 ?_
      rw [show (["Twice", "NoName", "NoFit", "NoKind"] : List Str).any (exAb "NotPlain") = false from by decide +kernel]
      repeat walk_at "w"
      refine w_isiE (D := "BadLine") hC (by decide +kernel) (hx.sm s1) ?_
      rw [show exAb "NotPlain" "BadLine" = false from by decide +kernel]
      repeat walk_at "w"
      refine w_isiE (D := "NoRow") hC (by decide +kernel) (hx.sm s1) ?_
      rw [show exAb "NotPlain" "NoRow" = false from by decide +kernel]
      repeat walk_at "w"
      refine w_new fun t2 H2 n2 s2 f2 => ?_
      repeat walk_at "w"
      refine w_isiTE ["NoState", "BadStep", "NoSize", "NoBudget"] hC (by decide +kernel) (hx.sm (s1.trans s2)) f2 ?_
      rw [show (["NoState", "BadStep", "NoSize", "NoBudget"] : List Str).any (exAb "NotPlain") = false from by decide +kernel]
      repeat walk_at "w"
      refine w_isiE (D := "NoPlaces") hC (by decide +kernel) (hx.sm (s1.trans s2)) ?_
      rw [show exAb "NotPlain" "NoPlaces" = false from by decide +kernel]
      repeat walk_at "w"
      refine w_isiE (D := "NoRoom") hC (by decide +kernel) (hx.sm (s1.trans s2)) ?_
      rw [show exAb "NotPlain" "NoRoom" = false from by decide +kernel]
      repeat walk_at "w"
      refine w_isiE (D := "Crowded") hC (by decide +kernel) (hx.sm (s1.trans s2)) ?_
      rw [show exAb "NotPlain" "Crowded" = false from by decide +kernel]
      repeat walk_at "w"
      refine w_new fun t3 H3 n3 s3 f3 => ?_
      repeat walk_at "w"
      refine w_isiTE ["NoChange", "NotPlain"] hC (by decide +kernel) (hx.sm (s1.trans (s2.trans s3))) f3 ?_
      rw [show (["NoChange", "NotPlain"] : List Str).any (exAb "NotPlain") = true from by decide +kernel]
      repeat walk_at "w"
      rcases he.sm (s1.trans (s2.trans s3)) with ⟨z, _⟩ | ⟨dx, h1, h2⟩
      · cases z
      refine EXV.w_xv ?_
      repeat walk_at "w"
      refine ⟨a, _, dx, _, x, rfl, Facts.x_NotPlain.x, Facts.xn_NotPlain_kind, h1, h2, by rfl, ?_⟩
      repeat walk_at "w"
      refine w_new fun t4 H4 n4 s4 f4 => ?_
      exact q t4 H4 f4 (s1.trans (s2.trans (s3.trans s4))) ((s1.trans (s2.trans s3)).free n4)
    · replace he : ErrAt H a (He.ga K "NoLine") [] := he
      have hx : ErrX H a (He.ga K "NoLine") := .inl ⟨_, he⟩
      have hC : ("NoLine" : Str) ∈ exN := by decide +kernel
      refine w_isiE (D := "NoText") hC (by decide +kernel) (hx.sm (Same.refl _)) ?_
      rw [show exAb "NoLine" "NoText" = false from by decide +kernel]
      repeat walk_at "w"
      refine w_new fun t1 H1 n1 s1 f1 => ?_
      repeat walk_at "w"
      refine w_isiTE ["Twice", "NoName", "NoFit", "NoKind"] hC (by decide +kernel) (hx.sm s1) f1 ?_
      rw [show (["Twice", "NoName", "NoFit", "NoKind"] : List Str).any (exAb "NoLine") = false from by decide +kernel]
      repeat walk_at "w"
      refine w_isiE (D := "BadLine") hC (by decide +kernel) (hx.sm s1) ?_
      rw [show exAb "NoLine" "BadLine" = false from by decide +kernel]
      repeat walk_at "w"
      refine w_isiE (D := "NoRow") hC (by decide +kernel) (hx.sm s1) ?_
      rw [show exAb "NoLine" "NoRow" = false from by decide +kernel]
      repeat walk_at "w"
      refine w_new fun t2 H2 n2 s2 f2 => ?_
      repeat walk_at "w"
      refine w_isiTE ["NoState", "BadStep", "NoSize", "NoBudget"] hC (by decide +kernel) (hx.sm (s1.trans s2)) f2 ?_
      rw [show (["NoState", "BadStep", "NoSize", "NoBudget"] : List Str).any (exAb "NoLine") = false from by decide +kernel]
      repeat walk_at "w"
      refine w_isiE (D := "NoPlaces") hC (by decide +kernel) (hx.sm (s1.trans s2)) ?_
      rw [show exAb "NoLine" "NoPlaces" = false from by decide +kernel]
      repeat walk_at "w"
      refine w_isiE (D := "NoRoom") hC (by decide +kernel) (hx.sm (s1.trans s2)) ?_
      rw [show exAb "NoLine" "NoRoom" = false from by decide +kernel]
      repeat walk_at "w"
      refine w_isiE (D := "Crowded") hC (by decide +kernel) (hx.sm (s1.trans s2)) ?_
      rw [show exAb "NoLine" "Crowded" = false from by decide +kernel]
      repeat walk_at "w"
      refine w_new fun t3 H3 n3 s3 f3 => ?_
      repeat walk_at "w"
      refine w_isiTE ["NoChange", "NotPlain"] hC (by decide +kernel) (hx.sm (s1.trans (s2.trans s3))) f3 ?_
      rw [show (["NoChange", "NotPlain"] : List Str).any (exAb "NoLine") = false from by decide +kernel]
      repeat walk_at "w"
      refine w_isiE (D := "Unlike") hC (by decide +kernel) (hx.sm (s1.trans (s2.trans s3))) ?_
      rw [show exAb "NoLine" "Unlike" = false from by decide +kernel]
      repeat walk_at "w"
      refine w_new fun t4 H4 n4 s4 f4 => ?_
      exact q t4 H4 f4 (s1.trans (s2.trans (s3.trans s4))) ((s1.trans (s2.trans s3)).free n4)
end

end J
namespace J
open PySem PySem.Spec PyProof.Rows L2

local macro_rules | `(tactic| walk_at "ty") => `(tactic| first
  | with_reducible exact ty_int
  | with_reducible exact ty_bl
  | with_reducible exact ty_str
  | with_reducible exact ty_non
  | ((with_reducible refine' ty_lst ?vv); (case vv => walk_at "tr"))
  | ((with_reducible refine' ty_sqT ?vv); (case vv => walk_at "tr"))
  | ((with_reducible refine' ty_dic ?vv); (case vv => walk_at "tr")))
local macro_rules | `(tactic| walk_at "ix") => `(tactic| first | exact at0 | exact at1 | exact at2 | assumption)
local macro_rules | `(tactic| walk_at "size") => `(tactic| first
  | assumption
  | (show _ < sizeLine; rw [sizeLine_eq]; (try simp only [List.length_cons, List.length_nil, List.length_append, List.length_map]); omega)
  | (show _ ≤ sizeLine; rw [sizeLine_eq]; (try simp only [List.length_cons, List.length_nil, List.length_append, List.length_map]); omega))
local macro_rules | `(tactic| walk_at "side") => `(tactic| first
  | assumption
  | ((with_reducible refine cdw ?_ ?_) <;> omega)
  | omega
  | (exact ⟨by omega, by omega⟩)
  | (exact Or.inl ⟨by omega, by omega⟩)
  | (exact Or.inr ⟨by omega, by omega⟩)
  | decide
  | (simp only [List.length_cons, List.length_nil, List.length_append, List.length_map]; omega)
  | (show _ ≤ _; decide))
local macro_rules | `(tactic| walk_at "as") => `(tactic| with_reducible assumption)
local macro_rules | `(tactic| walk_at "tr") => `(tactic| first
  | with_reducible assumption
  | with_reducible exact upd_same
  | ((with_reducible refine' SqL.of ?hh); (case hh => walk_at "as"))
  | ((with_reducible refine' SqT.of ?hh); (case hh => walk_at "as"))
  | ((with_reducible refine' Same.stm ?ee ?gg); (case ee => walk_at "as"); (case gg => walk_at "tr"))
  | ((with_reducible refine' Same.sqT ?ee ?gg); (case ee => walk_at "as"); (case gg => walk_at "tr"))
  | ((with_reducible refine' Same.sqL ?ee ?gg); (case ee => walk_at "as"); (case gg => walk_at "tr"))
  | ((with_reducible refine' Same.at ?ee ?gg); (case ee => walk_at "as"); (case gg => walk_at "tr"))
  | ((with_reducible refine' But.stm ?ee ?ff ?gg); (case ee => walk_at "as"); (case ff => walk_at "ne"); (case gg => walk_at "tr"))
  | ((with_reducible refine' But.tup ?ee ?ff ?gg); (case ee => walk_at "as"); (case ff => walk_at "tr1"); (case gg => walk_at "tr"))
  | ((with_reducible refine' But.sqT ?ee ?ff ?gg); (case ee => walk_at "as"); (case ff => walk_at "tr1"); (case gg => walk_at "tr"))
  | ((with_reducible refine' But.tupL ?ee ?ff ?gg); (case ee => walk_at "as"); (case ff => walk_at "tr1"); (case gg => walk_at "tr"))
  | ((with_reducible refine' But.sqTL ?ee ?ff ?gg); (case ee => walk_at "as"); (case ff => walk_at "tr1"); (case gg => walk_at "tr"))
  | ((with_reducible refine' But.sqL ?ee ?ff ?gg); (case ee => walk_at "as"); (case ff => walk_at "ne"); (case gg => walk_at "tr"))
  | ((with_reducible refine' But.at ?ee ?ff ?gg); (case ee => walk_at "as"); (case ff => walk_at "ne"); (case gg => walk_at "tr")))
local macro_rules | `(tactic| walk_at "ts") => `(tactic| first
  | with_reducible assumption
  | with_reducible exact TS.refl _
  | ((with_reducible refine' TS.trans ?gg (TS.of ?ee)); (case ee => walk_at "as"); (case gg => walk_at "ts"))
  | ((with_reducible refine' TS.trans ?gg (TS.butS ?ee ?ff)); (case ee => walk_at "as"); (case ff => walk_at "tr1"); (case gg => walk_at "ts"))
  | ((with_reducible refine' TS.trans ?gg (TS.butL ?ee ?ff)); (case ee => walk_at "as"); (case ff => walk_at "tr1"); (case gg => walk_at "ts"))
  | ((with_reducible refine' TS.trans ?gg (TS.butI ?ee ?ff)); (case ee => walk_at "as"); (case ff => walk_at "tr1"); (case gg => walk_at "ts")))
local macro_rules | `(tactic| walk_at "sm") => `(tactic| first
  | with_reducible assumption
  | with_reducible exact Same.refl _
  | ((with_reducible refine' Same.trans ?gg ?ee); (case ee => walk_at "as"); (case gg => walk_at "sm"))
  | ((with_reducible refine' But.new ?gg ?nn ?ee); (case ee => walk_at "as"); (case nn => walk_at "fr"); (case gg => walk_at "sm")))
local macro_rules | `(tactic| walk_at "fr") => `(tactic| first
  | with_reducible assumption
  | ((with_reducible refine' Same.back ?ee ?nn); (case nn => walk_at "as"); (case ee => walk_at "sm"))
  | ((with_reducible refine' But.back ?ee ?ff ?nn); (case nn => walk_at "as"); (case ff => walk_at "ne0"); (case ee => walk_at "bu")))
local macro_rules | `(tactic| walk_at "bu") => `(tactic| first
  | with_reducible assumption
  | with_reducible exact But.refl _ _
  | ((with_reducible refine' But.trans ?gg ?ee); (case ee => walk_at "as"); (case gg => walk_at "bu"))
  | ((with_reducible refine' But.trans ?gg (But.of ?ee)); (case ee => walk_at "as"); (case gg => walk_at "bu"))
  | ((with_reducible refine' But.new2 ?gg ?nn ?ee); (case ee => walk_at "as"); (case nn => walk_at "frB"); (case gg => walk_at "bu")))
local macro_rules | `(tactic| walk_at "frB") => `(tactic| first
  | with_reducible assumption
  | ((with_reducible refine' Same.back ?ee ?nn); (case nn => walk_at "as"); (case ee => walk_at "sm"))
  | ((with_reducible refine' But.back' ?ee ?ff ?nn); (case nn => walk_at "as"); (case ee => walk_at "bu"); (case ff => walk_at "tr1")))
local macro_rules | `(tactic| walk_at "tr1") => `(tactic| first
  | with_reducible assumption
  | ((with_reducible refine' Same.stm ?ee ?gg); (case ee => walk_at "as"); (case gg => walk_at "tr1"))
  | ((with_reducible refine' Same.at ?ee ?gg); (case ee => walk_at "as"); (case gg => walk_at "tr1"))
  | ((with_reducible refine' But.at ?ee ?ff ?gg); (case ee => walk_at "as"); (case ff => walk_at "ne0"); (case gg => walk_at "tr1"))
  | ((with_reducible refine' But.stm ?ee ?ff ?gg); (case ee => walk_at "as"); (case ff => walk_at "ne0"); (case gg => walk_at "tr1")))
local macro_rules | `(tactic| walk_at "ne0") => `(tactic| first
  | with_reducible assumption
  | (with_reducible apply Ne.symm; with_reducible assumption))
local macro_rules | `(tactic| walk_at "ne") => `(tactic| first
  | with_reducible assumption
  | (with_reducible apply Ne.symm; with_reducible assumption)
  | ((with_reducible refine' stm_ne ?hh ?nn); (case nn => walk_at "as"); (case hh => walk_at "tr1"))
  | ((with_reducible refine' ne_of_none ?hh ?nn); (case nn => walk_at "as"); (case hh => walk_at "tr1"))
  | ((with_reducible apply Ne.symm); (with_reducible refine' ne_of_none ?hh ?nn); (case nn => walk_at "as"); (case hh => walk_at "tr1")))
local macro_rules | `(tactic| walk_at "v") => `(tactic| first
  | with_reducible refine w_seq ?_
  | ((with_reducible refine' w_var ?vv ?_); (case vv => exact rfl))
  | with_reducible refine w_c ?_
  | with_reducible refine w_op ?_
  | with_reducible refine w_asg ?_
  | with_reducible refine w_gName ?_
  | with_reducible refine w_ret ?_
  | with_reducible refine w_ifS ?_
  | with_reducible refine w_drop ?_
  | with_reducible refine w_next ?_
  | with_reducible refine w_cons ?_
  | with_reducible refine w_nil ?_
  | with_reducible refine w_call ?_
  | with_reducible refine w_cb ?_
  | with_reducible refine w_rI0 ?_
  | with_reducible refine w_addI ?_
  | with_reducible refine w_eqI ?_
  | with_reducible refine w_neI ?_
  | with_reducible refine w_eqS ?_
  | with_reducible refine w_neS ?_
  | with_reducible refine w_eqB ?_
  | with_reducible refine w_neB ?_
  | with_reducible refine w_chain ?_
  | with_reducible refine w_test ?_
  | with_reducible refine w_tB ?_
  | with_reducible refine w_bl ?_
  | ((with_reducible refine' w_mulI ?vv ?_); (case vv => walk_at "side"))
  | ((with_reducible refine' w_rI ?vv ?_); (case vv => walk_at "side"))
  | with_reducible refine w_int1 ?_
  | with_reducible refine w_int1b ?_
  | with_reducible refine w_tup ?_
  | with_reducible refine w_lst ?_
  | with_reducible refine w_un ?_
  | with_reducible refine w_rU ?_
  | with_reducible refine w_not ?_
  | with_reducible refine w_notV ?_
  | with_reducible refine w_ifE ?_
  | with_reducible refine w_nT ?_
  | with_reducible refine w_nF ?_
  | with_reducible refine iteT ?_
  | with_reducible refine iteF ?_
  | ((with_reducible refine' w_ixT ?vv ?ww ?_); (case vv => walk_at "tr"); (case ww => walk_at "ix"))
  | ((with_reducible refine' w_ixL ?vv ?ww ?_); (case vv => walk_at "tr"); (case ww => walk_at "ix"))
  | with_reducible refine w_gSub ?_
  | ((with_reducible refine' w_setL ?vv ?ww ?_); (case vv => walk_at "tr"); (case ww => first | rfl | decide | assumption))
  | ((with_reducible refine' w_lenL ?vv ?_); (case vv => walk_at "tr"))
  | ((with_reducible refine' w_lenT ?vv ?_); (case vv => walk_at "tr"))
  | with_reducible refine w_max2 ?_
  | with_reducible refine w_max3 ?_
  | with_reducible refine w_din ?_
  | with_reducible refine w_dnotin ?_
  | with_reducible refine w_dput ?_
  | with_reducible refine w_min2 ?_
  | with_reducible refine w_bm ?_
  | with_reducible refine w_bm0 ?_
  | ((with_reducible refine' w_tyL ?vv ?_); (case vv => walk_at "tr"))
  | ((with_reducible refine' w_append ?vv ?ww ?_); (case vv => walk_at "tr"); (case ww => walk_at "size"))
  | ((with_reducible refine' w_size ?vv ?_); (case vv => walk_at "size"))
  | with_reducible refine w_forL ?_
  | with_reducible refine w_forT ?_
  | with_reducible refine w_forR1 ?_
  | with_reducible refine w_forR2 ?_
  | with_reducible refine w_lcL ?_
  | with_reducible refine w_lcT ?_
  | with_reducible refine w_lcR1 ?_
  | with_reducible refine w_yes ?_
  | with_reducible refine w_sl ?_
  | with_reducible refine w_noPart ?_
  | with_reducible refine w_part ?_
  | with_reducible refine w_int ?_
  | ((with_reducible refine' w_slL ?vv ?_); (case vv => walk_at "tr"))
  | ((with_reducible refine' w_seqL ?vv ?ww ?_); (case vv => walk_at "tr"); (case ww => rfl))
  | ((with_reducible refine' w_seqT ?vv ?ww ?_); (case vv => walk_at "tr"); (case ww => rfl))
  | with_reducible refine w_gNil ?_
  | with_reducible refine w_gCons ?_
  | with_reducible refine w_forZ ?_
  | with_reducible refine w_forM ?_
  | with_reducible refine w_forE ?_
  | with_reducible refine w_forV ?_
  | with_reducible refine w_lcZ ?_
  | with_reducible refine w_lcE ?_
  | ((with_reducible refine' w_isi (b := true) ?vv ?ww ?_); (case vv => walk_at "ty"); (case ww => decide +kernel))
  | ((with_reducible refine' w_isi (b := false) ?vv ?ww ?_); (case vv => walk_at "ty"); (case ww => decide +kernel))
  | with_reducible refine w_revL ?_
  | with_reducible refine w_pairN ?_
  | with_reducible refine w_pairC ?_
  | with_reducible refine w_dget ?_
  | with_reducible refine w_met ?_
  | ((with_reducible refine' w_metAt ?vv ?ww ?_); (case vv => walk_at "tr"); (case ww => rfl))
  | with_reducible refine w_mkI ?_
  | with_reducible refine w_fld ?_
  | ((with_reducible refine' w_fldAt ?vv ?cc ?nn ?ww ?_); (case vv => walk_at "tr"); (case cc => walk_at "cls"); (case nn => walk_at "na"); (case ww => rfl))
  | with_reducible refine w_sfld ?_
  | ((with_reducible refine' w_sfldAt ?vv ?cc ?nn ?ll ?ee ?_); (case vv => walk_at "tr"); (case cc => walk_at "cls"); (case nn => walk_at "na"); (case ll => simp); (case ee => rfl))
  | ((with_reducible refine' w_tupL ?vv ?_); (case vv => walk_at "tr"))
  | ((with_reducible refine' w_tupT ?vv ?_); (case vv => walk_at "tr"))
  | ((with_reducible refine' w_listL ?vv ?_); (case vv => walk_at "tr"))
  | ((with_reducible refine' w_listT ?vv ?_); (case vv => walk_at "tr"))
  | with_reducible refine w_tyS ?_
  | with_reducible refine w_lcZM ?_
  | with_reducible refine w_js ?_
  | with_reducible refine w_jsN ?_
  | ((with_reducible refine' w_jsP ?vv ?_); (case vv => walk_at "size"))
  | with_reducible refine w_fmt ?_
  | with_reducible refine w_forRR ?_
  | with_reducible refine w_retN ?_
  | with_reducible refine w_break ?_
  | with_reducible refine w_cont ?_)
local macro_rules | `(tactic| walk_at "w") => `(tactic| first
  | walk_at "v"
  | with_reducible refine w_or ?_
  | with_reducible refine w_and ?_
  | with_reducible refine w_andV ?_
  | with_reducible refine w_orV ?_)
local macro_rules | `(tactic| walk_at "wd") => `(tactic| first
  | walk_at "w"
  | ((with_reducible refine' w_decT ?vv ?_); (case vv => decide +kernel))
  | ((with_reducible refine' w_decF ?vv ?_); (case vv => decide +kernel)))
local macro_rules | `(tactic| walk_at "tz") => `(tactic| (intro S z; (repeat walk_at "w"); exact z))
local macro_rules | `(tactic| walk_at "wf") => `(tactic| first
  | walk_at "wd"
  | ((with_reducible refine' w_decF ?vv ?_); (case vv => with_reducible assumption)))
/-! ### k04: things -/
/-- a thing: flat, or a list, a tuple, a dict of its own -/
def TN (m : Nat) (H : Hp) (v : V) : Prop := flatB v = true ∨ ∃ (p : Addr) (o : HO), v = .ref p ∧ H p = some o ∧ ((∃ l : List V, o = .lst l ∧ l.length ≤ m) ∨ (∃ l, o = .tup l) ∨ o = .dK [])
abbrev ThingAt (H : Hp) (v : V) : Prop := TN 50 H v
def spThing : Sp := fun vs H Q _ => ∃ (s : Addr), vs = [.ref s] ∧ Stm H s ∧ ∀ v H', TN 2 H' v → (∀ p, v = .ref p → H p = none) → Stm H' s → But s H H' → Q v H'
theorem len_law_thing {vs H Q E} (h : spThing vs H Q E) : vs.length = 1 := by obtain ⟨_, rfl, _⟩ := h; rfl
theorem w_dnew {σ : L2.St} {H : Hp} {Q : VK} (k : NewO (.dK []) H Q) : tDNewK σ H Q := k
section
variable {P : Program} {w : World} {K : PySem.W.Frag} {mg : Str → Option Value}
theorem ok_law_thing [c : Facts K mg] (G__law_take : Fn P w K mg "_law_take" 1 ["stream", "many"] (spTake)) : Fn P w K mg "_law_thing" 2 ["stream"] ((spThing)) := by
  obtain ⟨fd, F⟩ := c.d_law_thing
  refine Fn.mk' F c.g_law_thing sc_law_thing (k := 1) (fun vs H Q E h => ?_) (fun _ _ _ _ _ _ us hl => match us, hl with | [_], _ => rfl) (fun base cdv A outer s H vs Q E hr h => ?_)
  · exact len_law_thing h
  · have nd := sc_law_thing.nd
    have hu := hu_of hr
    have hr__law_take : Room 1 _ := hr.mono (by omega)
    refine ⟨_, (pss_cons (ps_set (i := 1) nd rfl (Or.inl rfl) (pe_op (op_addA (K := K) rfl) (pe_op op_sub (pe_fn G__law_take hr__law_take (by rfl) (pa_cons (pv 0) (pa_cons (pe_op op_sub (pe_op op_mulA pe_int (pe_op op_pow pe_int pe_int)) pe_int) pa_nil))) (pe_op op_pow pe_int pe_int)) pe_int))
      (pss_cons (ps_set (i := 2) nd rfl (Or.inl rfl) (pe_lst (pa_cons (pv 1) (pa_cons (pv 1) (pa_cons pe_bl (pa_cons pe_bl (pa_cons pe_non (pa_cons pe_str (pa_cons pe_str (pa_cons (pe_lst (pa_cons (pv 1) pa_nil)) (pa_cons (pe_lst (pa_cons (pe_lst (pa_cons (pv 1) pa_nil)) (pa_cons pe_int pa_nil))) (pa_cons (pe_tup (pa_cons (pv 1) pa_nil)) (pa_cons pe_dnewK pa_nil)))))))))))))
      (pss_one (ps_ret (pe_ix (ix_any (K := K) rfl) (pv 2) (pe_fn G__law_take hr__law_take (by rfl) (pa_cons (pv 0) (pa_cons pe_int pa_nil))) (fun _ _ => rfl)))))), ?_⟩
    try dsimp only [cxOf, Cx.nox, Cx.wish]
    obtain ⟨s, rfl, hs, q⟩ := h
    repeat walk_at "w"
    refine ⟨s, _, rfl, hs, by decide, by decide, fun d H1 d0 d1 hs1 e1 => ?_⟩
    repeat walk_at "w"
    refine w_new fun p2 H2 n2 s2 f2 => ?_
    repeat walk_at "w"
    refine w_new fun p3 H3 n3 s3 f3 => ?_
    repeat walk_at "w"
    refine w_new fun p4 H4 n4 s4 f4 => ?_
    repeat walk_at "w"
    refine w_new fun p5 H5 n5 s5 f5 => ?_
    repeat walk_at "w"
    refine w_dnew ?_
    refine w_new fun p6 H6 n6 s6 f6 => ?_
    repeat walk_at "w"
    refine w_new fun p7 H7 n7 s7 f7 => ?_
    have s17 : Same H1 H7 := s2.trans (s3.trans (s4.trans (s5.trans (s6.trans s7))))
    have hs7 : Stm H7 s := s17.stm hs1
    repeat walk_at "w"
    refine ⟨s, 11, rfl, hs7, by decide, by decide, fun z H8 z0 z1 hs8 e8 => ?_⟩
    have b8 : But s H H8 := e1.trans ((But.of s17).trans e8)
    have ns : ∀ {p : Addr} {o : HO}, H7 p = some o → p ≠ s → H8 p = some o := fun h n => e8 _ _ n h
    have n2s : p2 ≠ s := stm_ne hs1 n2
    have n4s : p4 ≠ s := stm_ne (s2.trans s3 |>.stm hs1) n4
    have n5s : p5 ≠ s := stm_ne (s2.trans (s3.trans s4) |>.stm hs1) n5
    have n6s : p6 ≠ s := stm_ne (s2.trans (s3.trans (s4.trans s5)) |>.stm hs1) n6
    have n7s : p7 ≠ s := stm_ne (s2.trans (s3.trans (s4.trans (s5.trans s6))) |>.stm hs1) n7
    have fl : ∀ {v : V}, flatB v = true → TN 2 H8 v ∧ ∀ p, v = .ref p → H p = none := fun h => ⟨.inl h, fun p e => by rw [e] at h; cases h⟩
    have nn : ∀ {p : Addr}, H1 p = none → p ≠ s → H p = none := fun n ne => e1.back ne n
    have h7 := SqL.of (K := K) (e8 _ _ n7s f7)
    have c : z = 0 ∨ z = 1 ∨ z = 2 ∨ z = 3 ∨ z = 4 ∨ z = 5 ∨ z = 6 ∨ z = 7 ∨ z = 8 ∨ z = 9 ∨ z = 10 := by omega
    dsimp only
    rcases c with rfl | rfl | rfl | rfl | rfl | rfl | rfl | rfl | rfl | rfl | rfl
    · exact w_ixL h7 (atI_of (by decide) rfl) (q _ H8 (fl rfl).1 (fl rfl).2 hs8 b8)
    · exact w_ixL h7 (atI_of (by decide) rfl) (q _ H8 (fl rfl).1 (fl rfl).2 hs8 b8)
    · exact w_ixL h7 (atI_of (by decide) rfl) (q _ H8 (fl rfl).1 (fl rfl).2 hs8 b8)
    · exact w_ixL h7 (atI_of (by decide) rfl) (q _ H8 (fl rfl).1 (fl rfl).2 hs8 b8)
    · exact w_ixL h7 (atI_of (by decide) rfl) (q _ H8 (fl rfl).1 (fl rfl).2 hs8 b8)
    · exact w_ixL h7 (atI_of (by decide) rfl) (q _ H8 (fl rfl).1 (fl rfl).2 hs8 b8)
    · exact w_ixL h7 (atI_of (by decide) rfl) (q _ H8 (fl rfl).1 (fl rfl).2 hs8 b8)
    · exact w_ixL h7 (v := .ref p2) (atI_of (by decide) rfl) (q _ H8 (.inr ⟨p2, _, rfl, ns (s7 _ _ (s6 _ _ (s5 _ _ (s4 _ _ (s3 _ _ f2))))) n2s, .inl ⟨_, rfl, by simp⟩⟩) (fun p e => by cases e; exact nn n2 n2s) hs8 b8)
    · exact w_ixL h7 (v := .ref p4) (atI_of (by decide) rfl) (q _ H8 (.inr ⟨p4, _, rfl, ns (s7 _ _ (s6 _ _ (s5 _ _ f4))) n4s, .inl ⟨_, rfl, by simp⟩⟩) (fun p e => by cases e; exact nn ((s2.trans s3).free n4) n4s) hs8 b8)
    · exact w_ixL h7 (v := .ref p5) (atI_of (by decide) rfl) (q _ H8 (.inr ⟨p5, _, rfl, ns (s7 _ _ (s6 _ _ f5)) n5s, .inr (.inl ⟨_, rfl⟩)⟩) (fun p e => by cases e; exact nn ((s2.trans (s3.trans s4)).free n5) n5s) hs8 b8)
    · exact w_ixL h7 (v := .ref p6) (atI_of (by decide) rfl) (q _ H8 (.inr ⟨p6, _, rfl, ns (s7 _ _ f6) n6s, .inr (.inr rfl)⟩) (fun p e => by cases e; exact nn ((s2.trans (s3.trans (s4.trans s5))).free n6) n6s) hs8 b8)
end

end J
namespace J
open PySem PySem.Spec PyProof.Rows L2

local macro_rules | `(tactic| walk_at "ty") => `(tactic| first
  | with_reducible exact ty_int
  | with_reducible exact ty_bl
  | with_reducible exact ty_str
  | with_reducible exact ty_non
  | ((with_reducible refine' ty_lst ?vv); (case vv => walk_at "tr"))
  | ((with_reducible refine' ty_sqT ?vv); (case vv => walk_at "tr"))
  | ((with_reducible refine' ty_dic ?vv); (case vv => walk_at "tr")))
local macro_rules | `(tactic| walk_at "ix") => `(tactic| first | exact at0 | exact at1 | exact at2 | assumption)
local macro_rules | `(tactic| walk_at "size") => `(tactic| first
  | assumption
  | (show _ < sizeLine; rw [sizeLine_eq]; (try simp only [List.length_cons, List.length_nil, List.length_append, List.length_map]); omega)
  | (show _ ≤ sizeLine; rw [sizeLine_eq]; (try simp only [List.length_cons, List.length_nil, List.length_append, List.length_map]); omega))
local macro_rules | `(tactic| walk_at "side") => `(tactic| first
  | assumption
  | ((with_reducible refine cdw ?_ ?_) <;> omega)
  | omega
  | (exact ⟨by omega, by omega⟩)
  | (exact Or.inl ⟨by omega, by omega⟩)
  | (exact Or.inr ⟨by omega, by omega⟩)
  | decide
  | (simp only [List.length_cons, List.length_nil, List.length_append, List.length_map]; omega)
  | (show _ ≤ _; decide))
local macro_rules | `(tactic| walk_at "as") => `(tactic| with_reducible assumption)
local macro_rules | `(tactic| walk_at "tr") => `(tactic| first
  | with_reducible assumption
  | with_reducible exact upd_same
  | ((with_reducible refine' SqL.of ?hh); (case hh => walk_at "as"))
  | ((with_reducible refine' SqT.of ?hh); (case hh => walk_at "as"))
  | ((with_reducible refine' Same.stm ?ee ?gg); (case ee => walk_at "as"); (case gg => walk_at "tr"))
  | ((with_reducible refine' Same.sqT ?ee ?gg); (case ee => walk_at "as"); (case gg => walk_at "tr"))
  | ((with_reducible refine' Same.sqL ?ee ?gg); (case ee => walk_at "as"); (case gg => walk_at "tr"))
  | ((with_reducible refine' Same.at ?ee ?gg); (case ee => walk_at "as"); (case gg => walk_at "tr"))
  | ((with_reducible refine' But.stm ?ee ?ff ?gg); (case ee => walk_at "as"); (case ff => walk_at "ne"); (case gg => walk_at "tr"))
  | ((with_reducible refine' But.tup ?ee ?ff ?gg); (case ee => walk_at "as"); (case ff => walk_at "tr1"); (case gg => walk_at "tr"))
  | ((with_reducible refine' But.sqT ?ee ?ff ?gg); (case ee => walk_at "as"); (case ff => walk_at "tr1"); (case gg => walk_at "tr"))
  | ((with_reducible refine' But.tupL ?ee ?ff ?gg); (case ee => walk_at "as"); (case ff => walk_at "tr1"); (case gg => walk_at "tr"))
  | ((with_reducible refine' But.sqTL ?ee ?ff ?gg); (case ee => walk_at "as"); (case ff => walk_at "tr1"); (case gg => walk_at "tr"))
  | ((with_reducible refine' But.sqL ?ee ?ff ?gg); (case ee => walk_at "as"); (case ff => walk_at "ne"); (case gg => walk_at "tr"))
  | ((with_reducible refine' But.at ?ee ?ff ?gg); (case ee => walk_at "as"); (case ff => walk_at "ne"); (case gg => walk_at "tr")))
local macro_rules | `(tactic| walk_at "ts") => `(tactic| first
  | with_reducible assumption
  | with_reducible exact TS.refl _
  | ((with_reducible refine' TS.trans ?gg (TS.of ?ee)); (case ee => walk_at "as"); (case gg => walk_at "ts"))
  | ((with_reducible refine' TS.trans ?gg (TS.butS ?ee ?ff)); (case ee => walk_at "as"); (case ff => walk_at "tr1"); (case gg => walk_at "ts"))
  | ((with_reducible refine' TS.trans ?gg (TS.butL ?ee ?ff)); (case ee => walk_at "as"); (case ff => walk_at "tr1"); (case gg => walk_at "ts"))
  | ((with_reducible refine' TS.trans ?gg (TS.butI ?ee ?ff)); (case ee => walk_at "as"); (case ff => walk_at "tr1"); (case gg => walk_at "ts")))
local macro_rules | `(tactic| walk_at "sm") => `(tactic| first
  | with_reducible assumption
  | with_reducible exact Same.refl _
  | ((with_reducible refine' Same.trans ?gg ?ee); (case ee => walk_at "as"); (case gg => walk_at "sm"))
  | ((with_reducible refine' But.new ?gg ?nn ?ee); (case ee => walk_at "as"); (case nn => walk_at "fr"); (case gg => walk_at "sm")))
local macro_rules | `(tactic| walk_at "fr") => `(tactic| first
  | with_reducible assumption
  | ((with_reducible refine' Same.back ?ee ?nn); (case nn => walk_at "as"); (case ee => walk_at "sm"))
  | ((with_reducible refine' But.back ?ee ?ff ?nn); (case nn => walk_at "as"); (case ff => walk_at "ne0"); (case ee => walk_at "bu")))
local macro_rules | `(tactic| walk_at "bu") => `(tactic| first
  | with_reducible assumption
  | with_reducible exact But.refl _ _
  | ((with_reducible refine' But.trans ?gg ?ee); (case ee => walk_at "as"); (case gg => walk_at "bu"))
  | ((with_reducible refine' But.trans ?gg (But.of ?ee)); (case ee => walk_at "as"); (case gg => walk_at "bu"))
  | ((with_reducible refine' But.new2 ?gg ?nn ?ee); (case ee => walk_at "as"); (case nn => walk_at "frB"); (case gg => walk_at "bu")))
local macro_rules | `(tactic| walk_at "frB") => `(tactic| first
  | with_reducible assumption
  | ((with_reducible refine' Same.back ?ee ?nn); (case nn => walk_at "as"); (case ee => walk_at "sm"))
  | ((with_reducible refine' But.back' ?ee ?ff ?nn); (case nn => walk_at "as"); (case ee => walk_at "bu"); (case ff => walk_at "tr1")))
local macro_rules | `(tactic| walk_at "tr1") => `(tactic| first
  | with_reducible assumption
  | ((with_reducible refine' Same.stm ?ee ?gg); (case ee => walk_at "as"); (case gg => walk_at "tr1"))
  | ((with_reducible refine' Same.at ?ee ?gg); (case ee => walk_at "as"); (case gg => walk_at "tr1"))
  | ((with_reducible refine' But.at ?ee ?ff ?gg); (case ee => walk_at "as"); (case ff => walk_at "ne0"); (case gg => walk_at "tr1"))
  | ((with_reducible refine' But.stm ?ee ?ff ?gg); (case ee => walk_at "as"); (case ff => walk_at "ne0"); (case gg => walk_at "tr1")))
local macro_rules | `(tactic| walk_at "ne0") => `(tactic| first
  | with_reducible assumption
  | (with_reducible apply Ne.symm; with_reducible assumption))
local macro_rules | `(tactic| walk_at "ne") => `(tactic| first
  | with_reducible assumption
  | (with_reducible apply Ne.symm; with_reducible assumption)
  | ((with_reducible refine' stm_ne ?hh ?nn); (case nn => walk_at "as"); (case hh => walk_at "tr1"))
  | ((with_reducible refine' ne_of_none ?hh ?nn); (case nn => walk_at "as"); (case hh => walk_at "tr1"))
  | ((with_reducible apply Ne.symm); (with_reducible refine' ne_of_none ?hh ?nn); (case nn => walk_at "as"); (case hh => walk_at "tr1")))
local macro_rules | `(tactic| walk_at "v") => `(tactic| first
  | with_reducible refine w_seq ?_
  | ((with_reducible refine' w_var ?vv ?_); (case vv => exact rfl))
  | with_reducible refine w_c ?_
  | with_reducible refine w_op ?_
  | with_reducible refine w_asg ?_
  | with_reducible refine w_gName ?_
  | with_reducible refine w_ret ?_
  | with_reducible refine w_ifS ?_
  | with_reducible refine w_drop ?_
  | with_reducible refine w_next ?_
  | with_reducible refine w_cons ?_
  | with_reducible refine w_nil ?_
  | with_reducible refine w_call ?_
  | with_reducible refine w_cb ?_
  | with_reducible refine w_rI0 ?_
  | with_reducible refine w_addI ?_
  | with_reducible refine w_eqI ?_
  | with_reducible refine w_neI ?_
  | with_reducible refine w_eqS ?_
  | with_reducible refine w_neS ?_
  | with_reducible refine w_eqB ?_
  | with_reducible refine w_neB ?_
  | with_reducible refine w_chain ?_
  | with_reducible refine w_test ?_
  | with_reducible refine w_tB ?_
  | with_reducible refine w_bl ?_
  | ((with_reducible refine' w_mulI ?vv ?_); (case vv => walk_at "side"))
  | ((with_reducible refine' w_rI ?vv ?_); (case vv => walk_at "side"))
  | with_reducible refine w_int1 ?_
  | with_reducible refine w_int1b ?_
  | with_reducible refine w_tup ?_
  | with_reducible refine w_lst ?_
  | with_reducible refine w_un ?_
  | with_reducible refine w_rU ?_
  | with_reducible refine w_not ?_
  | with_reducible refine w_notV ?_
  | with_reducible refine w_ifE ?_
  | with_reducible refine w_nT ?_
  | with_reducible refine w_nF ?_
  | with_reducible refine iteT ?_
  | with_reducible refine iteF ?_
  | ((with_reducible refine' w_ixT ?vv ?ww ?_); (case vv => walk_at "tr"); (case ww => walk_at "ix"))
  | ((with_reducible refine' w_ixL ?vv ?ww ?_); (case vv => walk_at "tr"); (case ww => walk_at "ix"))
  | with_reducible refine w_gSub ?_
  | ((with_reducible refine' w_setL ?vv ?ww ?_); (case vv => walk_at "tr"); (case ww => first | rfl | decide | assumption))
  | ((with_reducible refine' w_lenL ?vv ?_); (case vv => walk_at "tr"))
  | ((with_reducible refine' w_lenT ?vv ?_); (case vv => walk_at "tr"))
  | with_reducible refine w_max2 ?_
  | with_reducible refine w_max3 ?_
  | with_reducible refine w_din ?_
  | with_reducible refine w_dnotin ?_
  | with_reducible refine w_dput ?_
  | with_reducible refine w_min2 ?_
  | with_reducible refine w_bm ?_
  | with_reducible refine w_bm0 ?_
  | ((with_reducible refine' w_tyL ?vv ?_); (case vv => walk_at "tr"))
  | ((with_reducible refine' w_append ?vv ?ww ?_); (case vv => walk_at "tr"); (case ww => walk_at "size"))
  | ((with_reducible refine' w_size ?vv ?_); (case vv => walk_at "size"))
  | with_reducible refine w_forL ?_
  | with_reducible refine w_forT ?_
  | with_reducible refine w_forR1 ?_
  | with_reducible refine w_forR2 ?_
  | with_reducible refine w_lcL ?_
  | with_reducible refine w_lcT ?_
  | with_reducible refine w_lcR1 ?_
  | with_reducible refine w_yes ?_
  | with_reducible refine w_sl ?_
  | with_reducible refine w_noPart ?_
  | with_reducible refine w_part ?_
  | with_reducible refine w_int ?_
  | ((with_reducible refine' w_slL ?vv ?_); (case vv => walk_at "tr"))
  | ((with_reducible refine' w_seqL ?vv ?ww ?_); (case vv => walk_at "tr"); (case ww => rfl))
  | ((with_reducible refine' w_seqT ?vv ?ww ?_); (case vv => walk_at "tr"); (case ww => rfl))
  | with_reducible refine w_gNil ?_
  | with_reducible refine w_gCons ?_
  | with_reducible refine w_forZ ?_
  | with_reducible refine w_forM ?_
  | with_reducible refine w_forE ?_
  | with_reducible refine w_forV ?_
  | with_reducible refine w_lcZ ?_
  | with_reducible refine w_lcE ?_
  | ((with_reducible refine' w_isi (b := true) ?vv ?ww ?_); (case vv => walk_at "ty"); (case ww => decide +kernel))
  | ((with_reducible refine' w_isi (b := false) ?vv ?ww ?_); (case vv => walk_at "ty"); (case ww => decide +kernel))
  | with_reducible refine w_revL ?_
  | with_reducible refine w_pairN ?_
  | with_reducible refine w_pairC ?_
  | with_reducible refine w_dget ?_
  | with_reducible refine w_met ?_
  | ((with_reducible refine' w_metAt ?vv ?ww ?_); (case vv => walk_at "tr"); (case ww => rfl))
  | with_reducible refine w_mkI ?_
  | with_reducible refine w_fld ?_
  | ((with_reducible refine' w_fldAt ?vv ?cc ?nn ?ww ?_); (case vv => walk_at "tr"); (case cc => walk_at "cls"); (case nn => walk_at "na"); (case ww => rfl))
  | with_reducible refine w_sfld ?_
  | ((with_reducible refine' w_sfldAt ?vv ?cc ?nn ?ll ?ee ?_); (case vv => walk_at "tr"); (case cc => walk_at "cls"); (case nn => walk_at "na"); (case ll => simp); (case ee => rfl))
  | ((with_reducible refine' w_tupL ?vv ?_); (case vv => walk_at "tr"))
  | ((with_reducible refine' w_tupT ?vv ?_); (case vv => walk_at "tr"))
  | ((with_reducible refine' w_listL ?vv ?_); (case vv => walk_at "tr"))
  | ((with_reducible refine' w_listT ?vv ?_); (case vv => walk_at "tr"))
  | with_reducible refine w_tyS ?_
  | with_reducible refine w_lcZM ?_
  | with_reducible refine w_js ?_
  | with_reducible refine w_jsN ?_
  | ((with_reducible refine' w_jsP ?vv ?_); (case vv => walk_at "size"))
  | with_reducible refine w_fmt ?_
  | with_reducible refine w_forRR ?_
  | with_reducible refine w_retN ?_
  | with_reducible refine w_break ?_
  | with_reducible refine w_cont ?_)
local macro_rules | `(tactic| walk_at "w") => `(tactic| first
  | walk_at "v"
  | with_reducible refine w_or ?_
  | with_reducible refine w_and ?_
  | with_reducible refine w_andV ?_
  | with_reducible refine w_orV ?_)
local macro_rules | `(tactic| walk_at "wd") => `(tactic| first
  | walk_at "w"
  | ((with_reducible refine' w_decT ?vv ?_); (case vv => decide +kernel))
  | ((with_reducible refine' w_decF ?vv ?_); (case vv => decide +kernel)))
local macro_rules | `(tactic| walk_at "tz") => `(tactic| (intro S z; (repeat walk_at "w"); exact z))
local macro_rules | `(tactic| walk_at "wf") => `(tactic| first
  | walk_at "wd"
  | ((with_reducible refine' w_decF ?vv ?_); (case vv => with_reducible assumption)))
/-! ### k04: the same things -/
theorem ThingAt.sim {H : Hp} {v : V} (h : ThingAt H v) : LSE.simV v := by
  rcases h with h | ⟨p, _, rfl, _⟩
  · exact .inl h
  · exact .inr ⟨p, rfl⟩
theorem ThingAt.sm {H H' : Hp} {v : V} (h : ThingAt H v) (e : Same H H') : ThingAt H' v := by
  rcases h with h | ⟨p, o, rfl, hp, ho⟩
  · exact .inl h
  · exact .inr ⟨p, o, rfl, e _ _ hp, ho⟩
theorem tk_snoc {α : Type} {l : List α} {j : Nat} {y : α} (h : l[j]? = some y) : l.take (j + 1) = l.take j ++ [y] := by
  obtain ⟨hl, rfl⟩ := List.getElem?_eq_some_iff.mp h
  exact List.take_succ_eq_append_getElem hl
def isB (v : V) : Bool := match v with
  | .bl _ => true
  | _ => false
theorem w_isBool {K : PySem.W.Frag} {H : Hp} {Q : VK} {v : V} (h : ThingAt H v) (k : Q (.bl (isB v)) H) : rIsi K [v, .ty "bool"] H Q := by
  rcases h with h | ⟨p, o, rfl, hp, ⟨l, rfl, _⟩ | ⟨l, rfl⟩ | rfl⟩
  · cases v with
    | non => exact w_isi (b := false) ty_non (show kitB "NoneType" "bool" = some false by decide +kernel) k
    | bl b => exact w_isi (b := true) ty_bl (show kitB "bool" "bool" = some true by decide +kernel) k
    | int i => exact w_isi (b := false) ty_int (show kitB "int" "bool" = some false by decide +kernel) k
    | str x => exact w_isi (b := false) ty_str (show kitB "str" "bool" = some false by decide +kernel) k
    | byt x => exact w_isi (b := false) (.byt _) (show kitB "bytes" "bool" = some false by decide +kernel) k
    | _ => cases h
  · exact w_isi (b := false) (ty_lst hp) (show kitB "list" "bool" = some false by decide +kernel) k
  · exact w_isi (b := false) (ty_tup hp) (show kitB "tuple" "bool" = some false by decide +kernel) k
  · exact w_isi (b := false) (ty_dic hp) (show kitB "dict" "bool" = some false by decide +kernel) k
def spSm (K : PySem.W.Frag) : Sp := fun vs H Q _ => ∃ (p q1 : Addr) (xs ys : List V), vs = [.ref p, .ref q1] ∧ H p = some (.lst xs) ∧ H q1 = some (.lst ys) ∧ xs.length ≤ 10 ∧ (∀ v ∈ xs, ThingAt H v) ∧ (∀ v ∈ ys, ThingAt H v) ∧ ys.map isB = xs.map isB ∧ (xs = ys ∨ ∃ ds, DpAll K H xs ds ∧ DpAll K H ys ds ∧ Cmp (.list ds)) ∧ ∀ H', Same H H' → Q (.bl true) H'
theorem len_law_same {K : PySem.W.Frag} {vs H Q E} (h : spSm K vs H Q E) : vs.length = 2 := by obtain ⟨_, _, _, _, rfl, _⟩ := h; rfl
section
variable {P : Program} {w : World} {K : PySem.W.Frag} {mg : Str → Option Value}
theorem ok_law_same [c : Facts K mg] : Fn P w K mg "_law_same" 1 ["found", "due"] ((spSm K)) := by
  obtain ⟨fd, F⟩ := c.d_law_same
  refine Fn.mk' F c.g_law_same sc_law_same (k := 0) (fun vs H Q E h => ?_) (fun _ _ _ _ _ _ us hl => match us, hl with | [_, _], _ => rfl) (fun base cdv A outer s H vs Q E hr h => ?_)
  · exact len_law_same h
  · have nd := sc_law_same.nd
    have hu := hu_of hr
    refine ⟨_, (pss_cons (ps_if (PW.pt (pw_or (pt_cmpR (op_neA (K := K) rfl hr.units) (pe_callB (call_lenA (K := K) rfl) (by rfl) c.f_len boot_len (pa_cons (pv 0) pa_nil)) (pe_callB (call_lenA (K := K) rfl) (by rfl) c.f_len boot_len (pa_cons (pv 1) pa_nil)) (nomark _)) (pw_or1 (pt_cmpR (LSE.op_neS (K := K) rfl hr.units) (pv 0) (pv 1) (nomark _))))) (pss_one (ps_ret pe_bl)) pss_nil)
      (pss_one (ps_ret (pe_cmpR (LSE.op_eqS (K := K) rfl hr.units) (pe_lc (own := [("one", 2)]) rfl nd (pi_list (pv 0)) (blkOk_by (N := N_law_same) (sc := defScope s_law_same) (by decide +kernel)) (fun _ _ _ _ _ => (pg_name (i := 2) nd rfl (Or.inl rfl))) (fun _ _ _ _ _ => pts_nil) (fun _ _ _ _ _ => (pe_callB (call_isiA (K := K) rfl) (by rfl) c.f_isinstance boot_isinstance (pa_cons (pv 2) (pa_cons (pe_bltn (v := .ty "bool") (by rfl) c.f_bool boot_bool rfl) pa_nil))))) (pe_lc (own := [("one", 2)]) rfl nd (pi_list (pv 1)) (blkOk_by (N := N_law_same) (sc := defScope s_law_same) (by decide +kernel)) (fun _ _ _ _ _ => (pg_name (i := 2) nd rfl (Or.inl rfl))) (fun _ _ _ _ _ => pts_nil) (fun _ _ _ _ _ => (pe_callB (call_isiA (K := K) rfl) (by rfl) c.f_isinstance boot_isinstance (pa_cons (pv 2) (pa_cons (pe_bltn (v := .ty "bool") (by rfl) c.f_bool boot_bool rfl) pa_nil))))) (nomark _))))), ?_⟩
    try dsimp only [cxOf, Cx.nox, Cx.wish]
    obtain ⟨p, q1, xs, ys0, rfl, hp, hq, hl, ht, ht2, hb, hsm, q⟩ := h
    have ly : ys0.length = xs.length := by have := congrArg List.length hb; rwa [List.length_map, List.length_map] at this
    have step : ∀ {Q : VK}, Q (.bl false) H → (rNeA K (.ref p) (.ref q1) H Q ∨ LSE.rNeSm K (.ref p) (.ref q1) H Q) := fun k => by
      rcases hsm with rfl | ⟨ds, d1, d2, cm⟩
      · exact .inr ⟨p, q1, xs, rfl, rfl, SqL.of hp, SqL.of hq, fun v hv => (ht v hv).sim, k⟩
      · refine .inl (w_neP (.lst (SqL.of hp) d1) (.lst (SqL.of hq) d2) cm cm fun b hb => ?_)
        cases b with
        | false => exact k
        | true => exact ((hb.mp rfl) rfl).elim
    have hz : sizeLine = 16777216 := sizeLine_eq
    repeat walk_at "w"
    rw [ly, decide_eq_true (rfl : ((xs.length : Nat) : Int) = xs.length)]
    repeat walk_at "w"
    refine step ?_
    repeat walk_at "w"
    refine lc_L xs (fun D j ys H' => Same H H' ∧ ys = ((xs.take j).map isB).map V.bl) (SqL.of hp) (fun D H' hD e f => ⟨e, rfl⟩) (fun D hD j ys H' hj hy hp' => SqL.of (hp'.1 _ _ hp)) (fun D hD j x ys H' hx hll hy hp' => ?_) (fun D hD ys H1 hll hy hp' => ?_)
    · obtain ⟨e, rfl⟩ := hp'
      repeat walk_at "w"
      refine w_isBool ((ht x (List.mem_of_getElem? hx)).sm e) ?_
      refine lc_end hy hll (by rw [hz, List.length_map, List.length_map, List.length_take]; omega) fun H5 e5 f5 => ⟨But.new e hD e5, ?_⟩
      rw [tk_snoc hx, List.map_append, List.map_append]; rfl
    · obtain ⟨e, rfl⟩ := hp'
      have hq1 := e _ _ hq
      repeat walk_at "w"
      refine lc_L ys0 (fun D j ys H' => Same H1 H' ∧ ys = ((ys0.take j).map isB).map V.bl) (SqL.of hq1) (fun D H' hD e f => ⟨e, rfl⟩) (fun D hD j ys H' hj hy hp' => SqL.of (hp'.1 _ _ hq1)) (fun D hD j x ys H' hx hll hy hp' => ?_) (fun D2 hD2 ys H2 hll2 hy2 hp2 => ?_)
      · obtain ⟨e2, rfl⟩ := hp'
        repeat walk_at "w"
        refine w_isBool ((ht2 x (List.mem_of_getElem? hx)).sm (e.trans e2)) ?_
        refine lc_end hy hll (by rw [hz, List.length_map, List.length_map, List.length_take]; omega) fun H5 e5 f5 => ⟨But.new e2 hD e5, ?_⟩
        rw [tk_snoc hx, List.map_append, List.map_append]; rfl
      · obtain ⟨e2, rfl⟩ := hp2
        have hy' := e2 _ _ hy
        rw [List.take_length, hb] at hy2
        rw [List.take_length] at hy'
        refine .inr ⟨D, D2, _, rfl, rfl, SqL.of hy', SqL.of hy2, fun v hv => ?_, ?_⟩
        · obtain ⟨b, _, rfl⟩ := List.mem_map.mp hv
          exact .inl rfl
        · exact q H2 (e.trans e2)
end

end J
namespace J
open PySem PySem.Spec PyProof.Rows L2

local macro_rules | `(tactic| walk_at "ty") => `(tactic| first
  | with_reducible exact ty_int
  | with_reducible exact ty_bl
  | with_reducible exact ty_str
  | with_reducible exact ty_non
  | ((with_reducible refine' ty_lst ?vv); (case vv => walk_at "tr"))
  | ((with_reducible refine' ty_sqT ?vv); (case vv => walk_at "tr"))
  | ((with_reducible refine' ty_dic ?vv); (case vv => walk_at "tr")))
local macro_rules | `(tactic| walk_at "ix") => `(tactic| first | exact at0 | exact at1 | exact at2 | assumption)
local macro_rules | `(tactic| walk_at "size") => `(tactic| first
  | assumption
  | (show _ < sizeLine; rw [sizeLine_eq]; (try simp only [List.length_cons, List.length_nil, List.length_append, List.length_map]); omega)
  | (show _ ≤ sizeLine; rw [sizeLine_eq]; (try simp only [List.length_cons, List.length_nil, List.length_append, List.length_map]); omega))
local macro_rules | `(tactic| walk_at "side") => `(tactic| first
  | assumption
  | ((with_reducible refine cdw ?_ ?_) <;> omega)
  | omega
  | (exact ⟨by omega, by omega⟩)
  | (exact Or.inl ⟨by omega, by omega⟩)
  | (exact Or.inr ⟨by omega, by omega⟩)
  | decide
  | (simp only [List.length_cons, List.length_nil, List.length_append, List.length_map]; omega)
  | (show _ ≤ _; decide))
local macro_rules | `(tactic| walk_at "as") => `(tactic| with_reducible assumption)
local macro_rules | `(tactic| walk_at "tr") => `(tactic| first
  | with_reducible assumption
  | with_reducible exact upd_same
  | ((with_reducible refine' SqL.of ?hh); (case hh => walk_at "as"))
  | ((with_reducible refine' SqT.of ?hh); (case hh => walk_at "as"))
  | ((with_reducible refine' Same.stm ?ee ?gg); (case ee => walk_at "as"); (case gg => walk_at "tr"))
  | ((with_reducible refine' Same.sqT ?ee ?gg); (case ee => walk_at "as"); (case gg => walk_at "tr"))
  | ((with_reducible refine' Same.sqL ?ee ?gg); (case ee => walk_at "as"); (case gg => walk_at "tr"))
  | ((with_reducible refine' Same.at ?ee ?gg); (case ee => walk_at "as"); (case gg => walk_at "tr"))
  | ((with_reducible refine' But.stm ?ee ?ff ?gg); (case ee => walk_at "as"); (case ff => walk_at "ne"); (case gg => walk_at "tr"))
  | ((with_reducible refine' But.tup ?ee ?ff ?gg); (case ee => walk_at "as"); (case ff => walk_at "tr1"); (case gg => walk_at "tr"))
  | ((with_reducible refine' But.sqT ?ee ?ff ?gg); (case ee => walk_at "as"); (case ff => walk_at "tr1"); (case gg => walk_at "tr"))
  | ((with_reducible refine' But.tupL ?ee ?ff ?gg); (case ee => walk_at "as"); (case ff => walk_at "tr1"); (case gg => walk_at "tr"))
  | ((with_reducible refine' But.sqTL ?ee ?ff ?gg); (case ee => walk_at "as"); (case ff => walk_at "tr1"); (case gg => walk_at "tr"))
  | ((with_reducible refine' But.sqL ?ee ?ff ?gg); (case ee => walk_at "as"); (case ff => walk_at "ne"); (case gg => walk_at "tr"))
  | ((with_reducible refine' But.at ?ee ?ff ?gg); (case ee => walk_at "as"); (case ff => walk_at "ne"); (case gg => walk_at "tr")))
local macro_rules | `(tactic| walk_at "ts") => `(tactic| first
  | with_reducible assumption
  | with_reducible exact TS.refl _
  | ((with_reducible refine' TS.trans ?gg (TS.of ?ee)); (case ee => walk_at "as"); (case gg => walk_at "ts"))
  | ((with_reducible refine' TS.trans ?gg (TS.butS ?ee ?ff)); (case ee => walk_at "as"); (case ff => walk_at "tr1"); (case gg => walk_at "ts"))
  | ((with_reducible refine' TS.trans ?gg (TS.butL ?ee ?ff)); (case ee => walk_at "as"); (case ff => walk_at "tr1"); (case gg => walk_at "ts"))
  | ((with_reducible refine' TS.trans ?gg (TS.butI ?ee ?ff)); (case ee => walk_at "as"); (case ff => walk_at "tr1"); (case gg => walk_at "ts")))
local macro_rules | `(tactic| walk_at "sm") => `(tactic| first
  | with_reducible assumption
  | with_reducible exact Same.refl _
  | ((with_reducible refine' Same.trans ?gg ?ee); (case ee => walk_at "as"); (case gg => walk_at "sm"))
  | ((with_reducible refine' But.new ?gg ?nn ?ee); (case ee => walk_at "as"); (case nn => walk_at "fr"); (case gg => walk_at "sm")))
local macro_rules | `(tactic| walk_at "fr") => `(tactic| first
  | with_reducible assumption
  | ((with_reducible refine' Same.back ?ee ?nn); (case nn => walk_at "as"); (case ee => walk_at "sm"))
  | ((with_reducible refine' But.back ?ee ?ff ?nn); (case nn => walk_at "as"); (case ff => walk_at "ne0"); (case ee => walk_at "bu")))
local macro_rules | `(tactic| walk_at "bu") => `(tactic| first
  | with_reducible assumption
  | with_reducible exact But.refl _ _
  | ((with_reducible refine' But.trans ?gg ?ee); (case ee => walk_at "as"); (case gg => walk_at "bu"))
  | ((with_reducible refine' But.trans ?gg (But.of ?ee)); (case ee => walk_at "as"); (case gg => walk_at "bu"))
  | ((with_reducible refine' But.new2 ?gg ?nn ?ee); (case ee => walk_at "as"); (case nn => walk_at "frB"); (case gg => walk_at "bu")))
local macro_rules | `(tactic| walk_at "frB") => `(tactic| first
  | with_reducible assumption
  | ((with_reducible refine' Same.back ?ee ?nn); (case nn => walk_at "as"); (case ee => walk_at "sm"))
  | ((with_reducible refine' But.back' ?ee ?ff ?nn); (case nn => walk_at "as"); (case ee => walk_at "bu"); (case ff => walk_at "tr1")))
local macro_rules | `(tactic| walk_at "tr1") => `(tactic| first
  | with_reducible assumption
  | ((with_reducible refine' Same.stm ?ee ?gg); (case ee => walk_at "as"); (case gg => walk_at "tr1"))
  | ((with_reducible refine' Same.at ?ee ?gg); (case ee => walk_at "as"); (case gg => walk_at "tr1"))
  | ((with_reducible refine' But.at ?ee ?ff ?gg); (case ee => walk_at "as"); (case ff => walk_at "ne0"); (case gg => walk_at "tr1"))
  | ((with_reducible refine' But.stm ?ee ?ff ?gg); (case ee => walk_at "as"); (case ff => walk_at "ne0"); (case gg => walk_at "tr1")))
local macro_rules | `(tactic| walk_at "ne0") => `(tactic| first
  | with_reducible assumption
  | (with_reducible apply Ne.symm; with_reducible assumption))
local macro_rules | `(tactic| walk_at "ne") => `(tactic| first
  | with_reducible assumption
  | (with_reducible apply Ne.symm; with_reducible assumption)
  | ((with_reducible refine' stm_ne ?hh ?nn); (case nn => walk_at "as"); (case hh => walk_at "tr1"))
  | ((with_reducible refine' ne_of_none ?hh ?nn); (case nn => walk_at "as"); (case hh => walk_at "tr1"))
  | ((with_reducible apply Ne.symm); (with_reducible refine' ne_of_none ?hh ?nn); (case nn => walk_at "as"); (case hh => walk_at "tr1")))
local macro_rules | `(tactic| walk_at "v") => `(tactic| first
  | with_reducible refine w_seq ?_
  | ((with_reducible refine' w_var ?vv ?_); (case vv => exact rfl))
  | with_reducible refine w_c ?_
  | with_reducible refine w_op ?_
  | with_reducible refine w_asg ?_
  | with_reducible refine w_gName ?_
  | with_reducible refine w_ret ?_
  | with_reducible refine w_ifS ?_
  | with_reducible refine w_drop ?_
  | with_reducible refine w_next ?_
  | with_reducible refine w_cons ?_
  | with_reducible refine w_nil ?_
  | with_reducible refine w_call ?_
  | with_reducible refine w_cb ?_
  | with_reducible refine w_rI0 ?_
  | with_reducible refine w_addI ?_
  | with_reducible refine w_eqI ?_
  | with_reducible refine w_neI ?_
  | with_reducible refine w_eqS ?_
  | with_reducible refine w_neS ?_
  | with_reducible refine w_eqB ?_
  | with_reducible refine w_neB ?_
  | with_reducible refine w_chain ?_
  | with_reducible refine w_test ?_
  | with_reducible refine w_tB ?_
  | with_reducible refine w_bl ?_
  | ((with_reducible refine' w_mulI ?vv ?_); (case vv => walk_at "side"))
  | ((with_reducible refine' w_rI ?vv ?_); (case vv => walk_at "side"))
  | with_reducible refine w_int1 ?_
  | with_reducible refine w_int1b ?_
  | with_reducible refine w_tup ?_
  | with_reducible refine w_lst ?_
  | with_reducible refine w_un ?_
  | with_reducible refine w_rU ?_
  | with_reducible refine w_not ?_
  | with_reducible refine w_notV ?_
  | with_reducible refine w_ifE ?_
  | with_reducible refine w_nT ?_
  | with_reducible refine w_nF ?_
  | with_reducible refine iteT ?_
  | with_reducible refine iteF ?_
  | ((with_reducible refine' w_ixT ?vv ?ww ?_); (case vv => walk_at "tr"); (case ww => walk_at "ix"))
  | ((with_reducible refine' w_ixL ?vv ?ww ?_); (case vv => walk_at "tr"); (case ww => walk_at "ix"))
  | with_reducible refine w_gSub ?_
  | ((with_reducible refine' w_setL ?vv ?ww ?_); (case vv => walk_at "tr"); (case ww => first | rfl | decide | assumption))
  | ((with_reducible refine' w_lenL ?vv ?_); (case vv => walk_at "tr"))
  | ((with_reducible refine' w_lenT ?vv ?_); (case vv => walk_at "tr"))
  | with_reducible refine w_max2 ?_
  | with_reducible refine w_max3 ?_
  | with_reducible refine w_din ?_
  | with_reducible refine w_dnotin ?_
  | with_reducible refine w_dput ?_
  | with_reducible refine w_min2 ?_
  | with_reducible refine w_bm ?_
  | with_reducible refine w_bm0 ?_
  | ((with_reducible refine' w_tyL ?vv ?_); (case vv => walk_at "tr"))
  | ((with_reducible refine' w_append ?vv ?ww ?_); (case vv => walk_at "tr"); (case ww => walk_at "size"))
  | ((with_reducible refine' w_size ?vv ?_); (case vv => walk_at "size"))
  | with_reducible refine w_forL ?_
  | with_reducible refine w_forT ?_
  | with_reducible refine w_forR1 ?_
  | with_reducible refine w_forR2 ?_
  | with_reducible refine w_lcL ?_
  | with_reducible refine w_lcT ?_
  | with_reducible refine w_lcR1 ?_
  | with_reducible refine w_yes ?_
  | with_reducible refine w_sl ?_
  | with_reducible refine w_noPart ?_
  | with_reducible refine w_part ?_
  | with_reducible refine w_int ?_
  | ((with_reducible refine' w_slL ?vv ?_); (case vv => walk_at "tr"))
  | ((with_reducible refine' w_seqL ?vv ?ww ?_); (case vv => walk_at "tr"); (case ww => rfl))
  | ((with_reducible refine' w_seqT ?vv ?ww ?_); (case vv => walk_at "tr"); (case ww => rfl))
  | with_reducible refine w_gNil ?_
  | with_reducible refine w_gCons ?_
  | with_reducible refine w_forZ ?_
  | with_reducible refine w_forM ?_
  | with_reducible refine w_forE ?_
  | with_reducible refine w_forV ?_
  | with_reducible refine w_lcZ ?_
  | with_reducible refine w_lcE ?_
  | ((with_reducible refine' w_isi (b := true) ?vv ?ww ?_); (case vv => walk_at "ty"); (case ww => decide +kernel))
  | ((with_reducible refine' w_isi (b := false) ?vv ?ww ?_); (case vv => walk_at "ty"); (case ww => decide +kernel))
  | with_reducible refine w_revL ?_
  | with_reducible refine w_pairN ?_
  | with_reducible refine w_pairC ?_
  | with_reducible refine w_dget ?_
  | with_reducible refine w_met ?_
  | ((with_reducible refine' w_metAt ?vv ?ww ?_); (case vv => walk_at "tr"); (case ww => rfl))
  | with_reducible refine w_mkI ?_
  | with_reducible refine w_fld ?_
  | ((with_reducible refine' w_fldAt ?vv ?cc ?nn ?ww ?_); (case vv => walk_at "tr"); (case cc => walk_at "cls"); (case nn => walk_at "na"); (case ww => rfl))
  | with_reducible refine w_sfld ?_
  | ((with_reducible refine' w_sfldAt ?vv ?cc ?nn ?ll ?ee ?_); (case vv => walk_at "tr"); (case cc => walk_at "cls"); (case nn => walk_at "na"); (case ll => simp); (case ee => rfl))
  | ((with_reducible refine' w_tupL ?vv ?_); (case vv => walk_at "tr"))
  | ((with_reducible refine' w_tupT ?vv ?_); (case vv => walk_at "tr"))
  | ((with_reducible refine' w_listL ?vv ?_); (case vv => walk_at "tr"))
  | ((with_reducible refine' w_listT ?vv ?_); (case vv => walk_at "tr"))
  | with_reducible refine w_tyS ?_
  | with_reducible refine w_lcZM ?_
  | with_reducible refine w_js ?_
  | with_reducible refine w_jsN ?_
  | ((with_reducible refine' w_jsP ?vv ?_); (case vv => walk_at "size"))
  | with_reducible refine w_fmt ?_
  | with_reducible refine w_forRR ?_
  | with_reducible refine w_retN ?_
  | with_reducible refine w_break ?_
  | with_reducible refine w_cont ?_)
local macro_rules | `(tactic| walk_at "w") => `(tactic| first
  | walk_at "v"
  | with_reducible refine w_or ?_
  | with_reducible refine w_and ?_
  | with_reducible refine w_andV ?_
  | with_reducible refine w_orV ?_)
local macro_rules | `(tactic| walk_at "wd") => `(tactic| first
  | walk_at "w"
  | ((with_reducible refine' w_decT ?vv ?_); (case vv => decide +kernel))
  | ((with_reducible refine' w_decF ?vv ?_); (case vv => decide +kernel)))
local macro_rules | `(tactic| walk_at "tz") => `(tactic| (intro S z; (repeat walk_at "w"); exact z))
local macro_rules | `(tactic| walk_at "wf") => `(tactic| first
  | walk_at "wd"
  | ((with_reducible refine' w_decF ?vv ?_); (case vv => with_reducible assumption)))
/-! ### k04: right -/
def spRight (K : PySem.W.Frag) : Sp := fun vs H Q _ => ∃ (s : Addr) (k : Nat), vs = [.ref s, .int (k : Int)] ∧ Stm H s ∧ k < 19 ∧ ∀ H', Stm H' s → But s H H' → Q (.bl true) H'
theorem len_law_right {K : PySem.W.Frag} {vs H Q E} (h : spRight K vs H Q E) : vs.length = 2 := by obtain ⟨_, _, rfl, _⟩ := h; rfl
def manyN (k : Nat) : Nat := (fsOf k V.non V.non).length
theorem k19 {p : Nat → Prop} (h : ∀ j : Fin 19, p j.val) {k : Nat} (hk : k < 19) : p k := h ⟨k, hk⟩
theorem k19e {k : Nat} (hk : k < 19) : k = 0 ∨ k = 1 ∨ k = 2 ∨ k = 3 ∨ k = 4 ∨ k = 5 ∨ k = 6 ∨ k = 7 ∨ k = 8 ∨ k = 9 ∨ k = 10 ∨ k = 11 ∨ k = 12 ∨ k = 13 ∨ k = 14 ∨ k = 15 ∨ k = 16 ∨ k = 17 ∨ k = 18 := by omega
theorem many_at {k : Nat} (hk : k < 19) : atI [V.int 1, V.int 2, V.int 0] ((if inV (.int (k : Int)) [V.int 11, V.int 12] = true then (1 : Int) else 0) + 2 * (if inV (.int (k : Int)) [V.int 14, V.int 18] = true then (1 : Int) else 0)) = some (.int (manyN k : Int)) := by
  rcases k19e hk with rfl | rfl | rfl | rfl | rfl | rfl | rfl | rfl | rfl | rfl | rfl | rfl | rfl | rfl | rfl | rfl | rfl | rfl | rfl <;> rfl
theorem many_cut {k : Nat} (hk : k < 19) (x y z : V) : cutV [x, y, z] none (some (manyN k : Int)) = fieldsV k x y := by
  rcases k19e hk with rfl | rfl | rfl | rfl | rfl | rfl | rfl | rfl | rfl | rfl | rfl | rfl | rfl | rfl | rfl | rfl | rfl | rfl | rfl <;> rfl
theorem fields_rep {k : Nat} (hk : k < 19) (x : V) : fieldsV k x x = List.replicate (manyN k) x := by
  rcases k19e hk with rfl | rfl | rfl | rfl | rfl | rfl | rfl | rfl | rfl | rfl | rfl | rfl | rfl | rfl | rfl | rfl | rfl | rfl | rfl <;> rfl
theorem fields_take {k : Nat} (hk : k < 19) (x y : V) : fieldsV k x y = [x, y].take (manyN k) := by
  rcases k19e hk with rfl | rfl | rfl | rfl | rfl | rfl | rfl | rfl | rfl | rfl | rfl | rfl | rfl | rfl | rfl | rfl | rfl | rfl | rfl <;> rfl
theorem fields_in {k : Nat} (hk : k < 19) {x y v : V} (h : v ∈ fieldsV k x y) : v = x ∨ v = y := by
  rw [fields_take hk] at h
  have := List.mem_of_mem_take h
  simpa using this
theorem many_le {k : Nat} (hk : k < 19) : manyN k ≤ 2 := k19 (p := fun k => manyN k ≤ 2) (by decide +kernel) hk
theorem fields_len {k : Nat} (hk : k < 19) (x y : V) : (fieldsV k x y).length = manyN k := by
  rcases k19e hk with rfl | rfl | rfl | rfl | rfl | rfl | rfl | rfl | rfl | rfl | rfl | rfl | rfl | rfl | rfl | rfl | rfl | rfl | rfl <;> rfl
theorem cl_in {k : Nat} (hk : k < 19) : clOf k ∈ exN := k19 (p := fun k => clOf k ∈ exN) (by decide +kernel) hk
theorem cl_ro {k : Nat} (hk : k < 19) : exAb (clOf k) "RowsError" = true := k19 (p := fun k => exAb (clOf k) "RowsError" = true) (by decide +kernel) hk
theorem kinds_of {k : Nat} (hk : k < 19) : kindsB (clOf k) = (List.range 19).map fun j => decide (j = k) := k19 (p := fun k => kindsB (clOf k) = (List.range 19).map fun j => decide (j = k)) (by decide +kernel) hk
theorem kinds_eqv {k : Nat} (hk : k < 19) : PyData.eqv (.list ((kindsB (clOf k)).map PyData.bool)) (.list ((kindsB (clOf k)).map PyData.bool)) = true := k19 (p := fun k => PyData.eqv (.list ((kindsB (clOf k)).map PyData.bool)) (.list ((kindsB (clOf k)).map PyData.bool)) = true) (by decide +kernel) hk
theorem kinds_shaped {k : Nat} (hk : k < 19) : SeqAt.shaped (.list ((kindsB (clOf k)).map PyData.bool)) = true := k19 (p := fun k => SeqAt.shaped (.list ((kindsB (clOf k)).map PyData.bool)) = true) (by decide +kernel) hk
theorem dpAll_bls {K : PySem.W.Frag} {H : Hp} : ∀ bs : List Bool, DpAll K H (bs.map V.bl) (bs.map PyData.bool)
  | [] => .nil
  | b :: bs => .cons (.bl b) (dpAll_bls bs)
theorem TN.mono {m n : Nat} {H : Hp} {v : V} (h : TN m H v) (hm : m ≤ n) : TN n H v := by
  rcases h with h | ⟨p, o, rfl, hp, ⟨l, rfl, hl⟩ | h⟩
  · exact .inl h
  · exact .inr ⟨p, _, rfl, hp, .inl ⟨l, rfl, by omega⟩⟩
  · exact .inr ⟨p, o, rfl, hp, .inr h⟩
theorem TN.smA {m : Nat} {H H' : Hp} {v : V} (h : TN m H v) (e : Same H H') : TN m H' v := by
  rcases h with h | ⟨p, o, rfl, hp, ho⟩
  · exact .inl h
  · exact .inr ⟨p, o, rfl, e _ _ hp, ho⟩
theorem TN.but {m : Nat} {H H' : Hp} {v : V} {s : Addr} (h : TN m H v) (e : But s H H') (n : ∀ p, v = .ref p → p ≠ s) : TN m H' v := by
  rcases h with h | ⟨p, o, rfl, hp, ho⟩
  · exact .inl h
  · exact .inr ⟨p, o, rfl, e _ _ (n p rfl) hp, ho⟩
theorem TN.get {m : Nat} {H : Hp} {p : Addr} (h : TN m H (.ref p)) : ∃ o, H p = some o := by
  rcases h with h | ⟨p, o, e, hp, ho⟩
  · cases h
  · cases e
    exact ⟨o, hp⟩
theorem w_isList {K : PySem.W.Frag} {H : Hp} {Q : VK} {v : V} {m : Nat} (h : TN m H v) (k1 : ∀ p l, v = .ref p → H p = some (.lst l) → l.length ≤ m → Q (.bl true) H) (k2 : (∀ p l, v = .ref p → H p ≠ some (.lst l)) → Q (.bl false) H) : rIsi K [v, .ty "list"] H Q := by
  rcases h with h | ⟨p, o, rfl, hp, ⟨l, rfl, hl⟩ | ⟨l, rfl⟩ | rfl⟩
  · have k := k2 (fun p l e => by rw [e] at h; cases h)
    cases v with
    | non => exact w_isi (b := false) ty_non (show kitB "NoneType" "list" = some false by decide +kernel) k
    | bl b => exact w_isi (b := false) ty_bl (show kitB "bool" "list" = some false by decide +kernel) k
    | int i => exact w_isi (b := false) ty_int (show kitB "int" "list" = some false by decide +kernel) k
    | str x => exact w_isi (b := false) ty_str (show kitB "str" "list" = some false by decide +kernel) k
    | byt x => exact w_isi (b := false) (.byt _) (show kitB "bytes" "list" = some false by decide +kernel) k
    | _ => cases h
  · exact w_isi (b := true) (ty_lst hp) (show kitB "list" "list" = some true by decide +kernel) (k1 p l rfl hp hl)
  · exact w_isi (b := false) (ty_tup hp) (show kitB "tuple" "list" = some false by decide +kernel) (k2 fun q l e => by cases e; rw [hp]; intro z; cases z)
  · exact w_isi (b := false) (ty_dic hp) (show kitB "dict" "list" = some false by decide +kernel) (k2 fun q l e => by cases e; rw [hp]; intro z; cases z)
theorem rep_cmp {n : Nat} (h : n ≤ 2) : Cmp (.list (List.replicate n (.list [.str "b", .int 7]))) := by
  have c : n = 0 ∨ n = 1 ∨ n = 2 := by omega
  rcases c with rfl | rfl | rfl <;> exact ⟨by decide +kernel, by decide +kernel⟩
/-- what is seen of the things, the errors ahead of turn j -/
structure Lp (H0 H : Hp) (s T b : Addr) (v1 v2 : V) (e1 e2 C : Addr) (l1 l2 : List (Str × V)) (j : Nat) : Prop where
  t : H T = some (.lst [v1, v2, .ref b])
  st : Stm H s
  bu : But s H0 H
  th : ∀ v ∈ [v1, v2, .ref b], TN (2 + j) H v
  b2 : j ≤ 2 → H b = some (.lst [.str "b"])
  b3 : j = 3 → H b = some (.lst [.str "b", .int 7])
  x1 : ErrAt H e1 C l1
  x2 : ErrAt H e2 C l2
theorem err_but {H H' : Hp} {p a C : Addr} {l : List (Str × V)} {ys : List V} (b : But p H H') (hp : H p = some (.lst ys)) (h : ErrAt H a C l) : ErrAt H' a C l := by
  rcases h with ⟨z, h⟩ | ⟨dx, h, g⟩
  · exact .inl ⟨z, b _ _ (ne_of h hp (by intro q; cases q)) h⟩
  · exact .inr ⟨dx, b _ _ (ne_of h hp (by intro q; cases q)) h, b _ _ (ne_of g hp (by intro q; cases q)) g⟩
theorem Lp.next {H0 H H' : Hp} {s T b : Addr} {v1 v2 : V} {e1 e2 C : Addr} {l1 l2 : List (Str × V)} {j : Nat} (h : Lp H0 H s T b v1 v2 e1 e2 C l1 l2 j) (hj : j < 3) (fr : ∀ v ∈ [v1, v2, .ref b], ∀ p, v = .ref p → H0 p = none ∧ p ≠ T ∧ p ≠ s) (nb : ∀ v ∈ [v1, v2], v ≠ .ref b)
    {x : V} (hx : [v1, v2, .ref b][j]? = some x) {p : Addr} {l : List V} (e : x = .ref p) (hp : H p = some (.lst l)) (hl : l.length ≤ 2 + j) (bu : But p H H') (f : H' p = some (.lst (l ++ [.int 7]))) : Lp H0 H' s T b v1 v2 e1 e2 C l1 l2 (j + 1) := by
  subst e
  have hm := List.mem_of_getElem? hx
  obtain ⟨f0, nT, ns⟩ := fr _ hm p rfl
  have pb : j < 2 → b ≠ p := fun hj z => by
    subst z
    have c : j = 0 ∨ j = 1 := by omega
    rcases c with rfl | rfl
    · exact nb v1 (by simp) (Option.some.inj hx)
    · exact nb v2 (by simp) (Option.some.inj hx)
  refine ⟨bu _ _ (Ne.symm nT) h.t, bu.stm (Ne.symm ns) h.st, fun c o hc ho => bu _ _ (ne_of_none ho f0) (h.bu c o hc ho), fun v hv => ?_, fun hj2 => bu _ _ (pb (by omega)) (h.b2 (by omega)), fun hj3 => ?_, err_but bu hp h.x1, err_but bu hp h.x2⟩
  · rcases h.th v hv with hf | ⟨q, o, rfl, hq, ho⟩
    · exact .inl hf
    · by_cases c : q = p
      · subst c
        exact .inr ⟨q, _, rfl, f, .inl ⟨_, rfl, by rw [List.length_append, List.length_singleton]; omega⟩⟩
      · exact (show TN (2 + j) H' _ from .inr ⟨q, o, rfl, bu _ _ c hq, ho⟩).mono (by omega)
  · obtain rfl : j = 2 := by omega
    obtain rfl : b = p := by
      have := Option.some.inj hx
      injection this
    rw [h.b2 (Nat.le_refl _)] at hp
    injection hp with hp
    injection hp with hp
    subst hp
    exact f
theorem Lp.skip {H0 H : Hp} {s T b : Addr} {v1 v2 : V} {e1 e2 C : Addr} {l1 l2 : List (Str × V)} {j : Nat} (h : Lp H0 H s T b v1 v2 e1 e2 C l1 l2 j) (hj : j < 3) {x : V} (hx : [v1, v2, .ref b][j]? = some x) (n : ∀ p l, x = .ref p → H p ≠ some (.lst l)) : Lp H0 H s T b v1 v2 e1 e2 C l1 l2 (j + 1) := by
  refine ⟨h.t, h.st, h.bu, fun v hv => (h.th v hv).mono (by omega), fun hj2 => h.b2 (by omega), fun hj3 => ?_, h.x1, h.x2⟩
  obtain rfl : j = 2 := by omega
  exact (n b _ (Option.some.inj hx).symm (h.b2 (Nat.le_refl _))).elim
section
variable {P : Program} {w : World} {K : PySem.W.Frag} {mg : Str → Option Value}
theorem ok_law_right [c : Facts K mg] (G__law_fields : Fn P w K mg "_law_fields" 1 ["error"] ((spFields K))) (G__law_first : Fn P w K mg "_law_first" 4 ["k", "one", "other"] ((spFirst K))) (G__law_kinds : Fn P w K mg "_law_kinds" 1 ["error"] ((spKinds K))) (G__law_same : Fn P w K mg "_law_same" 1 ["found", "due"] ((spSm K))) (G__law_thing : Fn P w K mg "_law_thing" 2 ["stream"] ((spThing))) : Fn P w K mg "_law_right" 5 ["stream", "k"] ((spRight K)) := by
  obtain ⟨fd, F⟩ := c.d_law_right
  refine Fn.mk' F c.g_law_right sc_law_right (k := 4) (fun vs H Q E h => ?_) (fun _ _ _ _ _ _ us hl => match us, hl with | [_, _], _ => rfl) (fun base cdv A outer s H vs Q E hr h => ?_)
  · exact len_law_right h
  · have nd := sc_law_right.nd
    have hu := hu_of hr
    have hr__law_fields : Room 1 _ := hr.mono (by omega)
    have hr__law_first : Room 4 _ := hr.mono (by omega)
    have hr__law_kinds : Room 1 _ := hr.mono (by omega)
    have hr__law_same : Room 1 _ := hr.mono (by omega)
    have hr__law_thing : Room 2 _ := hr.mono (by omega)
    refine ⟨_, (pss_cons (ps_set (i := 2) nd rfl (Or.inl rfl) (pe_lst (pa_cons (pe_fn G__law_thing hr__law_thing (by rfl) (pa_cons (pv 0) pa_nil)) (pa_cons (pe_fn G__law_thing hr__law_thing (by rfl) (pa_cons (pv 0) pa_nil)) (pa_cons (pe_lst (pa_cons pe_str pa_nil)) pa_nil)))))
      (pss_cons (ps_set (i := 3) nd rfl (Or.inl rfl) (pe_ix (ix_any (K := K) rfl) (pe_lst (pa_cons pe_int (pa_cons pe_int (pa_cons pe_int pa_nil)))) (pe_op (op_addA (K := K) rfl) (pe_callTy call_int1A (by rfl) c.f_int boot_int (pa_cons (pe_cmpR (op_inA (K := K) rfl) (pv 1) (pe_tup (pa_cons pe_int (pa_cons pe_int pa_nil))) (by rfl)) pa_nil)) (pe_op op_mulA pe_int (pe_callTy call_int1A (by rfl) c.f_int boot_int (pa_cons (pe_cmpR (op_inA (K := K) rfl) (pv 1) (pe_tup (pa_cons pe_int (pa_cons pe_int pa_nil))) (by rfl)) pa_nil)))) (fun _ _ => rfl)))
      (pss_cons (ps_set (i := 4) nd rfl (Or.inl rfl) (pe_fn G__law_first hr__law_first (by rfl) (pa_cons (pv 1) (pa_cons (pe_ix (ix_any (K := K) rfl) (pv 2) pe_int (fun _ _ => rfl)) (pa_cons (pe_ix (ix_any (K := K) rfl) (pv 2) pe_int (fun _ _ => rfl)) pa_nil)))))
      (pss_cons (ps_set (i := 5) nd rfl (Or.inl rfl) (pe_fn G__law_first hr__law_first (by rfl) (pa_cons (pv 1) (pa_cons (pe_ix (ix_any (K := K) rfl) (pv 2) pe_int (fun _ _ => rfl)) (pa_cons (pe_ix (ix_any (K := K) rfl) (pv 2) pe_int (fun _ _ => rfl)) pa_nil)))))
      (pss_cons (ps_if (PW.pt (pw_or (pt_not (pt_val (pe_callB (EXV.call_isiE (K := K) rfl) (by rfl) c.f_isinstance boot_isinstance (pa_cons (pv 4) (pa_cons (pe_glob (v := .ref (He.ga K "RowsError")) (by rfl) c.gc_RowsError rfl) pa_nil))))) (pw_or1 (pt_not (pt_val (pe_callB (EXV.call_isiE (K := K) rfl) (by rfl) c.f_isinstance boot_isinstance (pa_cons (pv 4) (pa_cons (pe_bltn (v := .ty "ValueError") (by rfl) c.f_ValueError boot_ValueError rfl) pa_nil)))))))) (pss_one (ps_ret pe_bl)) pss_nil)
      (pss_cons (ps_if (PW.pt (pw_or (pt_cmpR (op_neA (K := K) rfl hr.units) (pe_fn G__law_kinds hr__law_kinds (by rfl) (pa_cons (pv 4) pa_nil)) (pe_lc (own := [("j", 7)]) rfl nd (pi_range1 (by rfl) c.f_range (pa_cons pe_int pa_nil)) (blkOk_by (N := N_law_right) (sc := defScope s_law_right) (by decide +kernel)) (fun _ _ _ _ _ => (pg_name (i := 7) nd rfl (Or.inl rfl))) (fun _ _ _ _ _ => pts_nil) (fun _ _ _ _ _ => (pe_cmpR (op_eqA (K := K) rfl hr.units) (pv 7) (pv 1) (nomark _)))) (nomark _)) (pw_or1 (pt_not (pt_val (pe_fn G__law_same hr__law_same (by rfl) (pa_cons (pe_fn G__law_fields hr__law_fields (by rfl) (pa_cons (pv 4) pa_nil)) (pa_cons (pe_slice (sl_any (K := K) rfl) (pv 2) po_none (po_some (pv 3))) pa_nil)))))))) (pss_one (ps_ret pe_bl)) pss_nil)
      (pss_cons (ps_for PassesOwn.never rfl (pi_list (pv 2)) (pg_name (i := 6) nd rfl (Or.inl rfl)) (pss_one (ps_if (pt_val (pe_callB (call_isiA (K := K) rfl) (by rfl) c.f_isinstance boot_isinstance (pa_cons (pv 6) (pa_cons (pe_bltn (v := .ty "list") (by rfl) c.f_list boot_list rfl) pa_nil)))) (pss_one (ps_expr (pe_bm PySem.F.plainAttrs_list PySem.F.slot_list_append PySem.F.type_list_append mt_append (pv 6) (pa_cons pe_int pa_nil)))) pss_nil)))
      (pss_cons (ps_if (pt_not (pt_val (pe_fn G__law_same hr__law_same (by rfl) (pa_cons (pe_fn G__law_fields hr__law_fields (by rfl) (pa_cons (pv 4) pa_nil)) (pa_cons (pe_slice (sl_any (K := K) rfl) (pv 2) po_none (po_some (pv 3))) pa_nil))))) (pss_one (ps_ret pe_bl)) pss_nil)
      (pss_one (ps_ret (pe_fn G__law_same hr__law_same (by rfl) (pa_cons (pe_fn G__law_fields hr__law_fields (by rfl) (pa_cons (pv 5) pa_nil)) (pa_cons (pe_op op_mulA (pe_lst (pa_cons (pe_lst (pa_cons pe_str (pa_cons pe_int pa_nil))) pa_nil)) (pv 3)) pa_nil))))))))))))), ?_⟩
    try dsimp only [cxOf, Cx.nox, Cx.wish]
    obtain ⟨s, k, rfl, hs, hk, q⟩ := h
    have hz : sizeLine = 16777216 := sizeLine_eq
    repeat walk_at "w"
    refine ⟨s, rfl, hs, fun v1 H1 t1 fr1 hs1 e1 => ?_⟩
    repeat walk_at "w"
    refine ⟨s, rfl, hs1, fun v2 H2 t2 fr2 hs2 e2 => ?_⟩
    repeat walk_at "w"
    refine w_new fun b H3 n3 s3 f3 => ?_
    repeat walk_at "w"
    refine w_new fun T H4 n4 s4 f4 => ?_
    repeat walk_at "w"
    refine w_new fun M H5 n5 s5 f5 => ?_
    repeat walk_at "w"
    refine w_new fun t6 H6 n6 s6 f6 => ?_
    repeat walk_at "w"
    refine w_inT (SqT.of f6) rfl rfl ?_
    repeat walk_at "w"
    refine w_new fun t7 H7 n7 s7 f7 => ?_
    repeat walk_at "w"
    refine w_inT (SqT.of f7) rfl rfl ?_
    repeat walk_at "w"
    refine w_ixL (SqL.of (s7 _ _ (s6 _ _ f5))) (many_at hk) ?_
    have s47 : Same H4 H7 := s5.trans (s6.trans s7)
    have fT7 := s47 _ _ f4
    repeat walk_at "w"
    refine ⟨k, v1, v2, rfl, hk, fun x1 H8 hx1 s8 => ?_⟩
    have fT8 := s8 _ _ fT7
    repeat walk_at "w"
    refine ⟨k, .ref b, .ref b, rfl, hk, fun x2 H9 hx2 s9 => ?_⟩
    have fT9 := s9 _ _ fT8
    have hx19 := hx1.sm s9
    have hxX : ErrX H9 x1 (He.ga K (clOf k)) := .inl ⟨_, hx19⟩
    repeat walk_at "w"
    refine w_isiE (D := "RowsError") (cl_in hk) (by decide +kernel) hxX ?_
    rw [cl_ro hk]
    repeat walk_at "w"
    refine ⟨_, _, _, _, true, rfl, .ty "ValueError", hxX.ty (ex_all _ (cl_in hk)).e, Facts.xv _ (cl_in hk), ?_⟩
    repeat walk_at "w"
    refine ⟨x1, clOf k, rfl, cl_in hk, hxX, fun q1 H10 f10 s10 => ?_⟩
    repeat walk_at "w"
    refine lc_R1 (fun D i ys H' => Same H10 H' ∧ ys = ((List.range i).map fun j => decide (j = k)).map V.bl) (by decide) (by decide) (fun D H' hD e f => ⟨e, rfl⟩) (fun D hD i ys H' hi hl hy hp => ?_) (fun D hD ys H11 hl hy hp => ?_)
    · obtain ⟨e, rfl⟩ := hp
      repeat walk_at "w"
      refine lc_end hy hl (by rw [hz, List.length_map, List.length_map, List.length_range]; have : i < 19 := hi; omega) fun H12 e12 f12 => ⟨But.new e hD e12, ?_⟩
      rw [List.range_succ, List.map_append, List.map_append]
      rw [show decide ((i : Int) = (k : Int)) = decide (i = k) from by
        by_cases c : i = k
        · rw [c]; simp
        · rw [decide_eq_false c, decide_eq_false (by omega)]]
      rfl
    · obtain ⟨e, rfl⟩ := hp
      replace hy : H11 D = some (.lst (((List.range 19).map fun j => decide (j = k)).map V.bl)) := hy
      rw [← kinds_of hk] at hy
      have f11 := e _ _ f10
      have s911 := s10.trans e
      refine w_neD (d := .list ((kindsB (clOf k)).map PyData.bool)) (e := .list ((kindsB (clOf k)).map PyData.bool)) (.lst (SqL.of f11) (dpAll_bls _)) (.lst (SqL.of hy) (dpAll_bls _)) (kinds_shaped hk) (kinds_shaped hk) ?_
      rw [kinds_eqv hk]
      repeat walk_at "w"
      refine ⟨x1, k, v1, v2, rfl, hk, hx19.sm s911, fun q2 H12 f12 s12 n12 => ?_⟩
      have s912 := s911.trans s12
      have fT12 := s912 _ _ fT9
      repeat walk_at "w"
      refine w_new fun q3 H13 n13 s13 f13 => ?_
      rw [many_cut hk] at f13
      have s913 := s912.trans s13
      have s413 : Same H4 H13 := s47.trans (s8.trans (s9.trans s913))
      have fq2 := s13 _ _ f12
      repeat walk_at "w"
      have s3T := s3.trans (s4.trans s413)
      have t2' : TN 2 H13 v2 := t2.smA s3T
      have t1' : TN 2 H13 v1 := (t1.but e2 fun p e => stm_ne hs (fr1 p e)).smA s3T
      have th : ∀ v ∈ fieldsV k v1 v2, ThingAt H13 v := fun v hv => by
        rcases fields_in hk hv with rfl | rfl
        · exact t1'.mono (by decide)
        · exact t2'.mono (by decide)
      refine ⟨q2, q3, fieldsV k v1 v2, fieldsV k v1 v2, rfl, fq2, f13, by rw [fields_len hk]; have := many_le hk; omega, th, th, rfl, .inl rfl, fun H14 s14 => ?_⟩
      repeat walk_at "w"
      have s414 := s413.trans s14
      have bs : b ≠ s := stm_ne hs2 n3
      have fr : ∀ v ∈ [v1, v2, .ref b], ∀ p, v = .ref p → H p = none ∧ p ≠ T ∧ p ≠ s := fun v hv p e => by
        rcases (by simpa using hv : v = v1 ∨ v = v2 ∨ v = .ref b) with rfl | rfl | rfl
        · subst e
          have ps := stm_ne hs (fr1 p rfl)
          obtain ⟨o, ho⟩ := t1.get
          exact ⟨fr1 p rfl, ne_of_none (s3 _ _ (e2 _ _ ps ho)) n4, ps⟩
        · subst e
          have ps := stm_ne hs1 (fr2 p rfl)
          obtain ⟨o, ho⟩ := t2.get
          exact ⟨e1.back ps (fr2 p rfl), ne_of_none (s3 _ _ ho) n4, ps⟩
        · cases e
          exact ⟨e1.back bs (e2.back bs n3), ne_of_none f3 n4, bs⟩
      have nb : ∀ v ∈ [v1, v2], v ≠ .ref b := fun v hv e => by
        rcases (by simpa using hv : v = v1 ∨ v = v2) with rfl | rfl
        · subst e
          obtain ⟨o, ho⟩ := t1.get
          rw [e2 _ _ bs ho] at n3; cases n3
        · subst e
          obtain ⟨o, ho⟩ := t2.get
          rw [ho] at n3; cases n3
      have s314 := s3.trans (s4.trans s414)
      have fT14 := s414 _ _ f4
      refine fl_list [v1, v2, .ref b] (fun i σ H' => ∃ o6, σ = [some (.ref s), some (.int (k : Int)), some (.ref T), some (.int (manyN k : Int)), some (.ref x1), some (.ref x2), o6, none] ∧ Lp H H' s T b v1 v2 x1 x2 (He.ga K (clOf k)) (fsOf k v1 v2) (fsOf k (.ref b) (.ref b)) i) (SqL.of fT14) ⟨_, rfl, ?_⟩ (fun i σ H' hi hp => ?_) (fun i x σ H' hx hp => ?_) (fun σ H' hp => ?_)
      · refine ⟨fT14, s314.stm hs2, e1.trans (e2.trans (But.of s314)), fun v hv => ?_, fun _ => (s4.trans s414) _ _ f3, fun z => (by cases z), hx19.sm (s913.trans s14), hx2.sm (s913.trans s14)⟩
        rcases (by simpa using hv : v = v1 ∨ v = v2 ∨ v = .ref b) with rfl | rfl | rfl
        · exact t1'.smA s14
        · exact t2'.smA s14
        · exact .inr ⟨b, _, rfl, (s4.trans s414) _ _ f3, .inl ⟨_, rfl, by decide⟩⟩
      · obtain ⟨o6, rfl, hp⟩ := hp
        exact SqL.of hp.t
      · obtain ⟨o6, rfl, hp⟩ := hp
        have hi := (List.getElem?_eq_some_iff.mp hx).1
        have hm := List.mem_of_getElem? hx
        repeat walk_at "w"
        refine w_isList (hp.th x hm) (fun p l e hpl hll => ?_) (fun hn => ?_)
        · subst e
          repeat walk_at "w"
          refine w_append hpl (by rw [hz]; have : i < 3 := hi; omega) ?_
          refine w_chg fun H15 e15 f15 => ?_
          exact ⟨_, rfl, hp.next hi fr nb hx rfl hpl hll e15 f15⟩
        · repeat walk_at "w"
          exact ⟨_, rfl, hp.skip hi hx hn⟩
      · obtain ⟨o6, rfl, hp⟩ := hp
        repeat walk_at "w"
        refine ⟨x1, k, v1, v2, rfl, hk, hp.x1, fun q4 H16 f16 s16 n16 => ?_⟩
        have fT16 := s16 _ _ hp.t
        repeat walk_at "w"
        refine w_new fun q5 H17 n17 s17 f17 => ?_
        rw [many_cut hk] at f17
        have s1617 := s16.trans s17
        have fq4 := s17 _ _ f16
        repeat walk_at "w"
        have th5 : ∀ v ∈ [v1, v2, V.ref b], TN 5 H17 v := fun v hv => (hp.th v hv).smA s1617
        have th' : ∀ v ∈ fieldsV k v1 v2, ThingAt H17 v := fun v hv => by
          rcases fields_in hk hv with rfl | rfl
          · exact (th5 _ (by simp)).mono (by decide)
          · exact (th5 _ (by simp)).mono (by decide)
        refine ⟨q4, q5, fieldsV k v1 v2, fieldsV k v1 v2, rfl, fq4, f17, by rw [fields_len hk]; have := many_le hk; omega, th', th', rfl, .inl rfl, fun H18 s18 => ?_⟩
        repeat walk_at "w"
        refine ⟨x2, k, .ref b, .ref b, rfl, hk, hp.x2.sm (s1617.trans s18), fun q6 H19 f19 s19 n19 => ?_⟩
        repeat walk_at "w"
        refine w_new fun q7 H20 n20 s20 f20 => ?_
        repeat walk_at "w"
        refine w_new fun q8 H21 n21 s21 f21 => ?_
        repeat walk_at "w"
        refine w_rep (n := (manyN k : Int)) f21 (by omega) (by have := many_le hk; omega) (by rw [hz]; have := many_le hk; show 1 * _ ≤ _; omega) ?_
        refine w_new fun q9 H22 n22 s22 f22 => ?_
        have fl9 : (List.replicate (manyN k : Int).toNat [V.ref q7]).flatten = List.replicate (manyN k) (V.ref q7) := by
          rw [show (manyN k : Int).toNat = manyN k from rfl]
          generalize manyN k = n
          induction n with
          | zero => rfl
          | succ n ih => rw [List.replicate_succ, List.flatten_cons, ih]; rfl
        rw [fl9] at f22
        have s1722 := s18.trans (s19.trans (s20.trans (s21.trans s22)))
        have f19' := (s20.trans (s21.trans s22)) _ _ f19
        rw [fields_rep hk] at f19'
        have fb22 := (s1617.trans s1722) _ _ (hp.b3 rfl)
        have fq722 := (s21.trans s22) _ _ f20
        have db : Dp K H22 (.ref b) (.list [.str "b", .int 7]) := .lst (SqL.of fb22) (.cons (.str _) (.cons (.int 7) .nil))
        have dq : Dp K H22 (.ref q7) (.list [.str "b", .int 7]) := .lst (SqL.of fq722) (.cons (.str _) (.cons (.int 7) .nil))
        have rp : ∀ {v : V} {d : PyData}, Dp K H22 v d → ∀ n, DpAll K H22 (List.replicate n v) (List.replicate n d) := fun h n => by
          induction n with
          | zero => exact .nil
          | succ n ih => exact .cons h ih
        have tb : ∀ {c : Addr}, H22 c = some (.lst [.str "b", .int 7]) → ∀ v ∈ List.replicate (manyN k) (V.ref c), ThingAt H22 v := fun h v hv => by
          rw [(List.mem_replicate.mp hv).2]
          exact .inr ⟨_, _, rfl, h, .inl ⟨_, rfl, by decide⟩⟩
        repeat walk_at "w"
        refine ⟨q6, q9, List.replicate (manyN k) (.ref b), List.replicate (manyN k) (.ref q7), rfl, f19', f22, by rw [List.length_replicate]; have := many_le hk; omega, tb fb22, tb fq722, by rw [List.map_replicate, List.map_replicate]; rfl,
          .inr ⟨List.replicate (manyN k) (.list [.str "b", .int 7]), rp db _, rp dq _, rep_cmp (many_le hk)⟩, fun H23 s23 => ?_⟩
        repeat walk_at "w"
        refine q _ ((s1617.trans (s1722.trans s23)).stm hp.st) (hp.bu.trans (But.of (s1617.trans (s1722.trans s23))))
end

end J
namespace J
open PySem PySem.Spec PyProof.Rows L2

local macro_rules | `(tactic| walk_at "ty") => `(tactic| first
  | with_reducible exact ty_int
  | with_reducible exact ty_bl
  | with_reducible exact ty_str
  | with_reducible exact ty_non
  | ((with_reducible refine' ty_lst ?vv); (case vv => walk_at "tr"))
  | ((with_reducible refine' ty_sqT ?vv); (case vv => walk_at "tr"))
  | ((with_reducible refine' ty_dic ?vv); (case vv => walk_at "tr")))
local macro_rules | `(tactic| walk_at "ix") => `(tactic| first | exact at0 | exact at1 | exact at2 | assumption)
local macro_rules | `(tactic| walk_at "size") => `(tactic| first
  | assumption
  | (show _ < sizeLine; rw [sizeLine_eq]; (try simp only [List.length_cons, List.length_nil, List.length_append, List.length_map]); omega)
  | (show _ ≤ sizeLine; rw [sizeLine_eq]; (try simp only [List.length_cons, List.length_nil, List.length_append, List.length_map]); omega))
local macro_rules | `(tactic| walk_at "side") => `(tactic| first
  | assumption
  | ((with_reducible refine cdw ?_ ?_) <;> omega)
  | omega
  | (exact ⟨by omega, by omega⟩)
  | (exact Or.inl ⟨by omega, by omega⟩)
  | (exact Or.inr ⟨by omega, by omega⟩)
  | decide
  | (simp only [List.length_cons, List.length_nil, List.length_append, List.length_map]; omega)
  | (show _ ≤ _; decide))
local macro_rules | `(tactic| walk_at "as") => `(tactic| with_reducible assumption)
local macro_rules | `(tactic| walk_at "tr") => `(tactic| first
  | with_reducible assumption
  | with_reducible exact upd_same
  | ((with_reducible refine' SqL.of ?hh); (case hh => walk_at "as"))
  | ((with_reducible refine' SqT.of ?hh); (case hh => walk_at "as"))
  | ((with_reducible refine' Same.stm ?ee ?gg); (case ee => walk_at "as"); (case gg => walk_at "tr"))
  | ((with_reducible refine' Same.sqT ?ee ?gg); (case ee => walk_at "as"); (case gg => walk_at "tr"))
  | ((with_reducible refine' Same.sqL ?ee ?gg); (case ee => walk_at "as"); (case gg => walk_at "tr"))
  | ((with_reducible refine' Same.at ?ee ?gg); (case ee => walk_at "as"); (case gg => walk_at "tr"))
  | ((with_reducible refine' But.stm ?ee ?ff ?gg); (case ee => walk_at "as"); (case ff => walk_at "ne"); (case gg => walk_at "tr"))
  | ((with_reducible refine' But.tup ?ee ?ff ?gg); (case ee => walk_at "as"); (case ff => walk_at "tr1"); (case gg => walk_at "tr"))
  | ((with_reducible refine' But.sqT ?ee ?ff ?gg); (case ee => walk_at "as"); (case ff => walk_at "tr1"); (case gg => walk_at "tr"))
  | ((with_reducible refine' But.tupL ?ee ?ff ?gg); (case ee => walk_at "as"); (case ff => walk_at "tr1"); (case gg => walk_at "tr"))
  | ((with_reducible refine' But.sqTL ?ee ?ff ?gg); (case ee => walk_at "as"); (case ff => walk_at "tr1"); (case gg => walk_at "tr"))
  | ((with_reducible refine' But.sqL ?ee ?ff ?gg); (case ee => walk_at "as"); (case ff => walk_at "ne"); (case gg => walk_at "tr"))
  | ((with_reducible refine' But.at ?ee ?ff ?gg); (case ee => walk_at "as"); (case ff => walk_at "ne"); (case gg => walk_at "tr")))
local macro_rules | `(tactic| walk_at "ts") => `(tactic| first
  | with_reducible assumption
  | with_reducible exact TS.refl _
  | ((with_reducible refine' TS.trans ?gg (TS.of ?ee)); (case ee => walk_at "as"); (case gg => walk_at "ts"))
  | ((with_reducible refine' TS.trans ?gg (TS.butS ?ee ?ff)); (case ee => walk_at "as"); (case ff => walk_at "tr1"); (case gg => walk_at "ts"))
  | ((with_reducible refine' TS.trans ?gg (TS.butL ?ee ?ff)); (case ee => walk_at "as"); (case ff => walk_at "tr1"); (case gg => walk_at "ts"))
  | ((with_reducible refine' TS.trans ?gg (TS.butI ?ee ?ff)); (case ee => walk_at "as"); (case ff => walk_at "tr1"); (case gg => walk_at "ts")))
local macro_rules | `(tactic| walk_at "sm") => `(tactic| first
  | with_reducible assumption
  | with_reducible exact Same.refl _
  | ((with_reducible refine' Same.trans ?gg ?ee); (case ee => walk_at "as"); (case gg => walk_at "sm"))
  | ((with_reducible refine' But.new ?gg ?nn ?ee); (case ee => walk_at "as"); (case nn => walk_at "fr"); (case gg => walk_at "sm")))
local macro_rules | `(tactic| walk_at "fr") => `(tactic| first
  | with_reducible assumption
  | ((with_reducible refine' Same.back ?ee ?nn); (case nn => walk_at "as"); (case ee => walk_at "sm"))
  | ((with_reducible refine' But.back ?ee ?ff ?nn); (case nn => walk_at "as"); (case ff => walk_at "ne0"); (case ee => walk_at "bu")))
local macro_rules | `(tactic| walk_at "bu") => `(tactic| first
  | with_reducible assumption
  | with_reducible exact But.refl _ _
  | ((with_reducible refine' But.trans ?gg ?ee); (case ee => walk_at "as"); (case gg => walk_at "bu"))
  | ((with_reducible refine' But.trans ?gg (But.of ?ee)); (case ee => walk_at "as"); (case gg => walk_at "bu"))
  | ((with_reducible refine' But.new2 ?gg ?nn ?ee); (case ee => walk_at "as"); (case nn => walk_at "frB"); (case gg => walk_at "bu")))
local macro_rules | `(tactic| walk_at "frB") => `(tactic| first
  | with_reducible assumption
  | ((with_reducible refine' Same.back ?ee ?nn); (case nn => walk_at "as"); (case ee => walk_at "sm"))
  | ((with_reducible refine' But.back' ?ee ?ff ?nn); (case nn => walk_at "as"); (case ee => walk_at "bu"); (case ff => walk_at "tr1")))
local macro_rules | `(tactic| walk_at "tr1") => `(tactic| first
  | with_reducible assumption
  | ((with_reducible refine' Same.stm ?ee ?gg); (case ee => walk_at "as"); (case gg => walk_at "tr1"))
  | ((with_reducible refine' Same.at ?ee ?gg); (case ee => walk_at "as"); (case gg => walk_at "tr1"))
  | ((with_reducible refine' But.at ?ee ?ff ?gg); (case ee => walk_at "as"); (case ff => walk_at "ne0"); (case gg => walk_at "tr1"))
  | ((with_reducible refine' But.stm ?ee ?ff ?gg); (case ee => walk_at "as"); (case ff => walk_at "ne0"); (case gg => walk_at "tr1")))
local macro_rules | `(tactic| walk_at "ne0") => `(tactic| first
  | with_reducible assumption
  | (with_reducible apply Ne.symm; with_reducible assumption))
local macro_rules | `(tactic| walk_at "ne") => `(tactic| first
  | with_reducible assumption
  | (with_reducible apply Ne.symm; with_reducible assumption)
  | ((with_reducible refine' stm_ne ?hh ?nn); (case nn => walk_at "as"); (case hh => walk_at "tr1"))
  | ((with_reducible refine' ne_of_none ?hh ?nn); (case nn => walk_at "as"); (case hh => walk_at "tr1"))
  | ((with_reducible apply Ne.symm); (with_reducible refine' ne_of_none ?hh ?nn); (case nn => walk_at "as"); (case hh => walk_at "tr1")))
local macro_rules | `(tactic| walk_at "v") => `(tactic| first
  | with_reducible refine w_seq ?_
  | ((with_reducible refine' w_var ?vv ?_); (case vv => exact rfl))
  | with_reducible refine w_c ?_
  | with_reducible refine w_op ?_
  | with_reducible refine w_asg ?_
  | with_reducible refine w_gName ?_
  | with_reducible refine w_ret ?_
  | with_reducible refine w_ifS ?_
  | with_reducible refine w_drop ?_
  | with_reducible refine w_next ?_
  | with_reducible refine w_cons ?_
  | with_reducible refine w_nil ?_
  | with_reducible refine w_call ?_
  | with_reducible refine w_cb ?_
  | with_reducible refine w_rI0 ?_
  | with_reducible refine w_addI ?_
  | with_reducible refine w_eqI ?_
  | with_reducible refine w_neI ?_
  | with_reducible refine w_eqS ?_
  | with_reducible refine w_neS ?_
  | with_reducible refine w_eqB ?_
  | with_reducible refine w_neB ?_
  | with_reducible refine w_chain ?_
  | with_reducible refine w_test ?_
  | with_reducible refine w_tB ?_
  | with_reducible refine w_bl ?_
  | ((with_reducible refine' w_mulI ?vv ?_); (case vv => walk_at "side"))
  | ((with_reducible refine' w_rI ?vv ?_); (case vv => walk_at "side"))
  | with_reducible refine w_int1 ?_
  | with_reducible refine w_int1b ?_
  | with_reducible refine w_tup ?_
  | with_reducible refine w_lst ?_
  | with_reducible refine w_un ?_
  | with_reducible refine w_rU ?_
  | with_reducible refine w_not ?_
  | with_reducible refine w_notV ?_
  | with_reducible refine w_ifE ?_
  | with_reducible refine w_nT ?_
  | with_reducible refine w_nF ?_
  | with_reducible refine iteT ?_
  | with_reducible refine iteF ?_
  | ((with_reducible refine' w_ixT ?vv ?ww ?_); (case vv => walk_at "tr"); (case ww => walk_at "ix"))
  | ((with_reducible refine' w_ixL ?vv ?ww ?_); (case vv => walk_at "tr"); (case ww => walk_at "ix"))
  | with_reducible refine w_gSub ?_
  | ((with_reducible refine' w_setL ?vv ?ww ?_); (case vv => walk_at "tr"); (case ww => first | rfl | decide | assumption))
  | ((with_reducible refine' w_lenL ?vv ?_); (case vv => walk_at "tr"))
  | ((with_reducible refine' w_lenT ?vv ?_); (case vv => walk_at "tr"))
  | with_reducible refine w_max2 ?_
  | with_reducible refine w_max3 ?_
  | with_reducible refine w_din ?_
  | with_reducible refine w_dnotin ?_
  | with_reducible refine w_dput ?_
  | with_reducible refine w_min2 ?_
  | with_reducible refine w_bm ?_
  | with_reducible refine w_bm0 ?_
  | ((with_reducible refine' w_tyL ?vv ?_); (case vv => walk_at "tr"))
  | ((with_reducible refine' w_append ?vv ?ww ?_); (case vv => walk_at "tr"); (case ww => walk_at "size"))
  | ((with_reducible refine' w_size ?vv ?_); (case vv => walk_at "size"))
  | with_reducible refine w_forL ?_
  | with_reducible refine w_forT ?_
  | with_reducible refine w_forR1 ?_
  | with_reducible refine w_forR2 ?_
  | with_reducible refine w_lcL ?_
  | with_reducible refine w_lcT ?_
  | with_reducible refine w_lcR1 ?_
  | with_reducible refine w_yes ?_
  | with_reducible refine w_sl ?_
  | with_reducible refine w_noPart ?_
  | with_reducible refine w_part ?_
  | with_reducible refine w_int ?_
  | ((with_reducible refine' w_slL ?vv ?_); (case vv => walk_at "tr"))
  | ((with_reducible refine' w_seqL ?vv ?ww ?_); (case vv => walk_at "tr"); (case ww => rfl))
  | ((with_reducible refine' w_seqT ?vv ?ww ?_); (case vv => walk_at "tr"); (case ww => rfl))
  | with_reducible refine w_gNil ?_
  | with_reducible refine w_gCons ?_
  | with_reducible refine w_forZ ?_
  | with_reducible refine w_forM ?_
  | with_reducible refine w_forE ?_
  | with_reducible refine w_forV ?_
  | with_reducible refine w_lcZ ?_
  | with_reducible refine w_lcE ?_
  | ((with_reducible refine' w_isi (b := true) ?vv ?ww ?_); (case vv => walk_at "ty"); (case ww => decide +kernel))
  | ((with_reducible refine' w_isi (b := false) ?vv ?ww ?_); (case vv => walk_at "ty"); (case ww => decide +kernel))
  | with_reducible refine w_revL ?_
  | with_reducible refine w_pairN ?_
  | with_reducible refine w_pairC ?_
  | with_reducible refine w_dget ?_
  | with_reducible refine w_met ?_
  | ((with_reducible refine' w_metAt ?vv ?ww ?_); (case vv => walk_at "tr"); (case ww => rfl))
  | with_reducible refine w_mkI ?_
  | with_reducible refine w_fld ?_
  | ((with_reducible refine' w_fldAt ?vv ?cc ?nn ?ww ?_); (case vv => walk_at "tr"); (case cc => walk_at "cls"); (case nn => walk_at "na"); (case ww => rfl))
  | with_reducible refine w_sfld ?_
  | ((with_reducible refine' w_sfldAt ?vv ?cc ?nn ?ll ?ee ?_); (case vv => walk_at "tr"); (case cc => walk_at "cls"); (case nn => walk_at "na"); (case ll => simp); (case ee => rfl))
  | ((with_reducible refine' w_tupL ?vv ?_); (case vv => walk_at "tr"))
  | ((with_reducible refine' w_tupT ?vv ?_); (case vv => walk_at "tr"))
  | ((with_reducible refine' w_listL ?vv ?_); (case vv => walk_at "tr"))
  | ((with_reducible refine' w_listT ?vv ?_); (case vv => walk_at "tr"))
  | with_reducible refine w_tyS ?_
  | with_reducible refine w_lcZM ?_
  | with_reducible refine w_js ?_
  | with_reducible refine w_jsN ?_
  | ((with_reducible refine' w_jsP ?vv ?_); (case vv => walk_at "size"))
  | with_reducible refine w_fmt ?_
  | with_reducible refine w_forRR ?_
  | with_reducible refine w_retN ?_
  | with_reducible refine w_break ?_
  | with_reducible refine w_cont ?_)
local macro_rules | `(tactic| walk_at "w") => `(tactic| first
  | walk_at "v"
  | with_reducible refine w_or ?_
  | with_reducible refine w_and ?_
  | with_reducible refine w_andV ?_
  | with_reducible refine w_orV ?_)
local macro_rules | `(tactic| walk_at "wd") => `(tactic| first
  | walk_at "w"
  | ((with_reducible refine' w_decT ?vv ?_); (case vv => decide +kernel))
  | ((with_reducible refine' w_decF ?vv ?_); (case vv => decide +kernel)))
local macro_rules | `(tactic| walk_at "tz") => `(tactic| (intro S z; (repeat walk_at "w"); exact z))
local macro_rules | `(tactic| walk_at "wf") => `(tactic| first
  | walk_at "wd"
  | ((with_reducible refine' w_decF ?vv ?_); (case vv => with_reducible assumption)))
/-! ### k04: the law -/
theorem kinds_ro : kindsB "RowsError" = List.replicate 19 false := by decide +kernel
theorem in_falses : inV (.bl true) ((List.replicate 19 false).map V.bl) = false := by rfl
section
variable {P : Program} {w : World} {K : PySem.W.Frag} {mg : Str → Option Value}
theorem ok_law [c : Facts K mg] (G__law_cell : Fn P w K mg "_law_cell" 1 ["script", "k"] ((spCell K))) (G__law_kinds : Fn P w K mg "_law_kinds" 1 ["error"] ((spKinds K))) (G__law_right : Fn P w K mg "_law_right" 5 ["stream", "k"] ((spRight K))) (G__law_stream : Fn P w K mg "_law_stream" 1 ["cell"] (spStream)) : Fn P w K mg "law" 6 ["script"] ((spLaw K)) := by
  obtain ⟨fd, F⟩ := c.d_law
  refine Fn.mk' F c.g_law sc_law (k := 5) (fun vs H Q E h => ?_) (fun _ _ _ _ _ _ us hl => match us, hl with | [_], _ => rfl) (fun base cdv A outer s H vs Q E hr h => ?_)
  · exact len_law h
  · have nd := sc_law.nd
    have hu := hu_of hr
    have hr__law_cell : Room 1 _ := hr.mono (by omega)
    have hr__law_kinds : Room 1 _ := hr.mono (by omega)
    have hr__law_right : Room 5 _ := hr.mono (by omega)
    have hr__law_stream : Room 1 _ := hr.mono (by omega)
    refine ⟨_, (pss_cons (ps_for PassesOwn.never rfl (pi_range1 (by rfl) c.f_range (pa_cons (pe_callB (call_max2A rfl) (by rfl) c.f_max boot_max (pa_cons pe_int (pa_cons (pe_callB (call_min2A rfl) (by rfl) c.f_min boot_min (pa_cons (pe_callB (call_lenA (K := K) rfl) (by rfl) c.f_len boot_len (pa_cons (pv 0) pa_nil)) (pa_cons pe_int pa_nil))) pa_nil))) pa_nil)) (pg_name (i := 1) nd rfl (Or.inl rfl)) (pss_cons (ps_set (i := 2) nd rfl (Or.inl rfl) (pe_fn G__law_stream hr__law_stream (by rfl) (pa_cons (pe_fn G__law_cell hr__law_cell (by rfl) (pa_cons (pv 0) (pa_cons (pv 1) pa_nil))) pa_nil)))
      (pss_one (ps_for PassesOwn.never rfl (pi_range1 (by rfl) c.f_range (pa_cons pe_int pa_nil)) (pg_name (i := 3) nd rfl (Or.inl rfl)) (pss_one (ps_if (pt_not (pt_val (pe_fn G__law_right hr__law_right (by rfl) (pa_cons (pv 2) (pa_cons (pv 3) pa_nil))))) (pss_one (ps_ret pe_bl)) pss_nil))))))
      (pss_cons (ps_set (i := 4) nd rfl (Or.inl rfl) (EXV.pe_exR (K := K) rfl c.xr_RowsError c.x_RowsError c.gc_RowsError (by rfl) pe_str))
      (pss_one (ps_ret (pe_and (pe_callB (EXV.call_isiE (K := K) rfl) (by rfl) c.f_isinstance boot_isinstance (pa_cons (pv 4) (pa_cons (pe_bltn (v := .ty "ValueError") (by rfl) c.f_ValueError boot_ValueError rfl) pa_nil))) (pe_one (pe_cmpR (op_notInA (K := K) rfl) pe_bl (pe_fn G__law_kinds hr__law_kinds (by rfl) (pa_cons (pv 4) pa_nil)) (by rfl)))))))), ?_⟩
    try dsimp only [cxOf, Cx.nox, Cx.wish]
    obtain ⟨a, ns, rfl, hS, hl, q⟩ := h
    have hz : sizeLine = 16777216 := sizeLine_eq
    repeat walk_at "w"
    refine fl_rng1 (fun i σ H' => ∃ o1 o2 o3, σ = [some (.ref a), o1, o2, o3, none] ∧ SqL K H' a (ns.map V.int)) (by omega) (by omega) ⟨_, _, _, rfl, hS⟩ (fun i σ H1 hi hp => ?_) (fun σ H1 hp => ?_)
    · obtain ⟨o1, o2, o3, rfl, hS1⟩ := hp
      repeat walk_at "w"
      refine ⟨a, ns, i, rfl, hS1, by omega, fun c => ?_⟩
      repeat walk_at "w"
      refine ⟨c, rfl, fun s H2 s2 n2 hs2 => ?_⟩
      repeat walk_at "w"
      refine fl_rng1 (fun j σ H' => ∃ o3, σ = [some (.ref a), some (.int (i : Int)), some (.ref s), o3, none] ∧ SqL K H' a (ns.map V.int) ∧ Stm H' s ∧ Same H1 H') (by decide) (by decide) ⟨_, rfl, s2.sqL hS1, hs2, s2⟩ (fun j σ H3 hj hp => ?_) (fun σ H3 hp => ?_)
      · obtain ⟨o3, rfl, hS3, hs3, s3⟩ := hp
        repeat walk_at "w"
        refine ⟨s, j, rfl, hs3, by have : j < 19 := hj; exact this, fun H4 hs4 e4 => ?_⟩
        have s4 := But.new s3 n2 e4
        repeat walk_at "w"
        exact ⟨_, rfl, s4.sqL hS1, hs4, s4⟩
      · obtain ⟨o3, rfl, hS3, hs3, s3⟩ := hp
        repeat walk_at "w"
        exact ⟨_, _, _, rfl, hS3⟩
    · obtain ⟨o1, o2, o3, rfl, hS1⟩ := hp
      repeat walk_at "w"
      intro p hp
      have hX : ErrX (upd H1 p (ExO (.ref (He.ga K "RowsError")) p)) p (He.ga K "RowsError") := .inr upd_same
      repeat walk_at "w"
      refine ⟨_, _, _, _, true, rfl, .ty "ValueError", hX.ty (ex_all _ (by decide +kernel)).e, Facts.xv _ (by decide +kernel), ?_⟩
      repeat walk_at "w"
      refine ⟨p, "RowsError", rfl, by decide +kernel, hX, fun q1 H2 f2 s2 => ?_⟩
      rw [kinds_ro] at f2
      refine w_niL (SqL.of f2) rfl (by rfl) ?_
      rw [in_falses]
      exact q _
end

end J
namespace J
open PySem PySem.Spec PyProof.Rows L2
theorem all_ok {P : Program} {w : World} {K : PySem.W.Frag} {mg : Str → Option Value} [c : Facts K mg] : Fn P w K mg "law" 6 ["script"] (spLaw K) := by
  have G__law_cell := ok_law_cell (P := P) (w := w) (K := K)
  have G__law_kinds := ok_law_kinds (P := P) (w := w) (K := K)
  have G__law_fields := ok_law_fields (P := P) (w := w) (K := K)
  obtain ⟨fd_BadLine___init__, F_BadLine___init__⟩ := c.dm_BadLine___init__
  have GM_BadLine___init__ := ok_BadLineu_initu (P := P) (w := w) (K := K) F_BadLine___init__
  obtain ⟨fd_BadStep___init__, F_BadStep___init__⟩ := c.dm_BadStep___init__
  have GM_BadStep___init__ := ok_BadStepu_initu (P := P) (w := w) (K := K) F_BadStep___init__
  obtain ⟨fd_Crowded___init__, F_Crowded___init__⟩ := c.dm_Crowded___init__
  have GM_Crowded___init__ := ok_Crowdedu_initu (P := P) (w := w) (K := K) F_Crowded___init__
  obtain ⟨fd_NoBudget___init__, F_NoBudget___init__⟩ := c.dm_NoBudget___init__
  have GM_NoBudget___init__ := ok_NoBudgetu_initu (P := P) (w := w) (K := K) F_NoBudget___init__
  obtain ⟨fd_NoChange___init__, F_NoChange___init__⟩ := c.dm_NoChange___init__
  have GM_NoChange___init__ := ok_NoChangeu_initu (P := P) (w := w) (K := K) F_NoChange___init__
  obtain ⟨fd_NoFit___init__, F_NoFit___init__⟩ := c.dm_NoFit___init__
  have GM_NoFit___init__ := ok_NoFitu_initu (P := P) (w := w) (K := K) F_NoFit___init__
  obtain ⟨fd_NoKind___init__, F_NoKind___init__⟩ := c.dm_NoKind___init__
  have GM_NoKind___init__ := ok_NoKindu_initu (P := P) (w := w) (K := K) F_NoKind___init__
  obtain ⟨fd_NoLine___init__, F_NoLine___init__⟩ := c.dm_NoLine___init__
  have GM_NoLine___init__ := ok_NoLineu_initu (P := P) (w := w) (K := K) F_NoLine___init__
  obtain ⟨fd_NoName___init__, F_NoName___init__⟩ := c.dm_NoName___init__
  have GM_NoName___init__ := ok_NoNameu_initu (P := P) (w := w) (K := K) F_NoName___init__
  obtain ⟨fd_NoPlaces___init__, F_NoPlaces___init__⟩ := c.dm_NoPlaces___init__
  have GM_NoPlaces___init__ := ok_NoPlacesu_initu (P := P) (w := w) (K := K) F_NoPlaces___init__
  obtain ⟨fd_NoRoom___init__, F_NoRoom___init__⟩ := c.dm_NoRoom___init__
  have GM_NoRoom___init__ := ok_NoRoomu_initu (P := P) (w := w) (K := K) F_NoRoom___init__
  obtain ⟨fd_NoRow___init__, F_NoRow___init__⟩ := c.dm_NoRow___init__
  have GM_NoRow___init__ := ok_NoRowu_initu (P := P) (w := w) (K := K) F_NoRow___init__
  obtain ⟨fd_NoSize___init__, F_NoSize___init__⟩ := c.dm_NoSize___init__
  have GM_NoSize___init__ := ok_NoSizeu_initu (P := P) (w := w) (K := K) F_NoSize___init__
  obtain ⟨fd_NoState___init__, F_NoState___init__⟩ := c.dm_NoState___init__
  have GM_NoState___init__ := ok_NoStateu_initu (P := P) (w := w) (K := K) F_NoState___init__
  obtain ⟨fd_NoText___init__, F_NoText___init__⟩ := c.dm_NoText___init__
  have GM_NoText___init__ := ok_NoTextu_initu (P := P) (w := w) (K := K) F_NoText___init__
  obtain ⟨fd_NotPlain___init__, F_NotPlain___init__⟩ := c.dm_NotPlain___init__
  have GM_NotPlain___init__ := ok_NotPlainu_initu (P := P) (w := w) (K := K) F_NotPlain___init__
  obtain ⟨fd_Twice___init__, F_Twice___init__⟩ := c.dm_Twice___init__
  have GM_Twice___init__ := ok_Twiceu_initu (P := P) (w := w) (K := K) F_Twice___init__
  obtain ⟨fd_Unlike___init__, F_Unlike___init__⟩ := c.dm_Unlike___init__
  have GM_Unlike___init__ := ok_Unlikeu_initu (P := P) (w := w) (K := K) F_Unlike___init__
  obtain ⟨fd_Within___init__, F_Within___init__⟩ := c.dm_Within___init__
  have GM_Within___init__ := ok_Withinu_initu (P := P) (w := w) (K := K) F_Within___init__
  have G__law_first := ok_law_first (P := P) (w := w) (K := K) GM_BadLine___init__ GM_BadStep___init__ GM_Crowded___init__ GM_NoBudget___init__ GM_NoChange___init__ GM_NoFit___init__ GM_NoKind___init__ GM_NoLine___init__ GM_NoName___init__ GM_NoPlaces___init__ GM_NoRoom___init__ GM_NoRow___init__ GM_NoSize___init__ GM_NoState___init__ GM_NoText___init__ GM_NotPlain___init__ GM_Twice___init__ GM_Unlike___init__ GM_Within___init__
  have G__law_same := ok_law_same (P := P) (w := w) (K := K)
  have G__law_take := ok_law_take (P := P) (w := w) (K := K)
  have G__law_thing := ok_law_thing (P := P) (w := w) (K := K) G__law_take
  have G__law_right := ok_law_right (P := P) (w := w) (K := K) G__law_fields G__law_first G__law_kinds G__law_same G__law_thing
  have G__law_stream := ok_law_stream (P := P) (w := w) (K := K)
  have G_law := ok_law (P := P) (w := w) (K := K) G__law_cell G__law_kinds G__law_right G__law_stream
  exact G_law
theorem heldF {P : Program} {w : World} {K : PySem.W.Frag} {h : Heap} {mg : Str → Option Value} {f : Addr} (X : K.In h) (G : h.Ns mainGlobals mg) (hfa : mg ("law" : Str) = some (.ref f)) (c : HKS.SaysS fa fn [] exB w K) :
    ∃ fd : FuncData, (∀ (s : Shared) (v : Value), BindsTo s fd ⟨[v], []⟩ [("script", v)]) ∧ ∀ base : Heap, K.In base → base.Ns mainGlobals mg → FnOk P w K mg base CX0 6 f fd ["script"] (spLaw K) := by
  have C := facts_of X G (congrArg (fun z : He.AlT => z.1) c.t) c.more
  have e := hfa.symm.trans C.g_law
  cases e
  obtain ⟨fd, h1, _, h3⟩ := (all_ok (P := P) (w := w) (K := K)).ex
  exact ⟨fd, fun s v => h3 s [v] rfl, fun base _ _ => h1 base⟩
end J
open PySem PySem.W PySem.Calls PyProof.Rows
theorem PySem.Challenge.cw_rowsjoined_k04_refusals_apart_holds : PySem.Challenge.rw_rowsjoined_k04_refusals_apart.Holds := by
  w_on; o_law
  refine HandSHeadRun.head_any (r := J.rowR) (q := view J.rowR.prog [31]) (H := J.hk) (ob := J.ob) (M := 12000) (loose := J.loose) (d := HandSHeadRun.topDef J.rowR.prog 31) (kwd := []) J.ob_eq
    (by kernel_rfl) (fun s => by kernel_rfl) J.run (by kernel_rfl) (by kernel_rfl) (by kernel_rfl) (by rfl) (by first | assumption | decide +kernel) (by decide +kernel) ⟨rfl, rfl, rfl, rfl, rfl, by decide +kernel⟩ ?hw ?hc
  case hw => w_witness2
  case hc =>
    refine L2.walk_ofE (l := PySem.Challenge.rw_rowsjoined_k04_refusals_apart) (n := 63) (k := 6) (x := "script") (CX := L2.CX0) rfl (by decide) (by kernel_rfl) ⟨rfl, by decide, by decide⟩ ?F (fun _ _ _ _ z => z)
    intro w mg fa h Y G hmg0
    obtain ⟨K, KX, c⟩ := Y
    have hmg : mg ("law" : PySem.Str) = some (.ref fa) := by
      have e : (HandSHeadRun.topDef J.rowR.prog 31).name = ("law" : PySem.Str) := by kernel_rfl
      rw [← e]
      exact hmg0
    obtain ⟨fd, hb, hF⟩ := J.heldF (P := (PySem.Challenge.rw_rowsjoined_k04_refusals_apart).prog) (w := w) KX G hmg c
    exact ⟨K, fd, _, KX, hb, fun H a ns hl hO hS => J.law_in hl hO hS, hF⟩
