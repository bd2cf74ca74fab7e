import PyProof.Rows.All
import Wide.All
import OpenK.AllK
import Wide.FinOn
import Lean
import HandS.Base
import HandS.Call
import HandS.Ends
import HandS.EndBits
import HandS.List
import HandS.Comp
import HandS.Iter
import HandS.Text
import HandS.Wide
import HandS.Words
import HandS.WordsList
import HandS.Defaults
import HandS.IsInst
import HandS.Rev
import HandS.TupAny
import HandS.TryOnly
import HandS.Zip
import HandS.Walk
import HandS.Style
import HandS.Flow
import HandS.Head0
import HandS.Head1
import HandS.Head2
import HandS.HeadEnd
import HandS.HeadHook1
import HandS.HeadHook2
import HandS.Codes
import HandS.Replace
import HandS.ReplaceLit
import HandS.SortOrd
import HandS.SortRule
import HandS.TupSets
import HandS.SetFor
import HandS.FStr
import HandS.Flt
import HandS.Sort
import HandS.Conv
import HandS.Dict
import HandS.Zip0
import KE.GoesMore
import HandS.ExcInit
import HandS.ClsMeth
import HandS.ExcIs
import HandS.ExcField
import HandS.ExcValue
import HandS.Exc
import HandS.ExcOwn
import HandS.TryMany
import HandS.HeadHook4
import PySem.Challenge.RW_rowsjoined_k25_chains_as_long
import HandS.More
import HandS.HeadHook3
import HandS.Set
import HandS.Strs
import HandS.SortInts
import HandS.RevRange
import HandS.SetKeys
import KE.KDictKeyed
import KE.KeyNested
import HandS.SortKw
import KE.DataMinMax
set_option Elab.async false
set_option linter.all false
set_option maxRecDepth 100000
set_option maxHeartbeats 4000000
namespace J
open PySem PySem.Spec PyProof.Rows L2

/-! ### frames -/
def But (s : Addr) (H H' : Hp) : Prop := ∀ b o, b ≠ s → H b = some o → H' b = some o
theorem _root_.L2.Same.one {H : Hp} {p : Addr} {o : HO} (h : H p = none) : Same H (upd H p o) := fun a u e => by
  rw [upd_ne (ne_of_none e h)]; exact e
theorem But.of {s : Addr} {H H' : Hp} (e : Same H H') : But s H H' := fun b o _ h => e b o h
theorem But.refl (s : Addr) (H : Hp) : But s H H := fun _ _ _ h => h
theorem But.trans {s : Addr} {H H1 H2 : Hp} (a : But s H H1) (b : But s H1 H2) : But s H H2 := fun c o n h => b c o n (a c o n h)
theorem But.at {s b : Addr} {H H' : Hp} {o : HO} (e : But s H H') (n : b ≠ s) (h : H b = some o) : H' b = some o := e b o n h
theorem But.upd (s : Addr) (H : Hp) (o : HO) : But s H (upd H s o) := fun b u n h => by rw [upd_ne n]; exact h
/-- all that was there stays, what lies at s was not there -/
theorem But.new {s : Addr} {H H1 H2 : Hp} (e : Same H H1) (n : H s = none) (k : But s H1 H2) : Same H H2 := fun b o h => k b o (ne_of_none h n) (e b o h)

theorem But.new2 {s t : Addr} {H H1 H2 : Hp} (e : But s H H1) (n : H t = none) (k : But t H1 H2) : But s H H2 := fun b o hs h => k b o (ne_of_none h n) (e b o hs h)
theorem But.back {s p : Addr} {H H' : Hp} (e : But s H H') (hp : p ≠ s) (h : H' p = none) : H p = none := by
  cases q : H p with
  | none => rfl
  | some o => rw [e p o hp q] at h; cases h
theorem But.back' {s p : Addr} {H H' : Hp} {o : HO} (e : But s H H') (hs : H' s = some o) (h : H' p = none) : H p = none := e.back (fun z => by rw [z, hs] at h; cases h) h
/-- a stream of draws -/
def Stm (H : Hp) (s : Addr) : Prop := ∃ a b c : Int, H s = some (.lst [.int a, .int b, .int c])
theorem stm_ne {s p : Addr} {H : Hp} (h : Stm H s) (n : H p = none) : p ≠ s := fun q => by
  obtain ⟨_, _, _, g⟩ := h
  rw [← q, n] at g
  cases g
theorem But.tup {s b : Addr} {H H' : Hp} {xs : List V} (e : But s H H') (t : Stm H s) (h : H b = some (.tup xs)) : H' b = some (.tup xs) := by
  obtain ⟨_, _, _, t⟩ := t
  exact e b _ (ne_of h t (by intro q; cases q)) h
theorem But.tupL {s b : Addr} {H H' : Hp} {xs ys : List V} (e : But s H H') (t : H s = some (.lst ys)) (h : H b = some (.tup xs)) : H' b = some (.tup xs) := e b _ (ne_of h t (by intro q; cases q)) h
theorem But.sqTL {K : PySem.W.Frag} {s a : Addr} {H H' : Hp} {xs ys : List V} (e : But s H H') (t : H s = some (.lst ys)) (h : SqT K H a xs) : SqT K H' a xs := by
  rcases h with (h | ⟨o, h⟩) | h
  · exact .inl (.inl (e _ _ (ne_of h t (by intro q; cases q)) h))
  · exact .inl (.inr ⟨o, e _ _ (ne_of h t (by intro q; cases q)) h⟩)
  · exact .inr h
theorem But.stm {s a : Addr} {H H' : Hp} (e : But s H H') (n : a ≠ s) (h : Stm H a) : Stm H' a := by
  obtain ⟨x, y, z, h⟩ := h
  exact ⟨x, y, z, e _ _ n h⟩
theorem _root_.L2.Same.back {H H' : Hp} {p : Addr} (e : Same H H') (h : H' p = none) : H p = none := e.free h
theorem But.frz {s b : Addr} {H H' : Hp} {o : Obj} {u : HO} (e : But s H H') (t : Stm H s) (h : H b = some (.frz o u)) : H' b = some (.frz o u) := by
  obtain ⟨_, _, _, t⟩ := t
  exact e b _ (ne_of h t (by intro q; cases q)) h
theorem But.sqT {K : PySem.W.Frag} {s a : Addr} {H H' : Hp} {xs : List V} (e : But s H H') (t : Stm H s) (h : SqT K H a xs) : SqT K H' a xs := by
  rcases h with (h | ⟨o, h⟩) | h
  · exact .inl (.inl (e.tup t h))
  · exact .inl (.inr ⟨o, e.frz t h⟩)
  · exact .inr h
theorem But.sqL {K : PySem.W.Frag} {s a : Addr} {H H' : Hp} {xs : List V} (e : But s H H') (n : a ≠ s) (h : SqL K H a xs) : SqL K H' a xs := by
  rcases h with (h | ⟨o, h⟩) | h
  · exact .inl (.inl (e a _ n h))
  · exact .inl (.inr ⟨o, e a _ n h⟩)
  · exact .inr h
theorem _root_.L2.Same.sqT {K : PySem.W.Frag} {H H' : Hp} {a : Addr} {xs : List V} (e : Same H H') (h : SqT K H a xs) : SqT K H' a xs := by
  rcases h with (h | ⟨o, h⟩) | h
  · exact .inl (.inl (e _ _ h))
  · exact .inl (.inr ⟨o, e _ _ h⟩)
  · exact .inr h
theorem _root_.L2.Same.sqL {K : PySem.W.Frag} {H H' : Hp} {a : Addr} {xs : List V} (e : Same H H') (h : SqL K H a xs) : SqL K H' a xs := e.seq h
theorem _root_.L2.Same.stm {H H' : Hp} {s : Addr} (e : Same H H') (h : Stm H s) : Stm H' s := by
  obtain ⟨a, b, c, h⟩ := h
  exact ⟨a, b, c, e _ _ h⟩
theorem _root_.L2.Same.at {H H' : Hp} {b : Addr} {o : HO} (e : Same H H') (h : H b = some o) : H' b = some o := e b o h
/-- a list that stands, seen past a list changed elsewhere -/
theorem sqL_upd {K : PySem.W.Frag} {H : Hp} {a p : Addr} {o : HO} {xs : List V} (n : a ≠ p) (h : SqL K H a xs) : SqL K (upd H p o) a xs := by
  rcases h with (h | ⟨u, h⟩) | h
  · exact .inl (.inl (by rw [upd_ne n]; exact h))
  · exact .inl (.inr ⟨u, by rw [upd_ne n]; exact h⟩)
  · exact .inr h
theorem sqT_updL {K : PySem.W.Frag} {H : Hp} {a p : Addr} {o : HO} {xs ys : List V} (hp : H p = some (.lst ys)) (h : SqT K H a xs) : SqT K (upd H p o) a xs := by
  rcases h with (h | ⟨u, h⟩) | h
  · exact .inl (.inl (by rw [upd_ne (ne_of h hp (by intro q; cases q))]; exact h))
  · exact .inl (.inr ⟨u, by rw [upd_ne (ne_of h hp (by intro q; cases q))]; exact h⟩)
  · exact .inr h
theorem stm_upd {H : Hp} {a p : Addr} {o : HO} (n : a ≠ p) (h : Stm H a) : Stm (upd H p o) a := by
  obtain ⟨x, y, z, h⟩ := h
  exact ⟨x, y, z, by rw [upd_ne n]; exact h⟩
theorem at_updL {H : Hp} {a p : Addr} {o u : HO} (n : a ≠ p) (h : H a = some u) : upd H p o a = some u := by rw [upd_ne n]; exact h

/-! ### readings, step by step -/
section
variable {K : PySem.W.Frag} {σ : L2.St} {H : Hp} {i : Nat} {v x y z : V} {ta tb tc te tv : TE} {Q : VK} {nx : L2.St → Hp → Prop} {rt : VK} {bk ct : L2.St → Hp → Prop} {t u : TS} {tt tu : TT}
theorem w_seq (k : t ⟨u ⟨nx, rt, bk, ct⟩, rt, bk, ct⟩ σ H) : tSeq t u ⟨nx, rt, bk, ct⟩ σ H := k
theorem w_asg {g : TG} (k : te σ H fun x H1 => g x σ H1 nx) : tAsg te g ⟨nx, rt, bk, ct⟩ σ H := k
theorem w_gName {R : L2.St → Hp → Prop} (k : R (σ.set i (some v)) H) : gName i v σ H R := k
theorem w_ret (k : te σ H rt) : tRet te ⟨nx, rt, bk, ct⟩ σ H := k
theorem w_retN (k : rt .non H) : tRetN ⟨nx, rt, bk, ct⟩ σ H := k
theorem w_drop (k : te σ H fun _ H1 => nx σ H1) : tDrop te ⟨nx, rt, bk, ct⟩ σ H := k
theorem w_next (k : nx σ H) : tNext ⟨nx, rt, bk, ct⟩ σ H := k
theorem w_break (k : bk σ H) : tBreak ⟨nx, rt, bk, ct⟩ σ H := k
theorem w_cont (k : ct σ H) : tCont ⟨nx, rt, bk, ct⟩ σ H := k
theorem w_ifS (k : tt σ H fun b H1 => if b = true then t ⟨nx, rt, bk, ct⟩ σ H1 else u ⟨nx, rt, bk, ct⟩ σ H1) : tIfS tt t u ⟨nx, rt, bk, ct⟩ σ H := k
theorem w_var (h : σ[i]? = some (some v)) (k : Q v H) : tVar i σ H Q := ⟨v, h, k⟩
theorem w_c (k : Q v H) : tC v σ H Q := k
theorem w_op {r : R2} (k : ta σ H fun x H1 => tb σ H1 fun y H2 => r x y H2 Q) : tOp r ta tb σ H Q := k
theorem w_un {r : V → Hp → VK → Prop} (k : ta σ H fun x H1 => r x H1 Q) : tUn r ta σ H Q := k
theorem w_rU {g : Int → V} {n : Int} (k : Q (g n) H) : rU g (.int n) H Q := ⟨n, rfl, k⟩
theorem w_rI0 {g : Int → Int → V} {m n : Int} (k : Q (g m n) H) : rI0 g (.int m) (.int n) H Q := ⟨m, n, rfl, rfl, k⟩
theorem w_rI {C : Int → Int → Prop} {g : Int → Int → V} {m n : Int} (c : C m n) (k : Q (g m n) H) : rI C g (.int m) (.int n) H Q := ⟨m, n, rfl, rfl, c, k⟩
theorem w_nil {R : List V → Hp → Prop} (k : R [] H) : tNil σ H R := k
theorem w_cons {tr : TA} {R : List V → Hp → Prop} (k : te σ H fun x H1 => tr σ H1 fun xs H2 => R (x :: xs) H2) : tCons te tr σ H R := k
/-- a new object -/
def NewO (o : HO) (H : Hp) (Q : VK) : Prop := ∀ p, H p = none → Q (.ref p) (upd H p o)
theorem w_new {o : HO} (k : ∀ p H', H p = none → Same H H' → H' p = some o → Q (.ref p) H') : NewO o H Q := fun p hp => k p _ hp (Same.one hp) upd_same
/-- an object changed -/
def ChgO (l : Addr) (o : HO) (H : Hp) (R : Hp → Prop) : Prop := R (upd H l o)
theorem w_chg {l : Addr} {o : HO} {R : Hp → Prop} (k : ∀ H', But l H H' → H' l = some o → R H') : ChgO l o H R := k _ (But.upd _ _ _) upd_same
theorem w_tup {tr : TA} (k : tr σ H fun xs H1 => xs.length ≤ sizeLine ∧ NewO (.tup xs) H1 Q) : tTup tr σ H Q := k
theorem w_lst {tr : TA} (k : tr σ H fun xs H1 => xs.length ≤ sizeLine ∧ NewO (.lst xs) H1 Q) : tLst tr σ H Q := k
theorem w_cb {r : List V → Hp → VK → Prop} {tr : TA} (k : tr σ H fun vs H1 => r vs H1 Q) : tCB r tr σ H Q := k
theorem w_call {sp : Sp} {E : XK} {tr : TA} (k : tr σ H fun vs H1 => sp vs H1 Q E) : tCall sp [] E tr σ H Q := by
  show tr σ H fun vs H1 => sp (vs ++ []) H1 Q E
  simp only [List.append_nil]
  exact k
theorem w_chain {r r' : R2} (k : ta σ H fun x H1 => tb σ H1 fun y H2 => r x y H2 fun z H3 => ∃ k, z = .bl k ∧ if k = true then tc σ H3 (fun w H4 => r' y w H4 Q) else Q (.bl false) H3) : tChain r r' ta tb tc σ H Q := k
theorem w_test {R : Bool → Hp → Prop} (k : te σ H fun x H' => ∃ b, x = .bl b ∧ R b H') : tTest te σ H R := k
theorem w_tB {R : Bool → Hp → Prop} (k : te σ H fun x H' => ∃ b, x = .bl b ∧ R b H') : tB te σ H R := k
theorem w_bl {b : Bool} {R : Bool → Prop} (k : R b) : ∃ c, V.bl b = .bl c ∧ R c := ⟨b, rfl, k⟩
theorem w_and {R : Bool → Hp → Prop} (k : tt σ H fun c H1 => if c = true then tu σ H1 R else R false H1) : tAnd tt tu σ H R := k
theorem w_or {R : Bool → Hp → Prop} (k : tt σ H fun c H1 => if c = true then R true H1 else tu σ H1 R) : tOr tt tu σ H R := k
theorem w_not {R : Bool → Hp → Prop} (k : tt σ H fun c H1 => R (!c) H1) : tNot tt σ H R := k
theorem w_andV (k : ta σ H fun x H1 => ∃ c, x = .bl c ∧ if c = true then tb σ H1 Q else Q (.bl false) H1) : tAndV ta tb σ H Q := k
theorem w_orV (k : ta σ H fun x H1 => ∃ c, x = .bl c ∧ if c = true then Q (.bl true) H1 else tb σ H1 Q) : tOrV ta tb σ H Q := k
theorem w_ifE (k : tt σ H fun c H1 => if c = true then ta σ H1 Q else tb σ H1 Q) : tIf tt ta tb σ H Q := k
theorem w_notV (k : ta σ H fun x H1 => ∃ c, x = .bl c ∧ Q (.bl (!c)) H1) : tNotV ta σ H Q := k

/-- or, and: of two tests that leave the heap -/
theorem w_orP (p q : Prop) [Decidable p] [Decidable q] {R : Bool → Hp → Prop} (ht : ∀ S : Bool → Hp → Prop, S (decide p) H → tt σ H S) (hu : ∀ S : Bool → Hp → Prop, S (decide q) H → tu σ H S) (k : ∀ b : Bool, (b = true ↔ p ∨ q) → R b H) : tOr tt tu σ H R := by
  refine w_or (ht _ ?_)
  by_cases hp : p
  · rw [decide_eq_true hp]; exact iteT (k _ (by simp [hp]))
  · rw [decide_eq_false hp]; exact iteF (hu _ (k _ (by simp [hp])))
theorem w_andP (p q : Prop) [Decidable p] [Decidable q] {R : Bool → Hp → Prop} (ht : ∀ S : Bool → Hp → Prop, S (decide p) H → tt σ H S) (hu : ∀ S : Bool → Hp → Prop, S (decide q) H → tu σ H S) (k : ∀ b : Bool, (b = true ↔ p ∧ q) → R b H) : tAnd tt tu σ H R := by
  refine w_and (ht _ ?_)
  by_cases hp : p
  · rw [decide_eq_true hp]; exact iteT (hu _ (k _ (by simp [hp])))
  · rw [decide_eq_false hp]; exact iteF (k _ (by simp [hp]))
/-- and, or: first what either answer comes to, where Φ of the heap -/
theorem w_andK (Φ : Hp → Prop) {R : Bool → Hp → Prop} (hR : ∀ b H', Φ H' → R b H') (k : (∀ b H', Φ H' → R b H') → tt σ H fun c H1 => if c = true then tu σ H1 R else R false H1) : tAnd tt tu σ H R := k hR
theorem w_andF (Φ : Hp → Prop) {R : Bool → Hp → Prop} (hR : ∀ H', Φ H' → R false H') (k : (∀ H', Φ H' → R false H') → tt σ H fun c H1 => if c = true then tu σ H1 R else R false H1) : tAnd tt tu σ H R := k hR
theorem w_orK (Φ : Hp → Prop) {R : Bool → Hp → Prop} (hR : ∀ b H', Φ H' → R b H') (k : (∀ b H', Φ H' → R b H') → tt σ H fun c H1 => if c = true then R true H1 else tu σ H1 R) : tOr tt tu σ H R := k hR
theorem w_nT {A B : Prop} (k : B) : if (!true) = true then A else B := k
theorem w_nF {A B : Prop} (k : A) : if (!false) = true then A else B := k
theorem w_decT {p A B : Prop} [Decidable p] (h : p) (k : A) : if decide p = true then A else B := by rw [decide_eq_true h]; exact iteT k
theorem w_decF {p A B : Prop} [Decidable p] (h : ¬ p) (k : B) : if decide p = true then A else B := by rw [decide_eq_false h]; exact iteF k
/-! ### operators, together -/
def rAddS : R2 := fun x y H Q => ∃ i j, x = .str i ∧ y = .str j ∧ i.length + j.length ≤ sizeLine ∧ Q (.str (i ++ j)) H
def rAddA (K : PySem.W.Frag) : R2 := fun x y H Q => rI0 (fun i j => .int (i + j)) x y H Q ∨ (rAddS x y H Q ∨ (rCat x y H Q ∨ rCatT K x y H Q))
theorem op_addA {X : Cx} {K : PySem.W.Frag} (hK : X.K = K) : OpR X (binaryOp .Add) (rAddA K) := by
  subst hK
  exact op_add.or (OpR.or (r := rAddS) op_add_str (op_cat.or op_catT))
theorem w_addI {m n : Int} (k : Q (.int (m + n)) H) : rAddA K (.int m) (.int n) H Q := .inl ⟨m, n, rfl, rfl, k⟩
theorem w_addS {a b : Str} (h : a.length + b.length ≤ sizeLine) (k : Q (.str (a ++ b)) H) : rAddA K (.str a) (.str b) H Q := .inr (.inl ⟨a, b, rfl, rfl, h, k⟩)
theorem w_addL {l b : Addr} {xs zs : List V} (h1 : H l = some (.lst xs)) (h2 : H b = some (.lst zs)) (h : xs.length + zs.length ≤ sizeLine) (k : NewO (.lst (xs ++ zs)) H Q) :
    rAddA K (.ref l) (.ref b) H Q := .inr (.inr (.inl ⟨l, b, xs, zs, rfl, rfl, h1, h2, h, k⟩))
def rMulA : R2 := fun x y H Q => rI CMul (fun i j => .int (i * j)) x y H Q ∨ rRep x y H Q
theorem op_mulA {X : Cx} : OpR X (binaryOp .Mult) rMulA := op_mul.or op_rep
theorem w_mulI {m n : Int} (c : CMul m n) (k : Q (.int (m * n)) H) : rMulA (.int m) (.int n) H Q := .inl ⟨m, n, rfl, rfl, c, k⟩
def rEqA (K : PySem.W.Frag) : R2 := fun x y H Q => rEq x y H Q ∨ rEqD K x y H Q
def rNeA (K : PySem.W.Frag) : R2 := fun x y H Q => rNe x y H Q ∨ rNeD K x y H Q
theorem op_eqA {X : Cx} {K : PySem.W.Frag} (hK : X.K = K) (hu : X.A.units + 64 < cLine) : OpR X (compareOp .Eq) (rEqA K) := by
  subst hK
  exact op_eq.or (op_eqD hu)
theorem op_neA {X : Cx} {K : PySem.W.Frag} (hK : X.K = K) (hu : X.A.units + 64 < cLine) : OpR X (compareOp .NotEq) (rNeA K) := by
  subst hK
  exact op_ne.or (op_neD hu)
theorem w_eqI {m n : Int} (k : Q (.bl (decide (m = n))) H) : rEqA K (.int m) (.int n) H Q := .inl ⟨rfl, by rw [show decide (V.int m = V.int n) = decide (m = n) by rw [dec_int]; rfl]; exact k⟩
theorem w_neI {m n : Int} (k : Q (.bl (!decide (m = n))) H) : rNeA K (.int m) (.int n) H Q := .inl ⟨rfl, by rw [show decide (V.int m = V.int n) = decide (m = n) by rw [dec_int]; rfl]; exact k⟩
theorem w_eqS {m n : Str} (k : Q (.bl (decide (m = n))) H) : rEqA K (.str m) (.str n) H Q := .inl ⟨rfl, by rw [dec_str]; exact k⟩
theorem w_neS {m n : Str} (k : Q (.bl (!decide (m = n))) H) : rNeA K (.str m) (.str n) H Q := .inl ⟨rfl, by rw [dec_str]; exact k⟩
theorem w_eqB {m n : Bool} (k : Q (.bl (m == n)) H) : rEqA K (.bl m) (.bl n) H Q := .inl ⟨rfl, by rw [dec_bl]; exact k⟩
theorem w_neB {m n : Bool} (k : Q (.bl (!(m == n))) H) : rNeA K (.bl m) (.bl n) H Q := .inl ⟨rfl, by rw [dec_bl]; exact k⟩
theorem w_eqD {d e : PyData} (hd : Dp K H x d) (he : Dp K H y e) (sd : SeqAt.shaped d = true) (se : SeqAt.shaped e = true) (k : Q (.bl (PyData.eqv d e)) H) : rEqA K x y H Q := .inr ⟨d, e, hd, he, sd, se, k⟩
theorem w_neD {d e : PyData} (hd : Dp K H x d) (he : Dp K H y e) (sd : SeqAt.shaped d = true) (se : SeqAt.shaped e = true) (k : Q (.bl (!PyData.eqv d e)) H) : rNeA K x y H Q := .inr ⟨d, e, hd, he, sd, se, k⟩
/-- in, of texts and of things in a list or a tuple -/
def rInStr (neg : Bool) : R2 := fun x y H Q => ∃ i j, x = .str i ∧ y = .str j ∧ Q (.bl (if neg then !(!(Builtin.Str.occurrences j i 0 j.length 1).isEmpty) else !(Builtin.Str.occurrences j i 0 j.length 1).isEmpty)) H
def rInA (K : PySem.W.Frag) (neg : Bool) : R2 := fun x y H Q => rIn K neg x y H Q ∨ rInStr neg x y H Q
theorem op_inA {X : Cx} {K : PySem.W.Frag} (hK : X.K = K) : OpR X (compareOp .In) (rInA K false) := by
  subst hK
  exact op_in_seq.or (fun pins s σ H x y v u Q I rx ry h => op_in_str pins s σ H x y v u Q I rx ry h)
theorem op_notInA {X : Cx} {K : PySem.W.Frag} (hK : X.K = K) : OpR X (compareOp .NotIn) (rInA K true) := by
  subst hK
  exact op_notIn_seq.or (fun pins s σ H x y v u Q I rx ry h => op_notIn_str pins s σ H x y v u Q I rx ry h)
theorem w_inL {p : Addr} {xs : List V} (h : SqL K H p xs) (hx : flatV x = true) (ha : xs.all flatV = true) (k : Q (.bl (inV x xs)) H) : rInA K false x (.ref p) H Q := .inl ⟨p, xs, rfl, .inl h, hx, ha, k⟩
theorem w_inT {p : Addr} {xs : List V} (h : SqT K H p xs) (hx : flatV x = true) (ha : xs.all flatV = true) (k : Q (.bl (inV x xs)) H) : rInA K false x (.ref p) H Q := .inl ⟨p, xs, rfl, .inr h, hx, ha, k⟩
theorem w_niL {p : Addr} {xs : List V} (h : SqL K H p xs) (hx : flatV x = true) (ha : xs.all flatV = true) (k : Q (.bl (!inV x xs)) H) : rInA K true x (.ref p) H Q := .inl ⟨p, xs, rfl, .inl h, hx, ha, k⟩
theorem w_niT {p : Addr} {xs : List V} (h : SqT K H p xs) (hx : flatV x = true) (ha : xs.all flatV = true) (k : Q (.bl (!inV x xs)) H) : rInA K true x (.ref p) H Q := .inl ⟨p, xs, rfl, .inr h, hx, ha, k⟩
/-- subscripts -/
theorem ix_any {X : Cx} {K : PySem.W.Frag} (hK : X.K = K) : IxR X (rIx K) := by
  subst hK
  exact ix_seq
theorem w_ixL {p : Addr} {xs : List V} {n : Int} (h : SqL K H p xs) (ha : atI xs n = some v) (k : Q v H) : rIx K (.ref p) (.int n) H Q := .inl ⟨p, xs, n, v, rfl, rfl, h, ha, k⟩
theorem w_ixT {p : Addr} {xs : List V} {n : Int} (h : SqT K H p xs) (ha : atI xs n = some v) (k : Q v H) : rIx K (.ref p) (.int n) H Q := .inr (.inl ⟨p, xs, n, v, rfl, rfl, h, ha, k⟩)
theorem w_ixS {a : Str} {c : Nat} {n : Int} (h : a.length ≤ sizeLine) (ha : atI a.cps.toList n = some c) (k : Q (.str ⟨#[c]⟩) H) : rIx K (.str a) (.int n) H Q := .inr (.inr ⟨a, n, c, rfl, rfl, h, ha, k⟩)
/-! slices -/
def rSlAny (K : PySem.W.Frag) : V → Option Int → Option Int → Hp → VK → Prop := fun x lo hi H Q => rSlL K x lo hi H Q ∨ (rSlS x lo hi H Q ∨ rSlA K x lo hi H Q)
/-- calls -/
def rInt1 : List V → Hp → VK → Prop := fun xs H Q => (∃ i, xs = [.int i] ∧ Q (.int i) H) ∨ ∃ k, xs = [.bl k] ∧ Q (.int (if k then 1 else 0)) H
theorem call_int1A {X : Cx} : CallR X (.type "int") rInt1 := call_int1
theorem w_int1 {n : Int} (k : Q (.int n) H) : rInt1 [.int n] H Q := .inl ⟨n, rfl, k⟩
theorem w_int1b {b : Bool} (k : Q (.int (if b then 1 else 0)) H) : rInt1 [.bl b] H Q := .inr ⟨b, rfl, k⟩
def rLenA (K : PySem.W.Frag) : List V → Hp → VK → Prop := fun xs H Q => ∃ x n, xs = [x] ∧ LenV K x H n ∧ Q (.int n) H
theorem call_lenA {X : Cx} {K : PySem.W.Frag} (hK : X.K = K) : CallR X (.builtin "len") (rLenA K) := by
  subst hK
  exact call_len
theorem w_lenL {p : Addr} {xs : List V} (h : SqL K H p xs) (k : Q (.int xs.length) H) : rLenA K [.ref p] H Q := ⟨_, _, rfl, .inl ⟨xs, h, rfl⟩, k⟩
theorem w_lenT {p : Addr} {xs : List V} (h : SqT K H p xs) (k : Q (.int xs.length) H) : rLenA K [.ref p] H Q := ⟨_, _, rfl, .inr ⟨xs, h, rfl⟩, k⟩
theorem w_lenS {a : Str} (h : a.length ≤ sizeLine) (k : Q (.int a.length) H) : rLenA K [.str a] H Q := ⟨_, _, rfl, ⟨h, rfl⟩, k⟩
def rAbsA : List V → Hp → VK → Prop := fun xs H Q => ∃ i, xs = [.int i] ∧ Q (.int (if i < 0 then -i else i)) H
theorem call_absA {X : Cx} : CallR X (.builtin "abs") rAbsA := call_abs
def rMax2 : List V → Hp → VK → Prop := fun xs H Q => ∃ i j, xs = [.int i, .int j] ∧ Q (.int (if j > i then j else i)) H
def rMin2 : List V → Hp → VK → Prop := fun xs H Q => ∃ i j, xs = [.int i, .int j] ∧ Q (.int (if j < i then j else i)) H
theorem call_max2A {X : Cx} (hc : X.calm = true) : CallR X (.builtin "max") rMax2 := call_max2 hc
theorem call_min2A {X : Cx} (hc : X.calm = true) : CallR X (.builtin "min") rMin2 := call_min2 hc
theorem max_if (i j : Int) : (if j > i then j else i) = max i j := by split <;> omega
theorem min_if (i j : Int) : (if j < i then j else i) = min i j := by split <;> omega
theorem w_max2 {i j : Int} (k : Q (.int (max i j)) H) : rMax2 [.int i, .int j] H Q := ⟨i, j, rfl, by rw [max_if]; exact k⟩
theorem w_min2 {i j : Int} (k : Q (.int (min i j)) H) : rMin2 [.int i, .int j] H Q := ⟨i, j, rfl, by rw [min_if]; exact k⟩
def rBool1 : List V → Hp → VK → Prop := fun xs H Q => (∃ i, xs = [.int i] ∧ Q (.bl (i != 0)) H) ∨ ∃ k, xs = [.bl k] ∧ Q (.bl k) H
theorem call_bool1A {X : Cx} : CallR X (.type "bool") rBool1 := call_bool1
def rStrI : List V → Hp → VK → Prop := fun xs H Q => ∃ i, xs = [.int i] ∧ i.natAbs.log2 < 1920 ∧ Q (.str (toString i)) H
theorem call_strA {X : Cx} : CallR X (.type "str") rStrI := call_str_int
theorem w_strI {n : Int} (h : n.natAbs.log2 < 1920) (k : Q (.str (toString n)) H) : rStrI [.int n] H Q := ⟨n, rfl, h, k⟩
theorem w_size {xs : List V} {R : Prop} (h : xs.length ≤ sizeLine) (k : R) : xs.length ≤ sizeLine ∧ R := ⟨h, k⟩
/-- stores by place -/
theorem w_gSub {to ti : TE} {ts : TSet} {R : L2.St → Hp → Prop} (k : to σ H fun o H1 => ti σ H1 fun i H2 => ts o i v H2 fun H3 => R σ H3) : gSub to ti ts v σ H R := k
theorem w_setL {l : Addr} {xs : List V} {n : Int} {j : Nat} {R : Hp → Prop} (h : H l = some (.lst xs)) (hj : ixN xs.length n = some j) (k : ChgO l (.lst (xs.set j v)) H R) : rSetL (.ref l) (.int n) v H R := ⟨l, xs, n, j, rfl, rfl, h, hj, k⟩
/-- methods of lists -/
theorem w_bm {T : String} {r : V → List V → Hp → VK → Prop} {tr : TA} (k : ta σ H fun x H1 => tyV K T x H1 ∧ tr σ H1 fun xs H2 => r x xs H2 Q) : tBM K T r ta tr σ H Q := k
theorem w_bm0 {T : String} {r : V → List V → Hp → VK → Prop} (k : ta σ H fun x H1 => tyV K T x H1 ∧ r x [] H1 Q) : tBM0 K T r ta σ H Q := k
theorem w_tyL {p : Addr} {xs : List V} {R : Prop} (h : SqL K H p xs) (k : R) : tyV K "list" (.ref p) H ∧ R := ⟨.inl ⟨rfl, xs, h⟩, k⟩
theorem w_tyS {a : Str} {R : Prop} (k : R) : tyV K "str" (.str a) H ∧ R := ⟨rfl, k⟩
theorem w_append {l : Addr} {xs : List V} (h : H l = some (.lst xs)) (hz : xs.length < sizeLine) (k : ChgO l (.lst (xs ++ [v])) H (Q .non)) : rAppend (.ref l) [v] H Q := ⟨l, xs, v, rfl, rfl, h, hz, k⟩
theorem w_clear {l : Addr} {xs : List V} (h : H l = some (.lst xs)) (k : ChgO l (.lst []) H (Q .non)) : rClear (.ref l) [] H Q := ⟨l, xs, rfl, rfl, h, k⟩
end

/-! ### loops -/
section
variable {K : PySem.W.Frag} {σ : L2.St} {H : Hp} {a D : Addr} {xs : List V} {g : TG} {tb : TS} {nx : L2.St → Hp → Prop} {rt : VK} {bk ct : L2.St → Hp → Prop} {tl te : TE} {ta : TA} {tt : TT} {Q : VK} {vs : List Nat} {j : Nat}
def WFor (J : It) (g : TG) (tb : TS) (nx : L2.St → Hp → Prop) (rt : VK) (σ : L2.St) (H : Hp) : Prop := ∃ W : Nat → Nat → L2.St → Hp → Prop, (∃ m, W 0 m σ H) ∧ ∀ i m σ H, W i m σ H →
  (J.stop i H ∧ nx σ H) ∨ (J.go i H ∧ ∃ N : L2.St → Hp → Prop, (∀ σ' H', N σ' H' → ∃ m', m' < m ∧ W (i + 1) m' σ' H') ∧ ∀ x H', J.yld i H x H' → g x σ H' fun σ2 H2 => tb ⟨N, rt, nx, N⟩ σ2 H2)
theorem w_forL (k : tl σ H fun x H1 => ∃ a, x = .ref a ∧ (∃ xs, SqL K H1 a xs) ∧ WFor (Itl K a) g tb nx rt σ H1) : tFor (iList K tl) g tb ⟨nx, rt, bk, ct⟩ σ H := k
theorem w_forT (k : tl σ H fun x H1 => ∃ a, x = .ref a ∧ (∃ xs, SqT K H1 a xs) ∧ WFor (Itt K a) g tb nx rt σ H1) : tFor (iTup K tl) g tb ⟨nx, rt, bk, ct⟩ σ H := k
theorem w_forR1 (k : ta σ H fun vs H1 => ∃ j : Int, vs = [.int j] ∧ -(2 ^ 62) ≤ j ∧ j < 2 ^ 62 ∧ WFor (Itr 0 j.toNat) g tb nx rt σ H1) : tFor (iRng1 ta) g tb ⟨nx, rt, bk, ct⟩ σ H := k
theorem w_forR2 (k : ta σ H fun vs H1 => ∃ i j : Int, vs = [.int i, .int j] ∧ (-(2 ^ 62) ≤ i ∧ i < 2 ^ 62 ∧ -(2 ^ 62) ≤ j ∧ j < 2 ^ 62) ∧ WFor (Itr i (j - i).toNat) g tb nx rt σ H1) : tFor (iRng2 ta) g tb ⟨nx, rt, bk, ct⟩ σ H := k
/-- over a list that stands: the word by the turn, the slots, the heap -/
theorem fl_list (xs : List V) (Pv : Nat → L2.St → Hp → Prop) (hS : SqL K H a xs) (h0 : Pv 0 σ H) (hl : ∀ i σ H, i ≤ xs.length → Pv i σ H → SqL K H a xs)
    (hs : ∀ i x σ H, xs[i]? = some x → Pv i σ H → g x σ H fun σ2 H2 => tb ⟨Pv (i + 1), rt, nx, Pv (i + 1)⟩ σ2 H2) (hd : ∀ σ H, Pv xs.length σ H → nx σ H) :
    ∃ b, V.ref a = .ref b ∧ (∃ xs, SqL K H b xs) ∧ WFor (Itl K b) g tb nx rt σ H := ⟨a, rfl, ⟨xs, hS⟩, for_list (D := ⟨nx, rt, fun _ _ => False, fun _ _ => False⟩) Pv h0 hl hs hd⟩
theorem fl_tup (xs : List V) (Pv : Nat → L2.St → Hp → Prop) (hS : SqT K H a xs) (h0 : Pv 0 σ H) (hl : ∀ i σ H, i ≤ xs.length → Pv i σ H → SqT K H a xs)
    (hs : ∀ i x σ H, xs[i]? = some x → Pv i σ H → g x σ H fun σ2 H2 => tb ⟨Pv (i + 1), rt, nx, Pv (i + 1)⟩ σ2 H2) (hd : ∀ σ H, Pv xs.length σ H → nx σ H) :
    ∃ b, V.ref a = .ref b ∧ (∃ xs, SqT K H b xs) ∧ WFor (Itt K b) g tb nx rt σ H := ⟨a, rfl, ⟨xs, hS⟩, for_tup (D := ⟨nx, rt, fun _ _ => False, fun _ _ => False⟩) Pv h0 hl hs hd⟩
theorem fl_rng1 {n : Int} (Pv : Nat → L2.St → Hp → Prop) (hb : n < 2 ^ 62) (hb0 : -(2 ^ 62) ≤ n) (h0 : Pv 0 σ H)
    (hs : ∀ i σ H, i < n.toNat → Pv i σ H → g (.int (i : Int)) σ H fun σ2 H2 => tb ⟨Pv (i + 1), rt, nx, Pv (i + 1)⟩ σ2 H2) (hd : ∀ σ H, Pv n.toNat σ H → nx σ H) :
    ∃ j : Int, [V.int n] = [.int j] ∧ -(2 ^ 62) ≤ j ∧ j < 2 ^ 62 ∧ WFor (Itr 0 j.toNat) g tb nx rt σ H := by
  refine ⟨n, rfl, hb0, hb, for_range (D := ⟨nx, rt, fun _ _ => False, fun _ _ => False⟩) Pv h0 (fun i σ H hi p => ?_) hd⟩
  rw [Int.zero_add]
  exact hs i σ H hi p
theorem fl_rng2 {m n : Int} (Pv : Nat → L2.St → Hp → Prop) (hb : -(2 ^ 62) ≤ m ∧ m < 2 ^ 62 ∧ -(2 ^ 62) ≤ n ∧ n < 2 ^ 62) (h0 : Pv 0 σ H)
    (hs : ∀ i σ H, i < (n - m).toNat → Pv i σ H → g (.int (m + (i : Int))) σ H fun σ2 H2 => tb ⟨Pv (i + 1), rt, nx, Pv (i + 1)⟩ σ2 H2) (hd : ∀ σ H, Pv (n - m).toNat σ H → nx σ H) :
    ∃ i j : Int, [V.int m, V.int n] = [.int i, .int j] ∧ (-(2 ^ 62) ≤ i ∧ i < 2 ^ 62 ∧ -(2 ^ 62) ≤ j ∧ j < 2 ^ 62) ∧ WFor (Itr i (j - i).toNat) g tb nx rt σ H :=
  ⟨m, n, rfl, hb, for_range (D := ⟨nx, rt, fun _ _ => False, fun _ _ => False⟩) Pv h0 hs hd⟩
/-- over a short list, turn by turn -/
def runL (K : PySem.W.Frag) (a : Addr) (all : List V) (g : TG) (tb : TS) (nx : L2.St → Hp → Prop) (rt : VK) : List V → L2.St → Hp → Prop
  | [], σ, H => nx σ H
  | x :: r, σ, H => g x σ H fun σ2 H2 => tb ⟨fun σ' H' => SqL K H' a all ∧ runL K a all g tb nx rt r σ' H', rt, nx, fun σ' H' => SqL K H' a all ∧ runL K a all g tb nx rt r σ' H'⟩ σ2 H2
theorem fl_run (xs : List V) (hS : SqL K H a xs) (k : runL K a xs g tb nx rt xs σ H) : ∃ b, V.ref a = .ref b ∧ (∃ xs, SqL K H b xs) ∧ WFor (Itl K b) g tb nx rt σ H := by
  refine fl_list xs (fun i σ H => SqL K H a xs ∧ runL K a xs g tb nx rt (xs.drop i) σ H) hS ⟨hS, by rw [List.drop_zero]; exact k⟩ (fun _ _ _ _ h => h.1) (fun i x σ H hi h => ?_) (fun σ H h => ?_)
  · have e : xs.drop i = x :: xs.drop (i + 1) := by
      obtain ⟨hl, rfl⟩ := List.getElem?_eq_some_iff.mp hi
      exact List.drop_eq_getElem_cons hl
    have h2 := h.2
    rw [e] at h2
    exact h2
  · have h2 := h.2
    rw [List.drop_length] at h2
    exact h2
theorem w_runN (k : nx σ H) : runL K a xs g tb nx rt [] σ H := k
theorem w_runC {x : V} {r : List V} (k : g x σ H fun σ2 H2 => tb ⟨fun σ' H' => SqL K H' a xs ∧ runL K a xs g tb nx rt r σ' H', rt, nx, fun σ' H' => SqL K H' a xs ∧ runL K a xs g tb nx rt r σ' H'⟩ σ2 H2) :
    runL K a xs g tb nx rt (x :: r) σ H := k
/-- the first of two, by what stands -/
theorem w_both {A B : Prop} (h : A) (k : B) : A ∧ B := ⟨h, k⟩
/-! comprehensions -/
def WLc (J : It) (g : TG) (tt : TT) (te : TE) (vs : List Nat) (σ : L2.St) (D : Addr) (H1 : Hp) (Q : VK) : Prop := ∃ W : Nat → Nat → Hp → Prop, (∃ m, W 0 m (upd H1 D (.lst []))) ∧ ∀ i m H, W i m H →
  (J.stop i H ∧ Q (.ref D) H) ∨ (J.go i H ∧ ∃ Nx : Hp → Prop, (∀ H', Nx H' → ∃ m', m' < m ∧ W (i + 1) m' H') ∧ ∀ x H', J.yld i H x H' → g x (wipe σ vs) H' fun σ2 H2 => wipe σ2 vs = wipe σ vs ∧ tt σ2 H2 fun b H3 =>
    if b = true then te σ2 H3 fun y H4 => ∃ acc, H4 D = some (.lst acc) ∧ acc.length < sizeLine ∧ Nx (upd H4 D (.lst (acc ++ [y]))) else Nx H3)
theorem w_lcL (k : tl σ H fun x H1 => ∃ a, x = .ref a ∧ (∃ xs, SqL K H1 a xs) ∧ ∀ D, H1 D = none → WLc (Itl K a) g tt te vs σ D H1 Q) : tLc (iList K tl) g tt te vs σ H Q := k
theorem w_lcT (k : tl σ H fun x H1 => ∃ a, x = .ref a ∧ (∃ xs, SqT K H1 a xs) ∧ ∀ D, H1 D = none → WLc (Itt K a) g tt te vs σ D H1 Q) : tLc (iTup K tl) g tt te vs σ H Q := k
theorem w_lcR1 (k : ta σ H fun us H1 => ∃ j : Int, us = [.int j] ∧ -(2 ^ 62) ≤ j ∧ j < 2 ^ 62 ∧ ∀ D, H1 D = none → WLc (Itr 0 j.toNat) g tt te vs σ D H1 Q) : tLc (iRng1 ta) g tt te vs σ H Q := k
theorem wipe1 (σ : L2.St) (j : Nat) (x : Option V) : wipe ((wipe σ [j]).set j x) [j] = wipe σ [j] := by
  show (((σ.set j none).set j x).set j none) = σ.set j none
  rw [List.set_set, List.set_set]
def LcEnd (D : Addr) (Pv : Nat → List V → Hp → Prop) (i : Nat) (y : V) (H4 : Hp) : Prop := ∃ acc, H4 D = some (.lst acc) ∧ acc.length < sizeLine ∧
  ∃ ys, ys.length ≤ i + 1 ∧ upd H4 D (.lst (acc ++ [y])) D = some (.lst ys) ∧ Pv (i + 1) ys (upd H4 D (.lst (acc ++ [y])))
theorem lc_end {D : Addr} {Pv : Nat → List V → Hp → Prop} {i : Nat} {y : V} {H4 : Hp} {ys : List V} (h : H4 D = some (.lst ys)) (hl : ys.length ≤ i) (hz : ys.length < sizeLine) (k : ∀ H', But D H4 H' → H' D = some (.lst (ys ++ [y])) → Pv (i + 1) (ys ++ [y]) H') : LcEnd D Pv i y H4 :=
  ⟨ys, h, hz, ys ++ [y], by rw [List.length_append]; exact Nat.succ_le_succ hl, upd_same, k _ (But.upd _ _ _) upd_same⟩
def LcSkip (D : Addr) (Pv : Nat → List V → Hp → Prop) (i : Nat) (H4 : Hp) : Prop := ∃ ys, ys.length ≤ i + 1 ∧ H4 D = some (.lst ys) ∧ Pv (i + 1) ys H4
theorem lc_skip {D : Addr} {Pv : Nat → List V → Hp → Prop} {i : Nat} {H4 : Hp} {ys : List V} (h : H4 D = some (.lst ys)) (hl : ys.length ≤ i) (k : Pv (i + 1) ys H4) : LcSkip D Pv i H4 := ⟨ys, Nat.le_succ_of_le hl, h, k⟩
/-- over a list: the word by the turn, the list so far, the heap; any test -/
theorem lc_L (xs : List V) (Pv : Addr → Nat → List V → Hp → Prop) (hS : SqL K H a xs) (h0 : ∀ D H', H D = none → Same H H' → H' D = some (.lst []) → Pv D 0 [] H')
    (hl : ∀ D, H D = none → ∀ i ys H', i ≤ xs.length → H' D = some (.lst ys) → Pv D i ys H' → SqL K H' a xs)
    (hs : ∀ D, H D = none → ∀ i x ys H', xs[i]? = some x → ys.length ≤ i → H' D = some (.lst ys) → Pv D i ys H' → tt ((wipe σ [j]).set j (some x)) H' fun b H3 => if b = true then te ((wipe σ [j]).set j (some x)) H3 fun y H4 => LcEnd D (Pv D) i y H4 else LcSkip D (Pv D) i H3)
    (hd : ∀ D, H D = none → ∀ ys H', ys.length ≤ xs.length → H' D = some (.lst ys) → Pv D xs.length ys H' → Q (.ref D) H') :
    ∃ b, V.ref a = .ref b ∧ (∃ xs, SqL K H b xs) ∧ ∀ D, H D = none → WLc (Itl K b) (gName j) tt te [j] σ D H Q :=
  ⟨a, rfl, ⟨xs, hS⟩, fun D hD => lc_list (xs := xs) (fun i H' => ∃ ys, ys.length ≤ i ∧ H' D = some (.lst ys) ∧ Pv D i ys H') ⟨[], Nat.le_refl _, upd_same, h0 D _ hD (Same.one hD) upd_same⟩ (fun i H' hi ⟨ys, _, e, p⟩ => hl D hD i ys H' hi e p)
    (fun i x H' hi ⟨ys, e, e2, p⟩ => ⟨wipe1 _ _ _, hs D hD i x ys H' hi e e2 p⟩) (fun H' ⟨ys, e, e2, p⟩ => hd D hD ys H' e e2 p)⟩
theorem lc_T (xs : List V) (Pv : Addr → Nat → List V → Hp → Prop) (hS : SqT K H a xs) (h0 : ∀ D H', H D = none → Same H H' → H' D = some (.lst []) → Pv D 0 [] H')
    (hl : ∀ D, H D = none → ∀ i ys H', i ≤ xs.length → H' D = some (.lst ys) → Pv D i ys H' → SqT K H' a xs)
    (hs : ∀ D, H D = none → ∀ i x ys H', xs[i]? = some x → ys.length ≤ i → H' D = some (.lst ys) → Pv D i ys H' → tt ((wipe σ [j]).set j (some x)) H' fun b H3 => if b = true then te ((wipe σ [j]).set j (some x)) H3 fun y H4 => LcEnd D (Pv D) i y H4 else LcSkip D (Pv D) i H3)
    (hd : ∀ D, H D = none → ∀ ys H', ys.length ≤ xs.length → H' D = some (.lst ys) → Pv D xs.length ys H' → Q (.ref D) H') :
    ∃ b, V.ref a = .ref b ∧ (∃ xs, SqT K H b xs) ∧ ∀ D, H D = none → WLc (Itt K b) (gName j) tt te [j] σ D H Q :=
  ⟨a, rfl, ⟨xs, hS⟩, fun D hD => lc_tup (xs := xs) (fun i H' => ∃ ys, ys.length ≤ i ∧ H' D = some (.lst ys) ∧ Pv D i ys H') ⟨[], Nat.le_refl _, upd_same, h0 D _ hD (Same.one hD) upd_same⟩ (fun i H' hi ⟨ys, _, e, p⟩ => hl D hD i ys H' hi e p)
    (fun i x H' hi ⟨ys, e, e2, p⟩ => ⟨wipe1 _ _ _, hs D hD i x ys H' hi e e2 p⟩) (fun H' ⟨ys, e, e2, p⟩ => hd D hD ys H' e e2 p)⟩
theorem lc_R1 {n : Int} (Pv : Addr → Nat → List V → Hp → Prop) (hb0 : -(2 ^ 62) ≤ n) (hb : n < 2 ^ 62) (h0 : ∀ D H', H D = none → Same H H' → H' D = some (.lst []) → Pv D 0 [] H')
    (hs : ∀ D, H D = none → ∀ (i : Nat) ys H', i < n.toNat → ys.length ≤ i → H' D = some (.lst ys) → Pv D i ys H' → tt ((wipe σ [j]).set j (some (.int (i : Int)))) H' fun b H3 => if b = true then te ((wipe σ [j]).set j (some (.int (i : Int)))) H3 fun y H4 => LcEnd D (Pv D) i y H4 else LcSkip D (Pv D) i H3)
    (hd : ∀ D, H D = none → ∀ ys H', ys.length ≤ n.toNat → H' D = some (.lst ys) → Pv D n.toNat ys H' → Q (.ref D) H') :
    ∃ m : Int, [V.int n] = [.int m] ∧ -(2 ^ 62) ≤ m ∧ m < 2 ^ 62 ∧ ∀ D, H D = none → WLc (Itr 0 m.toNat) (gName j) tt te [j] σ D H Q :=
  ⟨n, rfl, hb0, hb, fun D hD => lc_range (lo := 0) (n := n.toNat) (fun i H' => ∃ ys, ys.length ≤ i ∧ H' D = some (.lst ys) ∧ Pv D i ys H') ⟨[], Nat.le_refl _, upd_same, h0 D _ hD (Same.one hD) upd_same⟩
    (fun i H' hi ⟨ys, e, e2, p⟩ => by
      rw [Int.zero_add]
      exact ⟨wipe1 _ _ _, hs D hD i ys H' hi e e2 p⟩) (fun H' ⟨ys, e, e2, p⟩ => hd D hD ys H' e e2 p)⟩
theorem w_yes {R : Bool → Hp → Prop} (k : R true H) : tYes σ H R := k
end

/-! ### data -/
mutual
/-- data of None, ints, texts, lists, tuples, not too deep: what == tells of it is whether it is the same -/
def clean : PyData → Bool
  | .none => true
  | .int _ => true
  | .str x => PyData.strOk x
  | .list xs => cleanAll xs
  | .tuple xs => cleanAll xs
  | .bool _ => false
  | .dict _ => false
def cleanAll : List PyData → Bool
  | [] => true
  | x :: xs => clean x && cleanAll xs
end
mutual
theorem clean_lay : ∀ d : PyData, clean d = true → d.canLay0 = true
  | .none, _ => by rw [PyData.canLay0]
  | .int _, _ => by rw [PyData.canLay0]
  | .str x, h => by rw [PyData.canLay0]; rw [clean] at h; exact h
  | .list xs, h => by rw [PyData.canLay0]; rw [clean] at h; exact cleanAll_lay xs h
  | .tuple xs, h => by rw [PyData.canLay0]; rw [clean] at h; exact cleanAll_lay xs h
  | .bool _, h => by rw [clean] at h; cases h
  | .dict _, h => by rw [clean] at h; cases h
theorem cleanAll_lay : ∀ ds : List PyData, cleanAll ds = true → PyData.canLayAll0 ds = true
  | [], _ => by rw [PyData.canLayAll0]
  | x :: xs, h => by
    rw [cleanAll, Bool.and_eq_true] at h
    rw [PyData.canLayAll0, clean_lay x h.1, cleanAll_lay xs h.2]; rfl
end
mutual
theorem clean_eqv : ∀ d e : PyData, clean d = true → clean e = true → (PyData.eqv d e = true ↔ d = e)
  | .none, e, _, _ => by cases e <;> simp [PyData.eqv]
  | .int i, e, _, he => by cases e <;> simp [PyData.eqv]; simp [clean] at he
  | .str x, e, _, _ => by cases e <;> simp [PyData.eqv]
  | .list xs, e, h, he => by
    cases e <;> simp [PyData.eqv]
    simp only [clean] at h he
    exact cleanAll_eqv xs _ h he
  | .tuple xs, e, h, he => by
    cases e <;> simp [PyData.eqv]
    simp only [clean] at h he
    exact cleanAll_eqv xs _ h he
  | .bool _, _, h, _ => by simp [clean] at h
  | .dict _, _, h, _ => by simp [clean] at h
theorem cleanAll_eqv : ∀ ds es : List PyData, cleanAll ds = true → cleanAll es = true → (PyData.eqvAll ds es = true ↔ ds = es)
  | [], es, _, _ => by cases es <;> simp [PyData.eqvAll]
  | x :: xs, [], _, _ => by simp [PyData.eqvAll]
  | x :: xs, y :: ys, h, he => by
    simp only [cleanAll, Bool.and_eq_true] at h he
    simp only [PyData.eqvAll, Bool.and_eq_true, clean_eqv x y h.1 he.1, cleanAll_eqv xs ys h.2 he.2, List.cons.injEq]
end
/-- to be compared by == -/
structure Cmp (d : PyData) : Prop where
  clean : clean d = true
  depth : d.depth ≤ 64
theorem Cmp.shaped {d : PyData} (c : Cmp d) : SeqAt.shaped d = true := by
  unfold SeqAt.shaped
  rw [clean_lay d c.clean, Bool.true_and, decide_eq_true_eq]
  exact c.depth
theorem eqv_iff {d e : PyData} (c : Cmp d) (c' : Cmp e) : PyData.eqv d e = true ↔ d = e := clean_eqv d e c.clean c'.clean
open Classical in
theorem w_eqP {K : PySem.W.Frag} {H : Hp} {x y : V} {Q : VK} {d e : PyData} (hd : Dp K H x d) (he : Dp K H y e) (cd : Cmp d) (ce : Cmp e) (k : ∀ b : Bool, (b = true ↔ d = e) → Q (.bl b) H) : rEqA K x y H Q :=
  w_eqD hd he cd.shaped ce.shaped (k _ (eqv_iff cd ce))
theorem w_neP {K : PySem.W.Frag} {H : Hp} {x y : V} {Q : VK} {d e : PyData} (hd : Dp K H x d) (he : Dp K H y e) (cd : Cmp d) (ce : Cmp e) (k : ∀ b : Bool, (b = true ↔ d ≠ e) → Q (.bl b) H) : rNeA K x y H Q :=
  w_neD hd he cd.shaped ce.shaped (k _ (by
    have h := eqv_iff cd ce
    cases hb : PyData.eqv d e <;> rw [hb] at h <;> simp at h ⊢ <;> exact h))
theorem dpAll_ints {K : PySem.W.Frag} {H : Hp} : ∀ ns : List Int, DpAll K H (ns.map V.int) (ns.map PyData.int)
  | [] => .nil
  | n :: ns => .cons (.int n) (dpAll_ints ns)
theorem dp_ints {K : PySem.W.Frag} {H : Hp} {a : Addr} {ns : List Int} (h : SqL K H a (ns.map V.int)) : Dp K H (.ref a) (.list (ns.map PyData.int)) := .lst h (dpAll_ints ns)
theorem cleanAll_ints : ∀ ns : List Int, cleanAll (ns.map PyData.int) = true
  | [] => by simp [cleanAll]
  | n :: ns => by rw [List.map_cons, cleanAll, cleanAll_ints ns, clean]; rfl
theorem depthAll_ints : ∀ ns : List Int, PyData.depthAll (ns.map PyData.int) = 0
  | [] => by simp [PyData.depthAll]
  | n :: ns => by rw [List.map_cons, PyData.depthAll, depthAll_ints ns, PyData.depth]; rfl
theorem cmp_ints (ns : List Int) : Cmp (.list (ns.map PyData.int)) := ⟨by rw [clean]; exact cleanAll_ints ns, by rw [PyData.depth, depthAll_ints]; decide⟩
theorem map_int_inj {ns ms : List Int} : PyData.list (ns.map PyData.int) = .list (ms.map PyData.int) ↔ ns = ms := by
  constructor
  · intro h
    have h2 : ns.map PyData.int = ms.map PyData.int := by injection h
    exact (List.map_inj_right (f := PyData.int) (fun x y e => by injection e)).mp h2
  · intro h; rw [h]
theorem w_eqIL {K : PySem.W.Frag} {H : Hp} {p q : Addr} {Q : VK} {ns ms : List Int} (h1 : SqL K H p (ns.map V.int)) (h2 : SqL K H q (ms.map V.int)) (k : Q (.bl (decide (ns = ms))) H) : rEqA K (.ref p) (.ref q) H Q :=
  w_eqP (dp_ints h1) (dp_ints h2) (cmp_ints _) (cmp_ints _) fun b hb => by
    rw [map_int_inj] at hb
    rw [show b = decide (ns = ms) by rw [Bool.eq_iff_iff, hb, decide_eq_true_eq]]
    exact k
theorem w_neIL {K : PySem.W.Frag} {H : Hp} {p q : Addr} {Q : VK} {ns ms : List Int} (h1 : SqL K H p (ns.map V.int)) (h2 : SqL K H q (ms.map V.int)) (k : Q (.bl (!decide (ns = ms))) H) : rNeA K (.ref p) (.ref q) H Q :=
  w_neP (dp_ints h1) (dp_ints h2) (cmp_ints _) (cmp_ints _) fun b hb => by
    rw [ne_eq, map_int_inj] at hb
    rw [show b = !decide (ns = ms) by rw [Bool.eq_iff_iff, hb]; simp]
    exact k
/-! slices -/
section
variable {K : PySem.W.Frag} {σ : L2.St} {H : Hp} {te : TE} {tl th : TO} {Q : VK} {a : Addr} {xs : List V} {lo hi : Option Int}
theorem sl_any {X : Cx} {K : PySem.W.Frag} (hK : X.K = K) : SlR X (rSlAny K) := by
  subst hK
  exact sl_list.or (sl_str.or sl_tupA)
theorem w_sl {r : V → Option Int → Option Int → Hp → VK → Prop} (k : te σ H fun x H1 => tl σ H1 fun l H2 => th σ H2 fun u H3 => r x l u H3 Q) : tSl r te tl th σ H Q := k
theorem w_noPart {R : Option Int → Hp → Prop} (k : R none H) : tNoPart σ H R := k
theorem w_part {R : Option Int → Hp → Prop} (k : te σ H fun x H1 => ∃ i, x = .int i ∧ R (some i) H1) : tPart te σ H R := k
theorem w_int {R : Int → Prop} {n : Int} (k : R n) : ∃ i, V.int n = .int i ∧ R i := ⟨n, rfl, k⟩
theorem w_slL (h : SqL K H a xs) (k : NewO (.lst (cutV xs lo hi)) H Q) : rSlAny K (.ref a) lo hi H Q := .inl ⟨a, xs, rfl, h, k⟩
theorem w_slS {z : Str} (h : z.length ≤ sizeLine) (k : Q (.str (cutS z lo hi)) H) : rSlAny K (.str z) lo hi H Q := .inr (.inl ⟨z, rfl, h, k⟩)
theorem w_rep {l : Addr} {n : Int} (h : H l = some (.lst xs)) (h0 : -(2 ^ 63) ≤ n) (h1 : n < 2 ^ 63) (hz : xs.length * n.toNat ≤ sizeLine) (k : NewO (.lst (List.replicate n.toNat xs).flatten) H Q) : rMulA (.ref l) (.int n) H Q :=
  .inr ⟨l, n, xs, rfl, rfl, h, h0, h1, hz, k⟩
end

/-! ### unpacking: a tuple or a list -/
def gSeq (K : PySem.W.Frag) (n : Nat) (t : TGs) : TG := fun v σ H Q => gLst K n t v σ H Q ∨ gTup K n t v σ H Q
theorem pg_seq {X : Cx} {K : PySem.W.Frag} {pos : Pos} {es : List Expr} {k : Nat} {t : TGs} (n : Nat) (hK : X.K = K) (hc : X.calm = true) (h : PGs X es t)
    (hn : (assignEach es X.env).length = n := by rfl) (hst : (assignEach es X.env).findIdx? (·.1) = none := by rfl) : PG X (.Tuple es k pos) (gSeq K n t) := by
  subst hK
  refine ⟨fun pins s σ H v u Q I r hw => ?_⟩
  rcases hw with hw | hw
  · exact (pg_lst hc h hn hst).run pins s σ H v u Q I r hw
  · exact (pg_tup hc h hn hst).run pins s σ H v u Q I r hw
section
variable {K : PySem.W.Frag} {σ : L2.St} {H : Hp} {R : L2.St → Hp → Prop} {t : TGs} {g : TG} {xs : List V} {a : Addr} {v : V} {n : Nat}
theorem w_seqL (h : SqL K H a xs) (hl : xs.length = n) (k : t xs σ H R) : gSeq K n t (.ref a) σ H R := .inl ⟨a, xs, rfl, h, hl, k⟩
theorem w_seqT (h : SqT K H a xs) (hl : xs.length = n) (k : t xs σ H R) : gSeq K n t (.ref a) σ H R := .inr ⟨a, xs, rfl, h, hl, k⟩
theorem w_gNil (k : R σ H) : gNil [] σ H R := ⟨rfl, k⟩
theorem w_gCons (k : g v σ H fun σ' H' => t xs σ' H' R) : gCons g t (v :: xs) σ H R := ⟨v, xs, rfl, k⟩
end

/-! ### walks of any kind -/
section
variable {K : PySem.W.Frag} {σ : L2.St} {H : Hp} {a b D : Addr} {xs ys : List V} {g : TG} {tb : TS} {nx : L2.St → Hp → Prop} {rt : VK} {bk ct : L2.St → Hp → Prop} {tl te : TE} {ta : TA} {tt : TT} {Q : VK} {vs : List Nat} {J : It} {n : Nat} {G : Hp → Prop} {Y : Nat → Hp → V → Hp → Prop}
theorem wfor_it (w : Walk J n G Y) (Pv : Nat → L2.St → Hp → Prop) (h0 : Pv 0 σ H) (hG : ∀ i σ H, i ≤ n → Pv i σ H → G H)
    (hs : ∀ i x σ H H', i < n → Pv i σ H → Y i H x H' → g x σ H' fun σ2 H2 => tb ⟨Pv (i + 1), rt, nx, Pv (i + 1)⟩ σ2 H2) (hd : ∀ σ H, Pv n σ H → nx σ H) : WFor J g tb nx rt σ H :=
  for_it (D := ⟨nx, rt, fun _ _ => False, fun _ _ => False⟩) w Pv h0 hG hs hd
theorem wlc_it (w : Walk J n G Y) (Pv : Addr → Nat → List V → Hp → Prop) (h0 : ∀ D H', H D = none → Same H H' → H' D = some (.lst []) → Pv D 0 [] H') (hG : ∀ D, H D = none → ∀ i ys H', i ≤ n → H' D = some (.lst ys) → Pv D i ys H' → G H')
    (hs : ∀ D, H D = none → ∀ i x ys H0 H', i < n → ys.length ≤ i → H0 D = some (.lst ys) → Pv D i ys H0 → Y i H0 x H' → g x (wipe σ vs) H' fun σ2 H2 => wipe σ2 vs = wipe σ vs ∧ tt σ2 H2 fun b H3 => if b = true then te σ2 H3 fun y H4 => LcEnd D (Pv D) i y H4 else LcSkip D (Pv D) i H3)
    (hd : ∀ D, H D = none → ∀ ys H', ys.length ≤ n → H' D = some (.lst ys) → Pv D n ys H' → Q (.ref D) H') : ∀ D, H D = none → WLc J g tt te vs σ D H Q := fun D hD =>
  lc_it w (fun i H' => ∃ ys, ys.length ≤ i ∧ H' D = some (.lst ys) ∧ Pv D i ys H') ⟨[], Nat.le_refl _, upd_same, h0 D _ hD (Same.one hD) upd_same⟩ (fun i H' hi ⟨ys, _, e, p⟩ => hG D hD i ys H' hi e p)
    (fun i x H0 H' hi ⟨ys, e, e2, p⟩ y => hs D hD i x ys H0 H' hi e e2 p y) (fun H' ⟨ys, e, e2, p⟩ => hd D hD ys H' e e2 p)
theorem w_forZ (k : ta σ H fun vs H1 => ∃ a b xs ys, vs = [.ref a, .ref b] ∧ SqL K H1 a xs ∧ SqL K H1 b ys ∧ WFor (Itz K a b) g tb nx rt σ H1) : tFor (iZip K ta) g tb ⟨nx, rt, bk, ct⟩ σ H := k
theorem w_forE (k : ta σ H fun vs H1 => ∃ a xs, vs = [.ref a] ∧ SqL K H1 a xs ∧ WFor (Ite K a) g tb nx rt σ H1) : tFor (iEnum K ta) g tb ⟨nx, rt, bk, ct⟩ σ H := k
theorem w_forV (k : te σ H fun v H1 => ∃ (a : Addr) (xs : List V), v = .ref a ∧ ((SqL K H1 a xs ∧ WFor (Itv K a xs.length) g tb nx rt σ H1) ∨ (SqT K H1 a xs ∧ WFor (RT.ItvT K a xs.length) g tb nx rt σ H1))) : tFor (RT.iRevA K te) g tb ⟨nx, rt, bk, ct⟩ σ H := k
theorem w_lcZ (k : ta σ H fun us H1 => ∃ a b xs ys, us = [.ref a, .ref b] ∧ SqL K H1 a xs ∧ SqL K H1 b ys ∧ ∀ D, H1 D = none → WLc (Itz K a b) g tt te vs σ D H1 Q) : tLc (iZip K ta) g tt te vs σ H Q := k
theorem w_lcE (k : ta σ H fun us H1 => ∃ a xs, us = [.ref a] ∧ SqL K H1 a xs ∧ ∀ D, H1 D = none → WLc (Ite K a) g tt te vs σ D H1 Q) : tLc (iEnum K ta) g tt te vs σ H Q := k
/-- zip of two lists, each turn a new pair -/
theorem fl_zip (Pv : Nat → L2.St → Hp → Prop) (hx : SqL K H a xs) (hy : SqL K H b ys) (h0 : Pv 0 σ H) (hG : ∀ i σ H, i ≤ min xs.length ys.length → Pv i σ H → SqL K H a xs ∧ SqL K H b ys)
    (hs : ∀ i x y T σ H H', xs[i]? = some x → ys[i]? = some y → Pv i σ H → H T = none → Same H H' → H' T = some (.tup [x, y]) → g (.ref T) σ H' fun σ2 H2 => tb ⟨Pv (i + 1), rt, nx, Pv (i + 1)⟩ σ2 H2) (hd : ∀ σ H, Pv (min xs.length ys.length) σ H → nx σ H) :
    ∃ p q us ws, [V.ref a, .ref b] = [.ref p, .ref q] ∧ SqL K H p us ∧ SqL K H q ws ∧ WFor (Itz K p q) g tb nx rt σ H :=
  ⟨a, b, xs, ys, rfl, hx, hy, wfor_it (walk_zip rfl) Pv h0 hG (fun i v σ H H' hi p ⟨T, x, y, e, nT, e2, h1, h2⟩ => by subst e e2; exact hs i x y T σ H _ h1 h2 p nT (Same.one nT) upd_same) hd⟩
theorem fl_enum (Pv : Nat → L2.St → Hp → Prop) (hx : SqL K H a xs) (h0 : Pv 0 σ H) (hG : ∀ i σ H, i ≤ xs.length → Pv i σ H → SqL K H a xs)
    (hs : ∀ i x T σ H H', xs[i]? = some x → Pv i σ H → H T = none → Same H H' → H' T = some (.tup [.int (i : Nat), x]) → g (.ref T) σ H' fun σ2 H2 => tb ⟨Pv (i + 1), rt, nx, Pv (i + 1)⟩ σ2 H2) (hd : ∀ σ H, Pv xs.length σ H → nx σ H) :
    ∃ p us, [V.ref a] = [.ref p] ∧ SqL K H p us ∧ WFor (Ite K p) g tb nx rt σ H :=
  ⟨a, xs, rfl, hx, wfor_it walk_enum Pv h0 hG (fun i v σ H H' hi p ⟨T, x, y, e, nT, e2, h1, h2⟩ => by
    subst e e2
    obtain rfl : V.int (i : Nat) = x := Option.some.inj h1
    exact hs i y T σ H _ h2 p nT (Same.one nT) upd_same) hd⟩
theorem fl_rev (Pv : Nat → L2.St → Hp → Prop) (hx : SqL K H a xs) (h0 : Pv 0 σ H) (hG : ∀ i σ H, i ≤ xs.length → Pv i σ H → SqL K H a xs)
    (hs : ∀ i x σ H, i < xs.length → xs[xs.length - 1 - i]? = some x → Pv i σ H → g x σ H fun σ2 H2 => tb ⟨Pv (i + 1), rt, nx, Pv (i + 1)⟩ σ2 H2) (hd : ∀ σ H, Pv xs.length σ H → nx σ H) :
    ∃ (p : Addr) (us : List V), V.ref a = .ref p ∧ ((SqL K H p us ∧ WFor (Itv K p us.length) g tb nx rt σ H) ∨ (SqT K H p us ∧ WFor (RT.ItvT K p us.length) g tb nx rt σ H)) :=
  ⟨a, xs, rfl, .inl ⟨hx, wfor_it walk_rev Pv h0 hG (fun i x σ H H' hi p ⟨e, h⟩ => by subst e; exact hs i x σ _ hi h p) hd⟩⟩
/-- [e for x, y in zip(xs, ys) if ..], its names at i and j -/
theorem wipe2 (σ : L2.St) (i j : Nat) (x y : Option V) (h : i ≠ j) : wipe (((wipe σ [i, j]).set i x).set j y) [i, j] = wipe σ [i, j] := by
  show ((((((σ.set j none).set i none).set i x).set j y).set j none).set i none) = (σ.set j none).set i none
  apply List.ext_getElem?
  intro k
  simp only [List.getElem?_set, List.length_set]
  grind
theorem lc_zip {i0 j0 : Nat} (hij : i0 ≠ j0) (Pv : Addr → Nat → List V → Hp → Prop) (hx : SqL K H a xs) (hy : SqL K H b ys) (h0 : ∀ D H', H D = none → Same H H' → H' D = some (.lst []) → Pv D 0 [] H')
    (hG : ∀ D, H D = none → ∀ i zs H', i ≤ min xs.length ys.length → H' D = some (.lst zs) → Pv D i zs H' → SqL K H' a xs ∧ SqL K H' b ys)
    (hs : ∀ D, H D = none → ∀ i x y zs H0 H', xs[i]? = some x → ys[i]? = some y → zs.length ≤ i → H0 D = some (.lst zs) → Pv D i zs H0 → Same H0 H' → tt (((wipe σ [i0, j0]).set i0 (some x)).set j0 (some y)) H' fun b H3 => if b = true then te (((wipe σ [i0, j0]).set i0 (some x)).set j0 (some y)) H3 fun y H4 => LcEnd D (Pv D) i y H4 else LcSkip D (Pv D) i H3)
    (hd : ∀ D, H D = none → ∀ zs H', zs.length ≤ min xs.length ys.length → H' D = some (.lst zs) → Pv D (min xs.length ys.length) zs H' → Q (.ref D) H') :
    ∃ p q us ws, [V.ref a, .ref b] = [.ref p, .ref q] ∧ SqL K H p us ∧ SqL K H q ws ∧ ∀ D, H D = none → WLc (Itz K p q) (gSeq K 2 (gCons (gName i0) (gCons (gName j0) gNil))) tt te [i0, j0] σ D H Q :=
  ⟨a, b, xs, ys, rfl, hx, hy, wlc_it (walk_zip rfl) Pv h0 hG (fun D hD i v zs H0 H' hi hl e p ⟨T, x, y, ev, nT, e2, h1, h2⟩ => by
    subst ev e2
    exact w_seqT (SqT.of upd_same) rfl (w_gCons (w_gName (w_gCons (w_gName (w_gNil ⟨wipe2 _ _ _ _ _ hij, hs D hD i x y zs H0 _ h1 h2 hl e p (Same.one nT)⟩)))))) hd⟩
end
/-! ### isinstance -/
section
variable {K : PySem.W.Frag} {H : Hp} {Q : VK} {x : V}
theorem call_isiA {X : Cx} {K : PySem.W.Frag} (hK : X.K = K) : CallR X (.builtin "isinstance") (rIsi K) := by
  subst hK
  exact call_isi
theorem pe_gS {X : Cx} {x z : Str} {pos : Pos} (hg : Gl X x) (hm : ∃ t, X.mg x = some (.str z t)) (hd : (x == ("__debug__" : Str)) = false := by decide) : PE X (.Name x pos) (tC (.str z)) := by
  obtain ⟨t, hm⟩ := hm
  exact pe_glob hg hm ⟨t, rfl⟩ hd
theorem pe_gI {X : Cx} {x : Str} {z : Int} {pos : Pos} (hg : Gl X x) (hm : ∃ t, X.mg x = some (.int z t)) (hd : (x == ("__debug__" : Str)) = false := by decide) : PE X (.Name x pos) (tC (.int z)) := by
  obtain ⟨t, hm⟩ := hm
  exact pe_glob hg hm ⟨t, rfl⟩ hd
theorem w_isi {T : String} {a : String} {b : Bool} (h : TyX K H x (.type a)) (e : kitB a T = some b) (k : Q (.bl b) H) : rIsi K [x, .ty T] H Q := ⟨x, .ty T, .type a, .type T, b, rfl, .ty T, h, kit_ty e, k⟩
theorem ty_int {n : Int} : TyX K H (.int n) (.type "int") := .base (.int n)
theorem ty_bl {n : Bool} : TyX K H (.bl n) (.type "bool") := .base (.bl n)
theorem ty_str {n : Str} : TyX K H (.str n) (.type "str") := .base (.str n)
theorem ty_non : TyX K H .non (.type "NoneType") := .base .non
theorem ty_lst {a : Addr} {xs : List V} (h : H a = some (.lst xs)) : TyX K H (.ref a) (.type "list") := .base (.lst h)
theorem ty_sqT {a : Addr} {xs : List V} (h : SqT K H a xs) : TyX K H (.ref a) (.type "tuple") := by
  rcases h with (h | ⟨o, h⟩) | ⟨o, its, n, e, c, _⟩
  · exact .base (.tup h)
  · exact .fTuple h
  · exact .kTuple e c
theorem ty_tup {a : Addr} {xs : List V} (h : H a = some (.tup xs)) : TyX K H (.ref a) (.type "tuple") := .base (.tup h)
theorem ty_dic {a : Addr} {xs : List (Key × V)} (h : H a = some (.dK xs)) : TyX K H (.ref a) (.type "dict") := .base (.dK h)
/-- isinstance with a written tuple of classes -/
def kitAnyB (a : String) : List String → Option Bool
  | [] => some false
  | T :: r => match kitB a T with
    | some true => some true
    | some false => kitAnyB a r
    | none => none
theorem kitAnyB_ok {a : String} : ∀ {Ts : List String} {b : Bool}, kitAnyB a Ts = some b → PySem.W.kitAny K (.type a) (Ts.map Value.type) = some b
  | [], b, h => by
    have : some false = some b := h
    rw [← this]; exact kitAny_nil
  | T :: r, b, h => by
    unfold kitAnyB at h
    cases e : kitB a T with
    | none => rw [e] at h; cases h
    | some c =>
      rw [e] at h
      cases c with
      | true =>
        have : some true = some b := h
        cases this
        exact kitAny_cons (kit_ty e) (fun z => nomatch z) (fun _ => rfl)
      | false => exact kitAny_cons (kit_ty e) (fun _ => kitAnyB_ok h) (fun z => nomatch z)
theorem paired_ty : ∀ Ts : List String, Paired ClsV (Ts.map V.ty) (Ts.map Value.type)
  | [] => .nil
  | T :: r => .cons (.ty T) (paired_ty r)
theorem call_isiTA {X : Cx} {K : PySem.W.Frag} (hK : X.K = K) : CallR X (.builtin "isinstance") (rIsiT K) := by
  subst hK
  exact call_isiT
theorem w_isiT {tp : Addr} {a : String} {b : Bool} (Ts : List String) (h1 : H tp = some (.tup (Ts.map V.ty))) (h : TyX K H x (.type a)) (e : kitAnyB a Ts = some b) (k : Q (.bl b) H) : rIsiT K [x, .ref tp] H Q :=
  ⟨x, tp, _, .type a, _, b, rfl, h1, paired_ty Ts, h, kitAnyB_ok e, k⟩
/-- tuple(xs), list(xs) -/
def rTupOf (K : PySem.W.Frag) : List V → Hp → VK → Prop := fun xs H Q => ∃ p ys, xs = [.ref p] ∧ ((SqL K H p ys ∧ NewO (.tup ys) H Q) ∨ (SqT K H p ys ∧ Q (.ref p) H))
theorem call_tupA {X : Cx} {K : PySem.W.Frag} (hK : X.K = K) : CallR X (.type "tuple") (rTupOf K) := by
  subst hK
  exact call_tuple_of
theorem w_tupL {p : Addr} {ys : List V} (h : SqL K H p ys) (k : NewO (.tup ys) H Q) : rTupOf K [.ref p] H Q := ⟨p, ys, rfl, .inl ⟨h, k⟩⟩
theorem w_tupT {p : Addr} {ys : List V} (h : SqT K H p ys) (k : Q (.ref p) H) : rTupOf K [.ref p] H Q := ⟨p, ys, rfl, .inr ⟨h, k⟩⟩
def rListOf (K : PySem.W.Frag) : List V → Hp → VK → Prop := fun xs H Q => ∃ p ys, xs = [.ref p] ∧ (SqL K H p ys ∨ SqT K H p ys) ∧ NewO (.lst ys) H Q
theorem call_listA {X : Cx} {K : PySem.W.Frag} (hK : X.K = K) : CallR X (.type "list") (rListOf K) := by
  subst hK
  exact call_list_of
theorem w_listL {p : Addr} {ys : List V} (h : SqL K H p ys) (k : NewO (.lst ys) H Q) : rListOf K [.ref p] H Q := ⟨p, ys, rfl, .inl h, k⟩
theorem w_listT {p : Addr} {ys : List V} (h : SqT K H p ys) (k : NewO (.lst ys) H Q) : rListOf K [.ref p] H Q := ⟨p, ys, rfl, .inr h, k⟩
theorem w_slT {σ : L2.St} {lo hi : Option Int} {a : Addr} {xs : List V} (h : SqT K H a xs) (n : ¬ (HT.sIx xs.length 0 lo = 0 ∧ HT.sIx xs.length xs.length hi = xs.length)) (k : NewO (.tup (cutV xs lo hi)) H Q) : rSlAny K (.ref a) lo hi H Q :=
  .inr (.inr ⟨a, xs, rfl, h, fun z => (n z).elim, fun _ => k⟩)
/-- t[1:] -/
theorem cut1 (x : V) (xs : List V) : cutV (x :: xs) (some 1) none = xs := by
  unfold cutV
  have e : HT.sIx (x :: xs).length 0 (some 1) = 1 := by
    show (if (1 : Int) < 0 then ((1 : Int) + ((x :: xs).length : Int)).toNat else min (1 : Int).toNat (x :: xs).length) = 1
    rw [if_neg (by decide), List.length_cons]
    show min 1 (xs.length + 1) = 1
    omega
  rw [e, HT.sIx_none, List.drop_one, List.tail_cons, List.take_of_length_le (by rw [List.length_cons]; omega)]
theorem w_slT1 {σ : L2.St} {a : Addr} {x : V} {xs : List V} (h : SqT K H a (x :: xs)) (k : NewO (.tup xs) H Q) : rSlAny K (.ref a) (some 1) none H Q := w_slT (σ := σ) h (by
  intro ⟨z, _⟩
  have e : HT.sIx (x :: xs).length 0 (some 1) = 1 := by
    show (if (1 : Int) < 0 then ((1 : Int) + ((x :: xs).length : Int)).toNat else min (1 : Int).toNat (x :: xs).length) = 1
    rw [if_neg (by decide), List.length_cons]
    show min 1 (xs.length + 1) = 1
    omega
  rw [e] at z
  cases z) (by rw [cut1]; exact k)
/-- xs[::-1] -/
theorem w_revL {σ : L2.St} {te : TE} (k : te σ H fun x H1 => ∃ a xs, x = .ref a ∧ SqL K H1 a xs ∧ NewO (.lst xs.reverse) H1 Q) : tRevL K te σ H Q := k
theorem w_ref2 {a : Addr} {xs : List V} {R : Addr → List V → Prop} (k : R a xs) : ∃ b ys, V.ref a = .ref b ∧ R b ys := ⟨a, xs, rfl, k⟩
/-- dicts: displays, look-ups -/
theorem w_disp {σ : L2.St} {trs : List (TE × TE)} (k : ∀ p H', H p = none → Same H H' → H' p = some (.dK []) → tPairs trs σ H' fun ps H2 => H2 p = some (.dK []) ∧ ∃ kvs : List (Key × V), ps = kvs.map (fun kv => (kV kv.1, kv.2)) ∧ kvs.length ≤ 15 ∧ ChgO p (.dK (mergeK [] kvs)) H2 (Q (.ref p))) : tDisp trs σ H Q :=
  fun p hp => k p _ hp (Same.one hp) upd_same
theorem w_pairN {σ : L2.St} {R : List (V × V) → Hp → Prop} (k : R [] H) : tPairs [] σ H R := k
theorem w_pairC {σ : L2.St} {tk tv : TE} {r : List (TE × TE)} {R : List (V × V) → Hp → Prop} (k : tk σ H fun x H1 => tv σ H1 fun y H2 => tPairs r σ H2 fun ps H3 => R ((x, y) :: ps) H3) : tPairs ((tk, tv) :: r) σ H R := k
theorem w_dget {σ : L2.St} {td ty : TE} (k : td σ H fun x H1 => ty σ H1 fun y H2 => ∃ a v, x = .ref a ∧ DGet H2 a y (some v) ∧ Q v H2) : tDGet td ty σ H Q := k
theorem w_dgotS {a : Addr} {kvs : List (Key × V)} {z : Str} {v : V} {R : V → Prop} (h : H a = some (.dK kvs)) (e : valV kvs (.inr z) = some v) (k : R v) : ∃ b v, V.ref a = .ref b ∧ DGet H b (.str z) (some v) ∧ R v := ⟨a, v, rfl, by rw [← e]; exact DGet.k (k := .inr z) h, k⟩
theorem w_dgotI {a : Addr} {kvs : List (Key × V)} {z : Int} {v : V} {R : V → Prop} (h : H a = some (.dK kvs)) (e : valV kvs (.inl z) = some v) (k : R v) : ∃ b v, V.ref a = .ref b ∧ DGet H b (.int z) (some v) ∧ R v := ⟨a, v, rfl, by rw [← e]; exact DGet.k (k := .inl z) h, k⟩
/-- texts in lists, and their == -/
theorem dpAll_strs : ∀ ns : List Str, DpAll K H (ns.map V.str) (ns.map PyData.str)
  | [] => .nil
  | n :: ns => .cons (.str n) (dpAll_strs ns)
theorem dp_strs {a : Addr} {ns : List Str} (h : SqL K H a (ns.map V.str)) : Dp K H (.ref a) (.list (ns.map PyData.str)) := .lst h (dpAll_strs ns)
theorem cleanAll_strs : ∀ ns : List Str, (ns.all PyData.strOk) = true → cleanAll (ns.map PyData.str) = true
  | [], _ => by simp [cleanAll]
  | n :: ns, h => by
    rw [List.all_cons, Bool.and_eq_true] at h
    rw [List.map_cons, cleanAll, cleanAll_strs ns h.2, clean, h.1]; rfl
theorem depthAll_strs : ∀ ns : List Str, PyData.depthAll (ns.map PyData.str) = 0
  | [] => by simp [PyData.depthAll]
  | n :: ns => by rw [List.map_cons, PyData.depthAll, depthAll_strs ns, PyData.depth]; rfl
theorem cmp_strs {ns : List Str} (h : (ns.all PyData.strOk) = true) : Cmp (.list (ns.map PyData.str)) := ⟨by rw [clean]; exact cleanAll_strs ns h, by rw [PyData.depth, depthAll_strs]; decide⟩
theorem map_str_inj {ns ms : List Str} : PyData.list (ns.map PyData.str) = .list (ms.map PyData.str) ↔ ns = ms := by
  constructor
  · intro h
    have h2 : ns.map PyData.str = ms.map PyData.str := by injection h
    exact (List.map_inj_right (f := PyData.str) (fun x y e => by injection e)).mp h2
  · intro h; rw [h]
theorem w_eqSL {p q : Addr} {ns ms : List Str} (h1 : SqL K H p (ns.map V.str)) (h2 : SqL K H q (ms.map V.str)) (o1 : (ns.all PyData.strOk) = true) (o2 : (ms.all PyData.strOk) = true) (k : Q (.bl (decide (ns = ms))) H) : rEqA K (.ref p) (.ref q) H Q :=
  w_eqP (dp_strs h1) (dp_strs h2) (cmp_strs o1) (cmp_strs o2) fun b hb => by
    rw [map_str_inj] at hb
    rw [show b = decide (ns = ms) by rw [Bool.eq_iff_iff, hb, decide_eq_true_eq]]
    exact k
theorem w_neSL {p q : Addr} {ns ms : List Str} (h1 : SqL K H p (ns.map V.str)) (h2 : SqL K H q (ms.map V.str)) (o1 : (ns.all PyData.strOk) = true) (o2 : (ms.all PyData.strOk) = true) (k : Q (.bl (!decide (ns = ms))) H) : rNeA K (.ref p) (.ref q) H Q :=
  w_neP (dp_strs h1) (dp_strs h2) (cmp_strs o1) (cmp_strs o2) fun b hb => by
    rw [ne_eq, map_str_inj] at hb
    rw [show b = !decide (ns = ms) by rw [Bool.eq_iff_iff, hb]; simp]
    exact k
/-- a text cut by another one -/
def rSplit : V → List V → Hp → VK → Prop := fun x xs H Q => ∃ a b, x = .str a ∧ xs = [.str b] ∧ (b.length == 0) = false ∧ a.length + 2 ≤ sizeLine ∧ rNewStrs (Txt.split a b) H Q
theorem mt_splitA {X : Cx} : MtR X "str.split" rSplit := mt_split
theorem w_split {a b : Str} {ys : List Str} (e : Txt.split a b = ys) (hb : (b.length == 0) = false) (ha : a.length + 2 ≤ sizeLine) (k : NewO (.lst (ys.map V.str)) H Q) : rSplit (.str a) [.str b] H Q := ⟨a, b, rfl, rfl, hb, ha, by rw [e]; exact k⟩
end

/-! ### what no tuple loses -/
def TS (H H' : Hp) : Prop := ∀ b xs, (H b = some (.tup xs) → H' b = some (.tup xs)) ∧ ∀ u, H b = some (.frz u (.tup xs)) → H' b = some (.frz u (.tup xs))
theorem TS.of {H H' : Hp} (e : Same H H') : TS H H' := fun b _ => ⟨e b _, fun _ => e b _⟩
theorem TS.butL {s : Addr} {H H' : Hp} {ys : List V} (e : But s H H') (t : H s = some (.lst ys)) : TS H H' := fun b _ => ⟨fun h => e b _ (ne_of h t (by intro q; cases q)) h, fun _ h => e b _ (ne_of h t (by intro q; cases q)) h⟩
theorem TS.butS {s : Addr} {H H' : Hp} (e : But s H H') (t : Stm H s) : TS H H' := by
  obtain ⟨_, _, _, t⟩ := t
  exact TS.butL e t
theorem TS.butI {s C dx : Addr} {fs : List (Str × V)} {H H' : Hp} (e : But s H H') (t : H s = some (.ins C dx fs)) : TS H H' := fun b _ => ⟨fun h => e b _ (ne_of h t (by intro q; cases q)) h, fun _ h => e b _ (ne_of h t (by intro q; cases q)) h⟩
theorem TS.trans {H H1 H2 : Hp} (a : TS H H1) (b : TS H1 H2) : TS H H2 := fun c xs => ⟨fun h => (b c xs).1 ((a c xs).1 h), fun u h => (b c xs).2 u ((a c xs).2 u h)⟩
theorem TS.refl (H : Hp) : TS H H := fun _ _ => ⟨fun h => h, fun _ h => h⟩
theorem TS.sqT {K : PySem.W.Frag} {H H' : Hp} {a : Addr} {xs : List V} (e : TS H H') (h : SqT K H a xs) : SqT K H' a xs := by
  rcases h with (h | ⟨o, h⟩) | h
  · exact .inl (.inl ((e a xs).1 h))
  · exact .inl (.inr ⟨o, (e a xs).2 o h⟩)
  · exact .inr h
mutual
/-- tuples all the way -/
def tupD : PyData → Bool
  | .none => true
  | .int _ => true
  | .str _ => true
  | .bool _ => true
  | .list _ => false
  | .tuple xs => tupAll xs
  | .dict _ => false
def tupAll : List PyData → Bool
  | [] => true
  | x :: xs => tupD x && tupAll xs
end
mutual
theorem dp_ts {K : PySem.W.Frag} {H H' : Hp} (e : TS H H') : ∀ (d : PyData) (v : V), tupD d = true → Dp K H v d → Dp K H' v d
  | .none, _, _, h => by cases h; exact .non
  | .int _, _, _, h => by cases h; exact .int _
  | .str _, _, _, h => by cases h; exact .str _
  | .bool _, _, _, h => by cases h; exact .bl _
  | .list _, _, t, _ => by simp [tupD] at t
  | .tuple ds, _, t, h => by
    cases h with
    | tup hs ha => exact .tup (e.sqT hs) (dpAll_ts e ds _ (by simpa [tupD] using t) ha)
  | .dict _, _, t, _ => by simp [tupD] at t
theorem dpAll_ts {K : PySem.W.Frag} {H H' : Hp} (e : TS H H') : ∀ (ds : List PyData) (vs : List V), tupAll ds = true → DpAll K H vs ds → DpAll K H' vs ds
  | [], _, _, h => by cases h; exact .nil
  | d :: ds, _, t, h => by
    rw [tupAll, Bool.and_eq_true] at t
    cases h with
    | cons h1 h2 => exact .cons (dp_ts e d _ t.1 h1) (dpAll_ts e ds _ t.2 h2)
end
section
variable {K : PySem.W.Frag} {H : Hp}
theorem dp_tup {v : V} {ds : List PyData} (h : Dp K H v (.tuple ds)) : ∃ a xs, v = .ref a ∧ SqT K H a xs ∧ DpAll K H xs ds := by
  cases h with
  | tup hs ha => exact ⟨_, _, rfl, hs, ha⟩
theorem dp_str {v : V} {x : Str} (h : Dp K H v (.str x)) : v = .str x := by cases h; rfl
theorem dp_int {v : V} {x : Int} (h : Dp K H v (.int x)) : v = .int x := by cases h; rfl
theorem dpa_nil {vs : List V} (h : DpAll K H vs []) : vs = [] := by cases h; rfl
theorem dpa_cons {vs : List V} {d : PyData} {ds : List PyData} (h : DpAll K H vs (d :: ds)) : ∃ v r, vs = v :: r ∧ Dp K H v d ∧ DpAll K H r ds := by
  cases h with
  | cons a b => exact ⟨_, _, rfl, a, b⟩
theorem dpa_len : ∀ {ds : List PyData} {vs : List V}, DpAll K H vs ds → vs.length = ds.length
  | [], _, h => by cases h; rfl
  | d :: ds, _, h => by
    cases h with
    | cons a b => rw [List.length_cons, List.length_cons, dpa_len b]
theorem dpa_app : ∀ {ds es : List PyData} {vs us : List V}, DpAll K H vs ds → DpAll K H us es → DpAll K H (vs ++ us) (ds ++ es)
  | [], _, _, _, h, h' => by cases h; exact h'
  | d :: ds, _, _, _, h, h' => by
    cases h with
    | cons a b => exact .cons a (dpa_app b h')
theorem dpa_one {v : V} {d : PyData} (h : Dp K H v d) : DpAll K H [v] [d] := .cons h .nil
theorem dpa_at : ∀ {ds : List PyData} {vs : List V} {i : Nat} {d : PyData}, DpAll K H vs ds → ds[i]? = some d → ∃ v, vs[i]? = some v ∧ Dp K H v d
  | [], _, i, _, _, e => by simp at e
  | d :: ds, _, 0, _, h, e => by
    cases h with
    | cons a b => simp at e; subst e; exact ⟨_, rfl, a⟩
  | d :: ds, _, i + 1, _, h, e => by
    cases h with
    | cons a b =>
      have q := dpa_at (ds := ds) (i := i) b (by simpa using e)
      exact q
theorem dpa_at' : ∀ {ds : List PyData} {vs : List V} {i : Nat} {v : V}, DpAll K H vs ds → vs[i]? = some v → ∃ d, ds[i]? = some d ∧ Dp K H v d
  | [], _, i, _, h, e => by cases h; simp at e
  | d :: ds, _, 0, _, h, e => by
    cases h with
    | cons a b => simp at e; subst e; exact ⟨_, rfl, a⟩
  | d :: ds, _, i + 1, _, h, e => by
    cases h with
    | cons a b =>
      have q := dpa_at' (ds := ds) (i := i) b (by simpa using e)
      exact q
theorem tupAll_app : ∀ (a b : List PyData), tupAll (a ++ b) = (tupAll a && tupAll b)
  | [], _ => by simp [tupAll]
  | x :: a, b => by rw [List.cons_append, tupAll, tupAll, tupAll_app a b, Bool.and_assoc]
theorem cleanAll_app : ∀ (a b : List PyData), cleanAll (a ++ b) = (cleanAll a && cleanAll b)
  | [], _ => by simp [cleanAll]
  | x :: a, b => by rw [List.cons_append, cleanAll, cleanAll, cleanAll_app a b, Bool.and_assoc]
end

/-! ### places -/
theorem atI_of {α : Type} {xs : List α} {n : Int} {v : α} (h0 : 0 ≤ n) (h : xs[n.toNat]? = some v) : atI xs n = some v := by
  have e : ((n.toNat : Nat) : Int) = n := Int.toNat_of_nonneg h0
  have q := atI_nat h
  rw [e] at q
  exact q
theorem at0 {α : Type} {a : α} {xs : List α} : atI (a :: xs) 0 = some a := atI_of (Int.le_refl 0) rfl
theorem at1 {α : Type} {a b : α} {xs : List α} : atI (a :: b :: xs) 1 = some b := atI_of (by decide) rfl
theorem at2 {α : Type} {a b c : α} {xs : List α} : atI (a :: b :: c :: xs) 2 = some c := atI_of (by decide) rfl
theorem atI_some {α : Type} {xs : List α} {n : Int} (h0 : 0 ≤ n) (h : n < xs.length) : ∃ v, atI xs n = some v ∧ v ∈ xs ∧ xs[n.toNat]? = some v := by
  have hl : n.toNat < xs.length := by omega
  refine ⟨xs[n.toNat], atI_of h0 (List.getElem?_eq_getElem hl), List.getElem_mem hl, List.getElem?_eq_getElem hl⟩

theorem cdw {i j : Int} (h : 0 < j) (h2 : j < 2 ^ 200) : CDivW i j := wide_div (b := 200) h (by omega) (by decide) (by decide)
/-! ### defs by names -/
/-- the def at f keeps the promise sp -/
def FnA (P : Program) (w : World) (K : PySem.W.Frag) (mg : Str → Option Value) (f : Addr) (k : Nat) (ps : List Str) (sp : Sp) : Prop :=
  ∃ fd, (∀ base, FnOk P w K mg base CX0 k f fd ps sp) ∧ Binds K fd ps [] ∧ ∀ (s : Shared) (us : List Value), us.length = ps.length → BindsTo s fd ⟨us, []⟩ (ps.zip us)
/-- the def of the name x keeps the promise sp -/
structure Fn (P : Program) (w : World) (K : PySem.W.Frag) (mg : Str → Option Value) (x : Str) (k : Nat) (ps : List Str) (sp : Sp) : Prop where
  ex : FnA P w K mg (He.ga K x) k ps sp
  gl : mg x = some (.ref (He.ga K x))
  kp : PySem.W.keepIn K (.ref (He.ga K x)) = true
section
variable {X : Cx} {k : Nat} {x : Str} {ps : List Str} {sp : Sp} {p pos : Pos} {e : Expr} {es : List Expr} {t : TA}
theorem pe_fn (F : Fn X.prog X.w X.K X.mg x k ps sp) (hr : Room k X.A) (hg : Gl X x) (ha : PA X (e :: es) t)
    (hdb : (x == ("__debug__" : Str)) = false := by decide) (he : starEach (e :: es) X.env = (false, eval e X.env) :: starEach es X.env := by rfl) (hpl : (backTo pos (starEach es X.env)).any (·.1) = false := by rfl) :
    PE X (.Call (.Name x p) (e :: es) [] pos) (tCall sp [] E0 t) := by
  obtain ⟨fd, G, b, _⟩ := F.ex
  exact pe_call (G X.base) hr hg F.gl F.kp b .nil pass0 ha hdb he hpl
theorem pe_fn0 (F : Fn X.prog X.w X.K X.mg x k ps sp) (hr : Room k X.A) (hg : Gl X x) (hdb : (x == ("__debug__" : Str)) = false := by decide) :
    PE X (.Call (.Name x p) [] [] pos) (tCall sp [] E0 tNil) := by
  obtain ⟨fd, G, b, _⟩ := F.ex
  exact pe_call0 (G X.base) hr hg F.gl F.kp b .nil pass0 hdb
end
/-- a def's data as the head tells it -/
theorem FnA.mk' {P : Program} {w : World} {K : PySem.W.Frag} {mg : Str → Option Value} {x q : Str} {k : Nat} {N ps : List Str} {sp : Sp} {args : Arguments} {body : List Stmt} {sc : Scope} {f : Addr} {fd : FuncData}
    (F : FunD K x q args body sc [] [] f fd) (S : FnScope N ps sc) (len : ∀ vs H Q E, sp vs H Q E → vs.length = ps.length)
    (hb : ∀ (kV doc pm : Value) (an : Option Addr) (cdv ct : Value) (us : List Value), us.length = ps.length → bindArgs (PySem.W.fnOf x q args body sc .none kV doc pm an cdv ct) ⟨us, []⟩ = pure (ps.zip us))
    (hbody : ∀ (base : Heap) (cdv : Value) (A : Around) (outer : List Env) (s : Shared) (H : Hp) (vs : List V) (Q : VK) (E : XK), Room k (A.deeper (envOfC q sc s.heap.objs.size f cdv)) → sp vs H Q E →
      ∃ t, PSs (cxOf CX0 P w K mg base N q sc f cdv A outer s H E).nox body t ∧ t ⟨fun _ H' => Q .non H', Q, fun _ _ => False, fun _ _ => False⟩ (start N vs) H) : FnA P w K mg f (k + 1) ps sp :=
  ⟨fd, fun base => F.ok S len fun cdv A outer s H vs Q E hr h => by
      obtain ⟨t, d, q⟩ := hbody base cdv A outer s H vs Q E hr h
      exact ⟨t, d.nox, q⟩, F.bindsN hb, F.bindsA hb⟩
theorem Fn.mk' {P : Program} {w : World} {K : PySem.W.Frag} {mg : Str → Option Value} {x : Str} {k : Nat} {N ps : List Str} {sp : Sp} {args : Arguments} {body : List Stmt} {sc : Scope} {fd : FuncData}
    (F : FunD K x x args body sc [] [] (He.ga K x) fd) (gl : mg x = some (.ref (He.ga K x))) (S : FnScope N ps sc) (len : ∀ vs H Q E, sp vs H Q E → vs.length = ps.length)
    (hb : ∀ (kV doc pm : Value) (an : Option Addr) (cdv ct : Value) (us : List Value), us.length = ps.length → bindArgs (PySem.W.fnOf x x args body sc .none kV doc pm an cdv ct) ⟨us, []⟩ = pure (ps.zip us))
    (hbody : ∀ (base : Heap) (cdv : Value) (A : Around) (outer : List Env) (s : Shared) (H : Hp) (vs : List V) (Q : VK) (E : XK), Room k (A.deeper (envOfC x sc s.heap.objs.size (He.ga K x) cdv)) → sp vs H Q E →
      ∃ t, PSs (cxOf CX0 P w K mg base N x sc (He.ga K x) cdv A outer s H E).nox body t ∧ t ⟨fun _ H' => Q .non H', Q, fun _ _ => False, fun _ _ => False⟩ (start N vs) H) : Fn P w K mg x (k + 1) ps sp :=
  ⟨FnA.mk' F S len hb hbody, gl, F.kp⟩
/-! ### classes of the text -/
def tMet (C : Addr) (m : Str) (sp : Sp) (to : TE) (t : TA) : TE := fun σ H Q => to σ H fun x H1 => ∃ a dx fs, x = .ref a ∧ H1 a = some (.ins C dx fs) ∧ fs.lookup m = none ∧ t σ H1 fun vs H2 => sp (x :: vs) H2 Q E0
def tMkI (C : Addr) (sp : Sp) (t : TA) : TE := fun σ H Q => t σ H fun vs H1 => ∀ x dx, H1 x = none → H1 dx = none → dx ≠ x → sp (.ref x :: vs) (upd (upd H1 dx (.own x)) x (.ins C dx [])) (fun v H2 => v = .non ∧ Q (.ref x) H2) E0
theorem tMet_eq (C : Addr) (m : Str) (sp : Sp) (to : TE) (t : TA) : tMeth C m sp [] E0 to t = tMet C m sp to t := by
  unfold tMeth tMet
  simp only [List.append_nil]
theorem tMkI_eq (C : Addr) (sp : Sp) (t : TA) : tMake C sp [] E0 t = tMkI C sp t := by
  unfold tMake tMkI
  simp only [List.append_nil]
theorem PE.or {X : Cx} {e : Expr} {t u : TE} (h : PE X e t) (h' : PE X e u) : PE X e (fun σ H Q => t σ H Q ∨ u σ H Q) := ⟨fun pins s σ H Q I q => by
  rcases q with q | q
  · exact h.run pins s σ H Q I q
  · exact h'.run pins s σ H Q I q⟩
section
variable {X : Cx} {K : PySem.W.Frag} {k : Nat} {m x : Str} {ps : List Str} {sp : Sp} {p pos apos : Pos} {o e : Expr} {es : List Expr} {to : TE} {t : TA} {C : Addr}
theorem pe_met {pl : Sem Bool} (F : FnA X.prog X.w X.K X.mg (He.ma K C m) k ps sp) (hK : X.K = K) (cl : Cls K C) (me : Meth K C m (He.ma K C m)) (hr : Room k X.A) (he : PE X o to) (ha : PA X (e :: es) t)
    (hst : starEach (e :: es) X.env = (false, eval e X.env) :: starEach es X.env := by rfl) (hpl : (backTo pos (starEach es X.env)).any (·.1) = false := by rfl)
    (ht : eval (.Call (.Attribute o m apos) (e :: es) [] pos) X.env = (do
      let ov ← eval o X.env
      standAt apos.atName
      let (f, first) ← holding [ov] (getMethod ov m pl)
      callWith pos f first (backTo pos (starEach (e :: es) X.env)) (backToKw pos (keywordEach [] X.env))) := by rfl) : PE X (.Call (.Attribute o m apos) (e :: es) [] pos) (tMet C m sp to t) := by
  subst hK
  obtain ⟨fd, G, b, _⟩ := F
  rw [← tMet_eq]
  exact pe_meth he cl me (G X.base) hr b .nil pass0 ha hst hpl ht
theorem pe_met0 {pl : Sem Bool} (F : FnA X.prog X.w X.K X.mg (He.ma K C m) k ps sp) (hK : X.K = K) (cl : Cls K C) (me : Meth K C m (He.ma K C m)) (hr : Room k X.A) (he : PE X o to)
    (ht : eval (.Call (.Attribute o m apos) [] [] pos) X.env = (do
      let ov ← eval o X.env
      standAt apos.atName
      let (f, first) ← holding [ov] (getMethod ov m pl)
      callWith pos f first (backTo pos (starEach [] X.env)) (backToKw pos (keywordEach [] X.env))) := by rfl) : PE X (.Call (.Attribute o m apos) [] [] pos) (tMet C m sp to tNil) := by
  subst hK
  obtain ⟨fd, G, b, _⟩ := F
  rw [← tMet_eq]
  exact pe_meth0 he cl me (G X.base) hr b .nil pass0 ht
theorem pe_mkI (F : FnA X.prog X.w X.K X.mg (He.ma K C "__init__") k ps sp) (hK : X.K = K) (M : Mk K C (He.ma K C "__init__")) (hm : X.mg x = some (.ref C)) (hr : Room (k + 1) X.A) (hg : Gl X x) (ha : PA X (e :: es) t)
    (hdb : (x == ("__debug__" : Str)) = false := by decide) (he : starEach (e :: es) X.env = (false, eval e X.env) :: starEach es X.env := by rfl) (hpl : (backTo pos (starEach es X.env)).any (·.1) = false := by rfl) :
    PE X (.Call (.Name x p) (e :: es) [] pos) (tMkI C sp t) := by
  subst hK
  obtain ⟨fd, G, b, _⟩ := F
  rw [← tMkI_eq]
  exact pe_make M (G X.base) hr hg hm b .nil pass0 ha hdb he hpl
theorem pe_mkI0 (F : FnA X.prog X.w X.K X.mg (He.ma K C "__init__") k ps sp) (hK : X.K = K) (M : Mk K C (He.ma K C "__init__")) (hm : X.mg x = some (.ref C)) (hr : Room (k + 1) X.A) (hg : Gl X x)
    (hdb : (x == ("__debug__" : Str)) = false := by decide) : PE X (.Call (.Name x p) [] [] pos) (tMkI C sp tNil) := by
  subst hK
  obtain ⟨fd, G, b, _⟩ := F
  rw [← tMkI_eq]
  exact pe_make0 M (G X.base) hr hg hm b .nil pass0 hdb
theorem pe_fldK {f : Str} (hK : X.K = K) (he : PE X o to) (hb : attributeBase o f X.env (eval o X.env) = eval o X.env := by rfl) : PE X (.Attribute o f pos) (tFld K to f) := by
  subst hK
  exact pe_fld he hb
end
section
variable {K : PySem.W.Frag} {σ : L2.St} {H : Hp} {Q : VK} {p C dx : Addr} {fs : List (Str × V)} {m f : Str} {v y : V} {sp : Sp} {to tv : TE} {t : TA} {nx : L2.St → Hp → Prop} {rt : VK} {bk ct : L2.St → Hp → Prop}
theorem w_met (k : to σ H fun x H1 => ∃ a dx fs, x = .ref a ∧ H1 a = some (.ins C dx fs) ∧ fs.lookup m = none ∧ t σ H1 fun vs H2 => sp (x :: vs) H2 Q E0) : tMet C m sp to t σ H Q := k
theorem w_metAt {R : Prop} (h : H p = some (.ins C dx fs)) (l : fs.lookup m = none) (k : R) : ∃ a dx fs, V.ref p = .ref a ∧ H a = some (.ins C dx fs) ∧ fs.lookup m = none ∧ R := ⟨p, dx, fs, rfl, h, l, k⟩
def NewI (C : Addr) (sp : Sp) (vs : List V) (H : Hp) (Q : VK) : Prop := ∀ x dx, H x = none → H dx = none → dx ≠ x → sp (.ref x :: vs) (upd (upd H dx (.own x)) x (.ins C dx [])) (fun v H2 => v = .non ∧ Q (.ref x) H2) E0
theorem w_mkI (k : t σ H fun vs H1 => NewI C sp vs H1 Q) : tMkI C sp t σ H Q := k
theorem w_newI {vs : List V} (k : ∀ x dx H', H x = none → Same H H' → H' x = some (.ins C dx []) → sp (.ref x :: vs) H' (fun v H2 => v = .non ∧ Q (.ref x) H2) E0) : NewI C sp vs H Q := fun x dx hx hdx ne =>
  k x dx _ hx (fun b o e => by
    rw [upd_ne (ne_of_none e hx), upd_ne (ne_of_none e hdx)]
    exact e) upd_same
theorem w_fld (k : to σ H fun x H1 => ∃ a C dx fs v, x = .ref a ∧ H1 a = some (.ins C dx fs) ∧ Cls K C ∧ NoAttr K C f ∧ fs.lookup f = some v ∧ Q v H1) : tFld K to f σ H Q := k
theorem w_fldAt {R : V → Prop} (h : H p = some (.ins C dx fs)) (cl : Cls K C) (na : NoAttr K C f) (l : fs.lookup f = some v) (k : R v) : ∃ a C dx fs v, V.ref p = .ref a ∧ H a = some (.ins C dx fs) ∧ Cls K C ∧ NoAttr K C f ∧ fs.lookup f = some v ∧ R v := ⟨p, C, dx, fs, v, rfl, h, cl, na, l, k⟩
theorem w_sfld (k : tv σ H fun y H1 => to σ H1 fun x H2 => ∃ a C dx fs, x = .ref a ∧ H2 a = some (.ins C dx fs) ∧ Cls K C ∧ NoAttr K C f ∧ fs.length < 1000 ∧ ChgO a (.ins C dx (putF f y fs)) H2 (nx σ)) : sFld K to tv f ⟨nx, rt, bk, ct⟩ σ H := k
theorem w_sfldAt {S : Hp → Prop} {gs : List (Str × V)} (h : H p = some (.ins C dx fs)) (cl : Cls K C) (na : NoAttr K C f) (hl : fs.length < 1000) (e : putF f y fs = gs) (k : ChgO p (.ins C dx gs) H S) :
    ∃ a C dx fs, V.ref p = .ref a ∧ H a = some (.ins C dx fs) ∧ Cls K C ∧ NoAttr K C f ∧ fs.length < 1000 ∧ ChgO a (.ins C dx (putF f y fs)) H S := ⟨p, C, dx, fs, rfl, h, cl, na, hl, by rw [e]; exact k⟩
end

end J
namespace J
open PySem PySem.Spec PyProof.Rows L2
--plain
/-! ### exceptions as values: made by an own class with its own __init__; RowsError.__init__(self, ..) of an own class -/
section
open PySem PySem.Spec PyProof.Rows
namespace EXV
/-- what C's __init__ answers: None; the thing itself goes on -/
def mkQ (a : Addr) (Q : VK) : VK := fun v H2 => v = .non ∧ Q (.ref a) H2
/-- C(e, ..) as a value: the thing stays as it is left by C's __init__ -/
def tMkV (C : Addr) (sp : Sp) (ta : TA) : TE := fun σ H Q => ta σ H fun vs H1 => vs.length ≤ 1000 ∧ ∀ a, H1 a = none → sp (.ref a :: vs) (upd H1 a (exo a C none)) (mkQ a Q) (fun _ _ _ => False)
theorem w_mkV {C : Addr} {sp : Sp} {ta : TA} {σ : L2.St} {H : Hp} {Q : VK} (k : ta σ H fun vs H1 => vs.length ≤ 1000 ∧ ∀ a, H1 a = none → sp (.ref a :: vs) (upd H1 a (exo a C none)) (mkQ a Q) (fun _ _ _ => False)) : tMkV C sp ta σ H Q := k
section
variable {X : Cx} {e : Expr} {es : List Expr} {ta : TA} {p p1 p2 pos : Pos}
theorem run_mkV {CX : CXT} {C fI : Addr} {k : Nat} {fd : FuncData} {ps : List Str} {sp : Sp} {pins : List (Addr × Obj)} {σ : L2.St} {H1 : Hp} {s1 : Shared} {Q : VK} {vs : List V} {us : List Value} (T : OexC X.K C) (iC : PySem.W.findIn X.K (.ref C) "__init__" = some (some (.ref fI))) (tI : PySem.W.typeIn X.K (.ref fI) = some (.type "function"))
    (F1 : FnOk X.prog X.w X.K X.mg X.base CX k fI fd ps sp) (hr : Room (k + 1) X.A) (hb : Binds X.K fd ps []) (hx : Passes CX X (fun _ _ _ => False)) (I1 : Inv X pins σ H1 s1) (r1 : Vals vs us) (hz : vs.length ≤ 1000)
    (q1 : ∀ a, H1 a = none → sp (.ref a :: vs) (upd H1 a (exo a C none)) (mkQ a Q) (fun _ _ _ => False)) : wpAny (model X.prog X.w) X.A (call (.ref C) us) (EP X pins σ Q) X.xe s1 := by
  obtain ⟨nm, q, N, bs, bm, sn, sub, ab, col, dd, k0, k1, k2, k3, k5, hC, hbm⟩ := T.cls
  obtain ⟨hp, g, dr, tk, os⟩ := s1
  have new : hp.objs.size ≤ hp.objs.size + 1 := Nat.le_succ _
  have hq := q1 (hp.objs.size + 1) (I1.hok.fresh new)
  have keep : ∀ b o, hp.get? b = some o → ((hp.push (PySem.W.kdv_tup us)).push (PySem.HandSPX.excO C hp.objs.size)).get? b = some o := fun b o z => Heap.get?_push_of_some _ (Heap.get?_push_of_some _ z)
  have at1 : ((hp.push (PySem.W.kdv_tup us)).push (PySem.HandSPX.excO C hp.objs.size)).get? (hp.objs.size + 1) = some (PySem.HandSPX.excO C hp.objs.size) := by heap_get
  have I2 : Inv X pins σ (upd H1 (hp.objs.size + 1) (exo (hp.objs.size + 1) C none)) ⟨(hp.push (PySem.W.kdv_tup us)).push (PySem.HandSPX.excO C hp.objs.size), g, dr, tk, os⟩ :=
    I1.laid (t' := tk) (a := hp.objs.size + 1) (o := exo (hp.objs.size + 1) C none) (h' := (hp.push (PySem.W.kdv_tup us)).push (PySem.HandSPX.excO C hp.objs.size)) keep new (exo_ok at1)
  have r2 : Vals (V.ref (hp.objs.size + 1) :: vs) (Value.ref (hp.objs.size + 1) :: us) := .cons rfl r1
  have hl : (Value.ref (hp.objs.size + 1) :: us ++ []).length = ps.length := by
    rw [List.append_nil]
    have z := r2.length
    rw [F1.len _ _ _ _ hq] at z
    exact z.symm
  have hus : us.length ≤ sizeLine := by
    rw [← Paired.length r1, sizeLine_eq]
    omega
  have bd := hb _ (Value.ref (hp.objs.size + 1) :: us) I2.kIn hl
  rw [List.append_nil] at bd
  refine wpAny_call (PySem.HandSPX.call_own F.excBase_ValueError (fun Y => PySem.HandSPX.refsVE_contains Y bm hbm) (I1.kIn _ _ hC) (PySem.W.looks_findIn I1.kIn iC) (fun self => PySem.W.bind_fn I1.kIn self tI) hus
    (codeAny_mono (F1.run _ X.stack _ _ ⟨Value.ref (hp.objs.size + 1) :: us, []⟩ (Value.ref (hp.objs.size + 1) :: us) _ _ (fun _ _ _ => False) (hr.make C us []) (I2.env0.make C us []) bd r2 hq) fun r s' hq' => ?_))
  cases r with
  | error er => exact hx pins σ _ _ er s' I2 hq'
  | ok fl =>
    cases fl with
    | ret u =>
      obtain ⟨v, H2, os2, bare2, un2, hok2, rv, ev, q2⟩ := hq'
      subst ev
      exact ⟨rv, .ref (hp.objs.size + 1), H2, I2.call' (ch := []) os2 un2 hok2 bare2 (fun b z => absurd z (by simp)), rfl, q2⟩
    | next => exact False.elim hq'
    | brk => exact False.elim hq'
    | cont => exact False.elim hq'
theorem pe_mkV {CX : CXT} {x : Str} {C fI : Addr} {k : Nat} {fd : FuncData} {ps : List Str} {sp : Sp} (T : OexC X.K C) (iC : PySem.W.findIn X.K (.ref C) "__init__" = some (some (.ref fI))) (tI : PySem.W.typeIn X.K (.ref fI) = some (.type "function"))
    (F1 : FnOk X.prog X.w X.K X.mg X.base CX k fI fd ps sp) (hr : Room (k + 1) X.A) (hb : Binds X.K fd ps []) (hx : Passes CX X (fun _ _ _ => False)) (hg : Gl X x) (hm : X.mg x = some (.ref C)) (ha : PA X (e :: es) ta)
    (hdb : (x == ("__debug__" : Str)) = false := by decide) (he : starEach (e :: es) X.env = (false, eval e X.env) :: starEach es X.env := by rfl) (hpl : (backTo pos (starEach es X.env)).any (·.1) = false := by rfl) :
    PE X (.Call (.Name x p) (e :: es) [] pos) (tMkV C sp ta) := by
  refine ⟨fun pins s σ H Q I h => ?_⟩
  refine wpAny_Call_Name_kw (ld_glob I hg hm ?_ hdb)
  exact PySem.W.callWith_K (h₀ := X.base) I.ok.mod.kin T.kC (thn (ha.run pos pins s σ H _ I h) fun us s1 ⟨vs, H1, I1, r1, hz, q1⟩ => ⟨I1.kIn, run_mkV T iC tI F1 hr hb hx I1 r1 hz q1⟩) he hpl
theorem pe_mkV0 {CX : CXT} {x : Str} {C fI : Addr} {k : Nat} {fd : FuncData} {ps : List Str} {sp : Sp} (T : OexC X.K C) (iC : PySem.W.findIn X.K (.ref C) "__init__" = some (some (.ref fI))) (tI : PySem.W.typeIn X.K (.ref fI) = some (.type "function"))
    (F1 : FnOk X.prog X.w X.K X.mg X.base CX k fI fd ps sp) (hr : Room (k + 1) X.A) (hb : Binds X.K fd ps []) (hx : Passes CX X (fun _ _ _ => False)) (hg : Gl X x) (hm : X.mg x = some (.ref C)) (hdb : (x == ("__debug__" : Str)) = false := by decide) :
    PE X (.Call (.Name x p) [] [] pos) (tMkV C sp tNil) := by
  refine ⟨fun pins s σ H Q I h => ?_⟩
  refine wpAny_Call_Name_kw (ld_glob I hg hm ?_ hdb)
  exact PySem.W.callWith_K0 I.kIn T.kC (run_mkV (us := []) T iC tI F1 hr hb hx I .nil h.1 h.2)
/-- D.__init__(self, ..), D an own class that stands under ValueError and has no __init__ of its own -/
theorem pe_roinit {pl : Sem Bool} {x : Str} {D : Addr} {mc : Value} (hg : Gl X x) (hm : X.mg x = some (.ref D)) (cr : ClX.CRead X.K D mc) (vV : PySem.W.findCls X.K (.ref D) mc "__init__" = some (.val (.builtin "ValueError.__init__"))) (ha : PA X (e :: es) ta)
    (hdb : (x == ("__debug__" : Str)) = false := by decide)
    (hc : eval (.Call (.Attribute (.Name x p1) "__init__" p2) (e :: es) [] pos) X.env = (do
      let ov ← eval (.Name x p1) X.env
      standAt p2.atName
      let (f, first) ← holding [ov] (getMethod ov "__init__" pl)
      callWith pos f first (backTo pos (starEach (e :: es) X.env)) (backToKw pos (keywordEach [] X.env))) := by rfl)
    (he : starEach (e :: es) X.env = (false, eval e X.env) :: starEach es X.env := by rfl) (hpl : (backTo pos (starEach es X.env)).any (·.1) = false := by rfl) :
    PE X (.Call (.Attribute (.Name x p1) "__init__" p2) (e :: es) [] pos) (tVeI X.K ta) := by
  refine ⟨fun pins s σ H Q I h => ?_⟩
  refine PySem.W.methodCall_KW (ld_glob I hg hm ?_ hdb) hc
  refine PySem.W.method_cls I.kIn cr.ga ?_
  refine PySem.W.cls_value I.kIn cr.rd vV (by decide +kernel) ?_
  show wpAny _ _ (callWith pos (Value.builtin "ValueError.__init__") [] (backTo pos (starEach (e :: es) X.env)) []) _ _ _
  refine PyProof.Rows.callWith_method1 (thn (ha.run pos pins _ σ H _ (I.tok _) h) fun us s1 ⟨vs, H1, I1, r1, a, C, ws, ev, hl, T, ea, q⟩ => ?_) he hpl
  subst ev
  cases r1 with
  | @cons _ u0 _ ur ra rw' =>
    obtain rfl : u0 = Value.ref a := ra
    have hlen : ur.length ≤ sizeLine := by
      rw [← Paired.length rw', sizeLine_eq]
      omega
    exact oinit_ok T I1 ea hlen fun s' J => ⟨.non, H1, J, rfl, q⟩
end
/-! isinstance(e, C), e an exception that has its dict; e.f -/
section
open PySem.W PySem.Calls
variable {prog : Program} {w : World} {A : Around} {E : Value → Shared → Prop} {s : Shared} {K : Frag} {x D : Addr} {ox : Obj} {od : Option Obj}
theorem find_class (C : ExcC K D) : findObj K D od "__class__" = some (.bind (.builtin "getset_descriptor.__get__") (.builtin "object.__class__")) := by
  have hc : (clsIn K D).isSome = true := by
    obtain ⟨cd, hc, _⟩ := any_some C.hd
    rw [hc]; rfl
  cases od with
  | none => exact findObj_dataN hc C.ha C.hn C.ht
  | some o => exact findObj_data hc C.ha C.hn C.ht
/-- the class that an exception tells of itself -/
theorem class_told {Q : Option Value → Shared → Prop} (C : ExcC K D) (X : K.In s.heap) (I : InstAt s.heap x ox D od) (h : Q (some (.ref D)) { s with toks := s.toks + 1 }) : wpAny (model prog w) A (getAttr? (.ref x) "__class__") Q E s := by
  have hf := find_class (od := od) C
  obtain ⟨hp, g, d, t, os⟩ := s
  have T := I.type (M := model prog w)
  have G := looks_findIn (M := model prog w) X C.hg
  have N := looks_findIn (M := model prog w) X C.hk
  have W := looks_find (M := model prog w) X I hf
  have up : Looks (model prog w) hp (isInstance (.ref x) (.type "BaseException")) true := T.andThen (looks_subIn X C.hs)
  have ne : (Value.builtin "BaseException.__getattribute__" == Value.builtin "object.__getattribute__") = false := by decide +kernel
  unfold getAttr? getAttrBy? getAttrBy
  refine wpAny_bind (wpAny_mkText (wpAny_bind (wpAny_attempt (wpAny_holding (wpAny_bind (T.at (wpAny_bind (G.at ?_))))))))
  show wpAny _ _ (if (onTheHeap (Value.ref D) && Value.builtin "BaseException.__getattribute__" == Value.builtin "object.__getattribute__") = true then _ else _) _ _ _
  rw [ne, Bool.and_false, if_neg Bool.false_ne_true]
  unfold getAttrByItsOwn hookBefore
  refine wpAny_bind ?_
  rw [if_pos (show onTheHeap (Value.ref D) = true from rfl)]
  refine N.at (wpAny_bind (wpAny_attempt (wpAny_holding ?_)))
  unfold callGetattribute
  rw [show (false && onTheHeap (Value.builtin "BaseException.__getattribute__")) = false from rfl, if_neg Bool.false_ne_true]
  unfold boundAndCalled
  rw [PySem.F.excAttr_ValueError.ga.bind (.ref x)]
  refine wpAny_bind (wpAny_pure ?_)
  show wpAny _ _ (call (.builtin "BaseException.__getattribute__") [.ref x, .str "__class__" t]) _ _ _
  refine wpAny_call (codeAny_call_builtin PySem.F.excAttr_ValueError.ga.plain PySem.F.entry_bexc_ga ?_)
  refine @check_slot (model prog w) _ _ ⟨hp, g, d, t + 1, os⟩ "BaseException.__getattribute__" "BaseException" "__getattribute__" (.ref x) [.str "__class__" t] [] _ (by decide +kernel) (by decide +kernel) up (PySem.F.args_bexc_ga (.ref x) (.str "__class__" t)) ?_
  unfold Builtin.«object.__getattribute__»
  refine wpAny_bind (wpAny_of_eq (a := ((Value.ref x : Value), [Value.str "__class__" t])) (by first | rfl | (simp only [slotArgs]; rfl)) ?_)
  refine wpAny_bind (wpAny_pure (wpAny_bind (T.at (wpAny_bind (W.at ?_)))))
  show wpAny _ _ (holding [Value.builtin "object.__class__"] (call (.builtin "getset_descriptor.__get__") [.builtin "object.__class__", .ref x, .ref D]) >>= ret) _ _ _
  refine wpAny_bind (wpAny_holding (wpAny_call (class_get (s := ⟨hp, g, d, t + 1, os⟩) (ox := ox) (od := od) X I C.hm ?_)))
  refine wpAny_pure ?_
  show wpAny _ _ (handedOut (.ref D)) _ _ _
  rw [handedOut_of (v := .ref D) rfl]
  first
    | exact wpAny_pure (wpAny_pure h)
    | exact wpAny_pure h
    | exact wpAny_pure (wpAny_bind (wpAny_pure (wpAny_pure h)))
theorem kit_exc (C : ExcC K D) : KitX K (.ref x) (.ref D) (fun h => InstAt h x ox D od) where
  ty := fun _ _ _ I => I.type
  it := fun M h X _ => by
    obtain ⟨cd, hc, _⟩ := any_some C.hd
    intro A' Q' E' s' k q
    unfold clsIn at hc
    split at hc
    · rename_i ho
      unfold isType loadHead
      exact wpAny_bind (wpAny_loadPart (k _ _ (X _ _ ho)) (wpAny_pure q))
    · cases hc
  ne := fun h tp dd its n sl X htp => (handS_kitx_exc (x := x) (ox := ox) C.hg C.hk C.hs C.hd C.ha C.hn C.ht C.hm).ne h tp dd its n sl X htp
  ca := fun X I k => class_told C X I k
end
/-- a value's type, exceptions too -/
inductive TyE (K : PySem.W.Frag) (H : Hp) : V → Value → Prop where
  | base {x : V} {t : Value} (h : TyX K H x t) : TyE K H x t
  | exc0 {a C : Addr} (e : H a = some (exo a C none)) (c : ExcC K C) : TyE K H (.ref a) (.ref C)
  | exc1 {a C dx : Addr} {fs : List (Str × V)} (e : H a = some (exo a C (some dx))) (d : H dx = some (exd dx fs)) (c : ExcC K C) : TyE K H (.ref a) (.ref C)
  | exv {a C : Addr} (e : H a = some (ExO (.ref C) a)) (c : ExcC K C) : TyE K H (.ref a) (.ref C)
section
variable {X : Cx} {pins : List (Addr × Obj)} {σ : L2.St} {H : Hp} {s : Shared} {K : PySem.W.Frag}
theorem inst0 (I : Inv X pins σ H s) {a C : Addr} (e : H a = some (exo a C none)) : ∃ ox, PySem.W.InstAt s.heap a ox C none := by
  obtain ⟨t1, he⟩ := exo_at I.hok e
  exact ⟨_, he, rfl, rfl, trivial⟩
theorem inst1 (I : Inv X pins σ H s) {a C dx : Addr} {fs : List (Str × V)} (e : H a = some (exo a C (some dx))) (d : H dx = some (exd dx fs)) : ∃ (ox od : Obj) (mA : Str → Option Value), PySem.W.InstAt s.heap a ox C (some od) ∧ (∀ f, PySem.W.lookIn f od = some (mA f)) ∧ ∀ f, RelO (fs.lookup f) (mA f) := by
  obtain ⟨t1, he⟩ := exo_at I.hok e
  obtain ⟨mA, hns, hr⟩ := exd_at I.hok d
  obtain ⟨od, ho, hl⟩ := lookIn_ns hns
  exact ⟨_, od, mA, ⟨he, rfl, rfl, ho⟩, hl, hr⟩
theorem kit_ofE {x : V} {u t : Value} (I : Inv X pins σ H s) (rx : RelV x u) (ty : TyE X.K H x t) : ∃ P : Heap → Prop, PySem.W.KitX X.K u t P ∧ P s.heap ∧ u ≠ .builtin "__main__.__loader__#opaque" := by
  cases ty with
  | base h => exact kit_of I rx h
  | @exc0 a C e c =>
    cases (show u = Value.ref a from rx)
    obtain ⟨ox, J⟩ := inst0 I e
    exact ⟨_, kit_exc c, J, fun z => nomatch z⟩
  | @exc1 a C dx fs e d c =>
    cases (show u = Value.ref a from rx)
    obtain ⟨ox, od, mA, J, _⟩ := inst1 I e d
    exact ⟨_, kit_exc c, J, fun z => nomatch z⟩
  | @exv a C e c =>
    cases (show u = Value.ref a from rx)
    obtain ⟨⟨oe, vs, ho, ⟨h1, h2⟩, hd, _⟩, _⟩ := I.hok a _ e
    refine ⟨_, kit_exc (ox := oe) (od := none) c, ⟨ho, h1, by unfold PySem.W.notCls; rw [hd], by rw [h2]; trivial⟩, fun z => nomatch z⟩
def rIsiE (K : PySem.W.Frag) : List V → Hp → VK → Prop := fun xs H Q => ∃ (x c : V) (t u : Value) (b : Bool), xs = [x, c] ∧ ClsV c u ∧ TyE K H x t ∧ PySem.W.kitOne K t u = some b ∧ Q (.bl b) H
def rIsiTE (K : PySem.W.Frag) : List V → Hp → VK → Prop := fun xs H Q => ∃ (x : V) (tp : Addr) (cs : List V) (t : Value) (us : List Value) (b : Bool), xs = [x, .ref tp] ∧ H tp = some (.tup cs) ∧ Paired ClsV cs us ∧ TyE K H x t ∧ PySem.W.kitAny K t us = some b ∧ Q (.bl b) H
theorem call_isiE (hK : X.K = K) : CallR X (.builtin "isinstance") (rIsiE K) := by
  subst hK
  intro pins s σ H xs us Q I r h
  obtain ⟨x, c, t, u, b, rfl, k, ty, e, q⟩ := h
  obtain ⟨u1, u2, rfl, r1, r2⟩ := vals2 r
  have e2 := k.eq r2
  subst e2
  obtain ⟨P, Z, p, hx⟩ := kit_ofE I r1 ty
  exact PySem.W.kia_one Z I.kIn p e hx fun tk => ⟨.bl b, H, I.tok tk, rfl, q⟩
theorem call_isiTE (hK : X.K = K) : CallR X (.builtin "isinstance") (rIsiTE K) := by
  subst hK
  intro pins s σ H xs us Q I r h
  obtain ⟨x, tp, cs, t, ws, b, rfl, hT, k, ty, e, q⟩ := h
  obtain ⟨u1, u2, rfl, r1, r2⟩ := vals2 r
  cases (show u2 = Value.ref tp from r2)
  obtain ⟨P, Z, p, hx⟩ := kit_ofE I r1 ty
  obtain ⟨_, its, rv, o, h1, h2, n, h3⟩ := (show ObjOk X.prog X.w H s.heap tp (.tup cs) from I.hok tp _ hT)
  have e3 := ClsV.all k rv
  subst e3
  obtain ⟨oc, od, dt, sl⟩ := o
  simp only at h2 h3
  subst h2 h3
  exact PySem.W.kia_tup Z I.kIn p h1 e hx fun tk => ⟨.bl b, H, I.tok tk, rfl, q⟩
/-- e.f -/
def tXv (K : PySem.W.Frag) (f : Str) (te : TE) : TE := fun σ H Q => te σ H fun x H1 => ∃ (a C dx : Addr) (fs : List (Str × V)) (v : V), x = .ref a ∧ XfC K C ∧ PySem.W.findIn K (.ref C) f = some none ∧ H1 a = some (exo a C (some dx)) ∧ H1 dx = some (exd dx fs) ∧ fs.lookup f = some v ∧ Q v H1
theorem w_xv {f : Str} {te : TE} {Q : VK} (k : te σ H fun x H1 => ∃ (a C dx : Addr) (fs : List (Str × V)) (v : V), x = .ref a ∧ XfC K C ∧ PySem.W.findIn K (.ref C) f = some none ∧ H1 a = some (exo a C (some dx)) ∧ H1 dx = some (exd dx fs) ∧ fs.lookup f = some v ∧ Q v H1) : tXv K f te σ H Q := k
theorem pe_xv {e : Expr} {te : TE} {pos : Pos} {n : Str} (hK : X.K = K) (he : PE X e te) (hb : attributeBase e n X.env (eval e X.env) = eval e X.env := by rfl) : PE X (.Attribute e n pos) (tXv K n te) := by
  subst hK
  refine ⟨fun pins s σ H Q I h => ?_⟩
  refine attr_of hb (thn (he.run pins s σ H _ I h) fun u s1 hh => ?_)
  obtain ⟨x, H1, I1, rx, a, C, dx, fs, v, ex, T, hno, ea, ed, l, q⟩ := hh
  subst ex
  obtain rfl : u = Value.ref a := rx
  obtain ⟨ox, od, mA, J, hl, hr⟩ := inst1 I1 ea ed
  obtain ⟨u, hu, ru⟩ := RelO.some_of (v := v) (o := mA n) (by rw [← l]; exact hr n)
  exact HandSPX.exc_get I1.kIn J T.ga T.gg T.exC (PySem.W.findObj_own T.hdC hno rfl (by rw [hl, hu])) (handed_of ru) ⟨v, H1, I1.tok _, ru, q⟩
end
/-! what a class tells, asked of the written part -/
section
variable {K : PySem.W.Frag} {C : Addr}
def objB (K : PySem.W.Frag) (C : Addr) : Bool := match K.lookup C with
  | some ⟨.type "type", _, .cls cd, sl⟩ => (match cd.mro, sl.toList with
    | .ref C' :: bm, [_, _, _, _, some (.builtin n), _] => C' == C && n == "ValueError.__new__" && !cd.hasDel && cd.hasDict && PySem.HandSPX.refsVE bm
    | _, _ => false)
  | _ => false
theorem objB_ok (q : objB K C = true) : ∃ nm q N bs bm sn sub ab col dd k0 k1 k2 k3 k5, K.lookup C = some (excClassObj nm q C N bs bm true sn sub ab col dd k0 k1 k2 k3 k5 "ValueError.__new__") ∧ PySem.HandSPX.refsVE bm = true := by
  unfold objB at q
  split at q
  · rename_i dd cd sl ho
    split at q
    · rename_i C' bm k0 k1 k2 k3 n k5 hm hs
      simp only [Bool.and_eq_true, beq_iff_eq, Bool.not_eq_true'] at q
      obtain ⟨⟨⟨⟨rfl, rfl⟩, hdel⟩, hdi⟩, ht⟩ := q
      obtain ⟨nm, bs, mro, ns, qn, hd, sn, sub, ab, col, del⟩ := cd
      dsimp only at hm hdel hdi
      subst hm hdel hdi
      have hsl : sl = #[k0, k1, k2, k3, some (.builtin "ValueError.__new__"), k5] := by
        obtain ⟨l⟩ := sl
        simp only at hs
        rw [hs]
      subst hsl
      exact ⟨nm, qn, ns, bs, bm, sn, sub, ab, col, dd, k0, k1, k2, k3, k5, ho, ht⟩
    · cases q
  · cases q
/-- all that is asked of an exception class -/
structure Ex (K : PySem.W.Frag) (C : Addr) : Prop where
  o : OexC K C
  x : XfC K C
  e : ExcC K C
def exCB (K : PySem.W.Frag) (C : Addr) : Bool := objB K C && (decide (PySem.W.findIn K (.ref C) "__setattr__" = some (some (.builtin "object.__setattr__"))) && (decide (PySem.W.subIn K (.ref C) (.type "BaseException") = some true) && (decide (PySem.W.typeIn K (.ref C) = some (.type "type")) && (PySem.W.keepIn K (.ref C) && (xfB K C &&
  (decide (PySem.W.findIn K (.ref C) "__class__" = some (some (.builtin "object.__class__"))) && (decide (PySem.W.specialIn K (.builtin "object.__class__") "__get__" = some (some (.builtin "getset_descriptor.__get__"))) && (decide (PySem.W.takesIn K (.builtin "object.__class__") = some true) && decide (PySem.W.mroIn K C (.type "object") = some true)))))))))
theorem exCB_ok (h : exCB K C = true) : Ex K C := by
  unfold exCB at h
  simp only [Bool.and_eq_true, decide_eq_true_eq] at h
  obtain ⟨h1, h2, h3, h4, h5, h6, h7, h8, h9, h10⟩ := h
  have x := xfB_ok h6
  exact ⟨⟨objB_ok h1, h2, h3, h4, h5⟩, x, ⟨x.ga, x.gg, h3, x.hdC, h7, h8, h9, h10⟩⟩
/-- a class whose __init__ is ValueError's own -/
structure Ro (K : PySem.W.Frag) (D : Addr) : Prop where
  r : ClX.CRead K D (.type "type")
  v : PySem.W.findCls K (.ref D) (.type "type") "__init__" = some (.val (.builtin "ValueError.__init__"))
  q : PySem.W.excIn K D He.veBase "ValueError.__new__" = true
def roB (K : PySem.W.Frag) (D : Addr) : Bool := PySem.W.excIn K D He.veBase "ValueError.__new__" && (PySem.W.readsIn K D (.type "type") && (decide (PySem.W.specialIn K (.ref D) "__getattribute__" = some (some (.builtin "type.__getattribute__"))) && (match PySem.W.findCls K (.ref D) (.type "type") "__init__" with
  | some (.val (.builtin n)) => n == "ValueError.__init__"
  | _ => false)))
theorem roB_ok (h : roB K C = true) : Ro K C := by
  unfold roB at h
  simp only [Bool.and_eq_true, decide_eq_true_eq] at h
  obtain ⟨h0, h1, h2, h3⟩ := h
  refine ⟨⟨h1, h2⟩, ?_, h0⟩
  split at h3
  · rename_i n e
    rw [e, beq_iff_eq.mp h3]
  · cases h3
end
/-- its own __init__ -/
structure Ini (K : PySem.W.Frag) (C : Addr) : Prop where
  i : PySem.W.findIn K (.ref C) "__init__" = some (some (.ref (He.ma K C "__init__")))
  t : PySem.W.typeIn K (.ref (He.ma K C "__init__")) = some (.type "function")
def iniB (K : PySem.W.Frag) (C : Addr) : Bool := decide (PySem.W.findIn K (.ref C) "__init__" = some (some (.ref (He.ma K C "__init__")))) && decide (PySem.W.typeIn K (.ref (He.ma K C "__init__")) = some (.type "function"))
theorem iniB_ok {K : PySem.W.Frag} {C : Addr} (h : iniB K C = true) : Ini K C := by
  unfold iniB at h
  simp only [Bool.and_eq_true, decide_eq_true_eq] at h
  exact ⟨h.1, h.2⟩
theorem all1_ok {p : Str → Prop} [∀ C, Decidable (p C)] {L : List Str} (h : (L.all fun C => decide (p C)) = true) : ∀ C ∈ L, p C := fun C hC => of_decide_eq_true (List.all_eq_true.mp h C hC)
theorem all22_ok {p : Str → Str → Prop} [∀ C D, Decidable (p C D)] {L M : List Str} (h : (L.all fun C => M.all fun D => decide (p C D)) = true) : ∀ C ∈ L, ∀ D ∈ M, p C D := fun C hC D hD => of_decide_eq_true (List.all_eq_true.mp (List.all_eq_true.mp h C hC) D hD)
theorem all2_ok {p : Str → Str → Prop} [∀ C D, Decidable (p C D)] {L : List Str} (h : (L.all fun C => L.all fun D => decide (p C D)) = true) : ∀ C ∈ L, ∀ D ∈ L, p C D := fun C hC D hD => of_decide_eq_true (List.all_eq_true.mp (List.all_eq_true.mp h C hC) D hD)
section
variable {X : Cx} {K : PySem.W.Frag} {C : Addr} {k : Nat} {ps : List Str} {sp : Sp} {x : Str} {e : Expr} {es : List Expr} {ta : TA} {p pos : Pos}
theorem pe_mkX (F : FnA X.prog X.w X.K X.mg (He.ma K C "__init__") k ps sp) (hK : X.K = K) (T : Ex K C) (M : Ini K C) (hm : X.mg x = some (.ref C)) (hr : Room (k + 1) X.A) (hg : Gl X x) (ha : PA X (e :: es) ta)
    (hdb : (x == ("__debug__" : Str)) = false := by decide) (he : starEach (e :: es) X.env = (false, eval e X.env) :: starEach es X.env := by rfl) (hpl : (backTo pos (starEach es X.env)).any (·.1) = false := by rfl) :
    PE X (.Call (.Name x p) (e :: es) [] pos) (tMkV C sp ta) := by
  subst hK
  obtain ⟨fd, G, b, _⟩ := F
  exact pe_mkV T.o M.i M.t (G X.base) hr b pass0 hg hm ha hdb he hpl
theorem pe_mkX0 (F : FnA X.prog X.w X.K X.mg (He.ma K C "__init__") k ps sp) (hK : X.K = K) (T : Ex K C) (M : Ini K C) (hm : X.mg x = some (.ref C)) (hr : Room (k + 1) X.A) (hg : Gl X x) (hdb : (x == ("__debug__" : Str)) = false := by decide) :
    PE X (.Call (.Name x p) [] [] pos) (tMkV C sp tNil) := by
  subst hK
  obtain ⟨fd, G, b, _⟩ := F
  exact pe_mkV0 T.o M.i M.t (G X.base) hr b pass0 hg hm hdb
/-- D(e), D without an own __init__, as a value -/
def tExR (D : Addr) (ta : TE) : TE := fun σ H Q => ta σ H fun _ H1 => ∀ a, H1 a = none → Q (.ref a) (upd H1 a (ExO (.ref D) a))
theorem pe_exR {D : Addr} {ta : TE} (hK : X.K = K) (R : Ro K D) (T : Ex K D) (hm : X.mg x = some (.ref D)) (hg : Gl X x) (ha : PE X e ta) (hs : starEach [e] X.env = (false, eval e X.env) :: starEach [] X.env := by rfl) (hdb : (x == ("__debug__" : Str)) = false := by decide) :
    PE X (.Call (.Name x p) [e] [] pos) (tExR D ta) := by
  subst hK
  exact pe_exc1 F.excBase_ValueError R.q hm T.o.kC hg ha hs hdb
end
end EXV
theorem boot_ValueError : bootBuiltins "ValueError" = some (.type "ValueError") := PyProof.Rows.Boot.«ValueError»
end

end J
namespace J
open PySem PySem.Spec PyProof.Rows L2
--plain
/-! ### defs that may raise, where nothing is being shown: what they keep, how they are called -/
section
open PySem PySem.Spec PyProof.Rows
namespace XL
/-- room, and nothing is being shown (no repr about) -/
structure Rm (k : Nat) (A : Around) : Prop where
  r : Room k A
  gd : A.guards = some []
section
variable {j k : Nat} {A : Around}
theorem Rm.mono (h : Rm k A) (l : j ≤ k) : Rm j A := ⟨h.r.mono l, h.gd⟩
theorem Rm.units (h : Rm k A) : A.units + 64 < cLine := h.r.units
theorem Rm.deeper (h : Rm (k + 1) A) (env : Env) : Rm k (A.deeper env) := ⟨h.r.deeper env, h.gd⟩
theorem guards_make {C : Addr} {us : List Value} {kw : List (Str × Value)} : (A.under (.builtin "type.__call__" ⟨.ref C :: us, kw⟩)).guards = A.guards := by
  obtain ⟨hd, d, fr, gd, u⟩ := A
  cases gd <;> first
    | rfl
    | simp [Around.under, Code.guards, Code.isGuard, guardIds, pushGuards]
theorem Rm.make (h : Rm (k + 1) A) (C : Addr) (us : List Value) (kw : List (Str × Value)) : Rm k (A.under (.builtin "type.__call__" ⟨.ref C :: us, kw⟩)) := ⟨h.r.make C us kw, guards_make.trans h.gd⟩
end
/-- what a def keeps -/
structure FnR (P : Program) (w : World) (K : PySem.W.Frag) (mg : Str → Option Value) (base : Heap) (k : Nat) (f : Addr) (fd : FuncData) (ps : List Str) (sp : Sp) : Prop where
  len : ∀ vs H Q E, sp vs H Q E → vs.length = ps.length
  run : ∀ (A : Around) (outer : List Env) (s : Shared) (H : Hp) (args : Args) (us : List Value) (vs : List V) (Q : VK) (E : XK), Rm k A → Env0 P w K mg base A outer s H →
    BindsTo s fd args (ps.zip us) → Vals vs us → sp vs H Q E → codeAny (model P w) A (.call (.ref f) args) (CR (L2.CX P w) outer P w H s Q E) s
/-- the rule: a def by its body -/
theorem fnR_of {P : Program} {w : World} {K : PySem.W.Frag} {mg : Str → Option Value} {base : Heap} {x qual : Str} {params : Arguments} {body : List Stmt} {sc : Scope} {f : Addr} {fd : FuncData} {N ps : List Str} {k : Nat} {sp : Sp}
    (F : FunD K x qual params body sc [] [] f fd) (S : FnScope N ps sc) (len : ∀ vs H Q E, sp vs H Q E → vs.length = ps.length)
    (hbody : ∀ (cdv : Value) (A : Around) (outer : List Env) (s : Shared) (H : Hp) (vs : List V) (Q : VK) (E : XK), Rm k (A.deeper (envOfC qual sc s.heap.objs.size f cdv)) → sp vs H Q E →
      ∃ t, PSs (cxOf (L2.CX P w) P w K mg base N qual sc f cdv A outer s H E) body t ∧ t ⟨fun _ H' => Q .non H', Q, fun _ _ => False, fun _ _ => False⟩ (start N vs) H) : FnR P w K mg base (k + 1) f fd ps sp := by
  obtain ⟨oc, od, dV, kV, doc, pm, an, cdv, ct, osl, rfl, lk, hcd, _, _⟩ := F.ex
  refine ⟨len, fun A outer s H args us vs Q E hr env0 hbind rv h0 => ?_⟩
  have stays : ∀ b o, base.get? b = some o → s.heap.get? b = some o := fun b o e => (env0.bs b o e).1
  have kin : K.In s.heap := env0.mod.kin.keeps stays
  have lim : s.heap.NoLimit := env0.mod.nolimit.keeps stays
  have kinds : ∀ q ∈ ps.zip us, sc.names.lookup q.1 = some .local ∨ (sc.names.lookup q.1 = some .cell ∧ ((cellsFrom (s.heap.objs.size + 1) sc.names []).lookup q.1).isSome = true) := by
    intro ⟨n, v⟩ hq
    exact (S.par n (List.of_mem_zip hq).1).imp id fun c => ⟨c, PySem.W.cellsFrom_some _ _ _ (.inl c)⟩
  refine codeAny_call_function hr.r.depth (kin _ _ lk) rfl S.co S.gen rfl (PySem.W.codeRec_of kin hcd) (hbind _ _ _ _ (wpAny_newFunctionEnv_cells S.kind kinds fun env ee s1 hx => ?_))
  subst ee
  refine ⟨lim.keeps hx.toInCall.keep, codeAny_func ?_⟩
  obtain ⟨t, ht, hq⟩ := hbody cdv A outer s H vs Q E (hr.deeper _) h0
  have J := inv_start (CX := L2.CX P w) (base := base) (qual := qual) (f := f) (cd := cdv) (E := E) S hr.r.hd env0 (len _ _ _ _ h0) rv hx
  refine wpAny_mono (ht.run [] s1 (start N vs) H _ J hq) ?_ (fun _ _ z => z)
  intro fl s' hs
  cases fl with
  | next =>
    obtain ⟨σ', H', J', q'⟩ := hs
    exact ⟨.non, H', J'.os, J'.bare, J'.base, J'.hok, rfl, q'⟩
  | ret u =>
    obtain ⟨v, σ', H', J', ru, q'⟩ := hs
    exact ⟨v, H', J'.os, J'.bare, J'.base, J'.hok, ru, q'⟩
  | brk => exact (hs.choose_spec.choose_spec.2 : False).elim
  | cont => exact (hs.choose_spec.choose_spec.2 : False).elim
/-- no exception wished for: none comes -/
theorem passE0 {X : Cx} (σ : L2.St) : PassesAt (L2.CX X.prog X.w) X σ E0 := fun _ _ _ _ _ _ c => by
  obtain ⟨_, _, _, _, _, _, _, _, _, _, _, _, z⟩ := c
  exact z.elim
section
variable {X : Cx} {k : Nat} {f C : Addr} {fd : FuncData} {ps : List Str} {sp : Sp} {E : L2.St → XK} {x m : Str} {p pos apos : Pos} {e o : Expr} {es : List Expr} {ta : TE} {t : TA} {pins : List (Addr × Obj)} {σ : L2.St} {H : Hp} {s : Shared} {Q : VK} {us : List Value} {vs : List V}
theorem ends_fn {Er : XK} (hx : PassesAt (L2.CX X.prog X.w) X σ Er) (I : Inv X pins σ H s) {r : Result} {s' : Shared} (h : CR (L2.CX X.prog X.w) X.stack X.prog X.w H s Q Er r s') :
    (match r with
      | .ok (.ret u) => EP X pins σ Q u s'
      | .ok _ => False
      | .error er => X.xe er s') := by
  cases r with
  | error er => exact hx _ _ _ _ _ I h
  | ok fl =>
    cases fl with
    | ret u => exact I.after h
    | next => exact h
    | brk => exact h
    | cont => exact h
theorem run_fnR (F : FnR X.prog X.w X.K X.mg X.base k f fd ps sp) (hr : Rm k X.A) (hb : Binds X.K fd ps []) (hx : PassesAt (L2.CX X.prog X.w) X σ (E σ)) (I : Inv X pins σ H s) (r : Vals vs us) (h : sp vs H Q (E σ)) :
    wpAny (model X.prog X.w) X.A (call (.ref f) us) (EP X pins σ Q) X.xe s := by
  have b := hb s us I.kIn (by rw [List.append_nil, ← r.length]; exact F.len _ _ _ _ h)
  rw [List.append_nil] at b
  refine wpAny_call (codeAny_mono (F.run X.A X.stack s H ⟨us, []⟩ us vs Q (E σ) hr I.env0 b r h) fun r' s' hq => ?_)
  have z := ends_fn hx I hq
  cases r' with
  | error er => exact z
  | ok fl => cases fl <;> exact z
/-- f(e, ..) -/
def tCallX (sp : Sp) (E : L2.St → XK) (t : TA) : TE := fun σ H Q => t σ H fun vs H1 => sp vs H1 Q (E σ)
theorem pe_callR (F : FnR X.prog X.w X.K X.mg X.base k f fd ps sp) (hr : Rm k X.A) (hg : Gl X x) (hm : X.mg x = some (.ref f)) (hk : PySem.W.keepIn X.K (.ref f) = true) (hb : Binds X.K fd ps []) (hx : ∀ σ, PassesAt (L2.CX X.prog X.w) X σ (E σ))
    (ha : PA X (e :: es) t) (hdb : (x == ("__debug__" : Str)) = false) (he : starEach (e :: es) X.env = (false, eval e X.env) :: starEach es X.env) (hpl : (backTo pos (starEach es X.env)).any (·.1) = false) : PE X (.Call (.Name x p) (e :: es) [] pos) (tCallX sp E t) := by
  refine ⟨fun pins s σ H Q I h => wpAny_Call_Name_kw (ld_glob I hg hm ?_ hdb)⟩
  refine PySem.W.callWith_K (h₀ := X.base) I.ok.mod.kin hk (thn (ha.run pos pins s σ H _ I h) fun us s1 q => ?_) he hpl
  obtain ⟨vs, H1, I1, r, q⟩ := q
  exact ⟨I1.kIn, run_fnR F hr hb (hx σ) I1 r q⟩
theorem pe_callR0 (F : FnR X.prog X.w X.K X.mg X.base k f fd ps sp) (hr : Rm k X.A) (hg : Gl X x) (hm : X.mg x = some (.ref f)) (hk : PySem.W.keepIn X.K (.ref f) = true) (hb : Binds X.K fd ps []) (hx : ∀ σ, PassesAt (L2.CX X.prog X.w) X σ (E σ))
    (hdb : (x == ("__debug__" : Str)) = false) : PE X (.Call (.Name x p) [] [] pos) (tCallX sp E tNil) :=
  ⟨fun pins s σ H Q I h => wpAny_Call_Name_kw (ld_glob I hg hm (PySem.W.callWith_K0 I.kIn hk (run_fnR (us := []) F hr hb (hx σ) I .nil h)) hdb)⟩
/-- o.m(e, ..) -/
def tMetX (C : Addr) (m : Str) (sp : Sp) (E : L2.St → XK) (to : TE) (t : TA) : TE := fun σ H Q => to σ H fun x H1 => ∃ a dx fs, x = .ref a ∧ H1 a = some (.ins C dx fs) ∧ fs.lookup m = none ∧ t σ H1 fun vs H2 => sp (x :: vs) H2 Q (E σ)
theorem pe_methR {pl : Sem Bool} (he : PE X o ta) (c : Cls X.K C) (hm : Meth X.K C m f) (F : FnR X.prog X.w X.K X.mg X.base k f fd ps sp) (hr : Rm k X.A) (hb : Binds X.K fd ps []) (hx : ∀ σ, PassesAt (L2.CX X.prog X.w) X σ (E σ)) (ha : PA X (e :: es) t)
    (hst : starEach (e :: es) X.env = (false, eval e X.env) :: starEach es X.env) (hpl : (backTo pos (starEach es X.env)).any (·.1) = false)
    (ht : eval (.Call (.Attribute o m apos) (e :: es) [] pos) X.env = (do
      let ov ← eval o X.env; standAt apos.atName
      let (f, first) ← holding [ov] (getMethod ov m pl); callWith pos f first (backTo pos (starEach (e :: es) X.env)) (backToKw pos (keywordEach [] X.env)))) : PE X (.Call (.Attribute o m apos) (e :: es) [] pos) (tMetX C m sp E ta t) := by
  refine ⟨fun pins s σ H Q I h => PySem.W.methodCall_KW (pl := pl) (thn (he.run pins s σ H _ I h) fun u s1 hh => ?_) ht⟩
  obtain ⟨x, H1, I1, rx, a, dx, fs, ex, ea, l, q⟩ := hh
  subst ex
  cases (show u = Value.ref a from rx)
  refine getmeth_ok I1 ea c hm l ?_
  refine PySem.W.callWith_K (first := [.ref a]) (h₀ := X.base) I.ok.mod.kin hm.kp (thn (ha.run pos pins s1 σ H1 _ I1 q) fun us s2 hh => ?_) hst hpl
  obtain ⟨vs, H2, I2, r, q2⟩ := hh
  exact ⟨I2.kIn, run_fnR (us := .ref a :: us) (vs := .ref a :: vs) F hr hb (hx σ) I2 (.cons rfl r) q2⟩
theorem pe_methR0 {pl : Sem Bool} (he : PE X o ta) (c : Cls X.K C) (hm : Meth X.K C m f) (F : FnR X.prog X.w X.K X.mg X.base k f fd ps sp) (hr : Rm k X.A) (hb : Binds X.K fd ps []) (hx : ∀ σ, PassesAt (L2.CX X.prog X.w) X σ (E σ))
    (ht : eval (.Call (.Attribute o m apos) [] [] pos) X.env = (do
      let ov ← eval o X.env; standAt apos.atName
      let (f, first) ← holding [ov] (getMethod ov m pl); callWith pos f first (backTo pos (starEach [] X.env)) (backToKw pos (keywordEach [] X.env)))) : PE X (.Call (.Attribute o m apos) [] [] pos) (tMetX C m sp E ta tNil) := by
  refine ⟨fun pins s σ H Q I h => PySem.W.methodCall_KW (pl := pl) (thn (he.run pins s σ H _ I h) fun u s1 hh => ?_) ht⟩
  obtain ⟨x, H1, I1, rx, a, dx, fs, ex, ea, l, q⟩ := hh
  subst ex
  cases (show u = Value.ref a from rx)
  exact getmeth_ok I1 ea c hm l (PySem.W.callWith_K0 (first := [.ref a]) I1.kIn hm.kp (run_fnR (us := [.ref a]) (vs := [.ref a]) F hr hb (hx σ) I1 (.cons rfl .nil) q))
/-- C(e, ..) of a plain class -/
theorem run_makeR (M : Mk X.K C f) (F : FnR X.prog X.w X.K X.mg X.base k f fd ps sp) (hr : Rm (k + 1) X.A) (hb : Binds X.K fd ps []) (hx : PassesAt (L2.CX X.prog X.w) X σ (E σ)) (I : Inv X pins σ H s) (r : Vals vs us)
    (h : ∀ x dx, H x = none → H dx = none → dx ≠ x → sp (.ref x :: vs) (upd (upd H dx (.own x)) x (.ins C dx [])) (fun v H2 => v = .non ∧ Q (.ref x) H2) (E σ)) : wpAny (model X.prog X.w) X.A (call (.ref C) us) (EP X pins σ Q) X.xe s := by
  have hq := h (s.heap.objs.size + 1) s.heap.objs.size (I.hok.fresh (Nat.le_succ _)) (I.hok.fresh (Nat.le_refl _)) (Nat.ne_of_lt (Nat.lt_succ_self _))
  have J := Inv.made (C := C) I
  have r2 : Vals (V.ref (s.heap.objs.size + 1) :: vs) (Value.ref (s.heap.objs.size + 1) :: us) := .cons rfl r
  have b := hb _ (Value.ref (s.heap.objs.size + 1) :: us) J.kIn (by rw [List.append_nil, ← r2.length]; exact F.len _ _ _ _ hq)
  rw [List.append_nil] at b
  refine wpAny_call (make_map (f := f) I.kIn M.makes M.init (beq_iff_eq.mp M.fn) (codeAny_mono (F.run _ X.stack _ _ ⟨Value.ref (s.heap.objs.size + 1) :: us, []⟩ _ _ _ (E σ) (hr.make C us []) (J.env0.make C us []) b r2 hq) fun r' s' hq' => ?_))
  have z := ends_fn hx J hq'
  cases r' with
  | error er => exact z
  | ok fl =>
    cases fl with
    | ret u =>
      obtain ⟨v, H', I3, rv, ev, q3⟩ := z
      subst ev
      exact ⟨rv, V.ref _, H', I3, rfl, q3⟩
    | next => exact z.elim
    | brk => exact z.elim
    | cont => exact z.elim
def tMkX (C : Addr) (sp : Sp) (E : L2.St → XK) (t : TA) : TE := fun σ H Q => t σ H fun vs H1 => ∀ x dx, H1 x = none → H1 dx = none → dx ≠ x → sp (.ref x :: vs) (upd (upd H1 dx (.own x)) x (.ins C dx [])) (fun v H2 => v = .non ∧ Q (.ref x) H2) (E σ)
theorem pe_makeR (M : Mk X.K C f) (F : FnR X.prog X.w X.K X.mg X.base k f fd ps sp) (hr : Rm (k + 1) X.A) (hg : Gl X x) (hm : X.mg x = some (.ref C)) (hb : Binds X.K fd ps []) (hx : ∀ σ, PassesAt (L2.CX X.prog X.w) X σ (E σ)) (ha : PA X (e :: es) t)
    (hdb : (x == ("__debug__" : Str)) = false) (he : starEach (e :: es) X.env = (false, eval e X.env) :: starEach es X.env) (hpl : (backTo pos (starEach es X.env)).any (·.1) = false) : PE X (.Call (.Name x p) (e :: es) [] pos) (tMkX C sp E t) := by
  refine ⟨fun pins s σ H Q I h => wpAny_Call_Name_kw (ld_glob I hg hm ?_ hdb)⟩
  refine PySem.W.callWith_K (h₀ := X.base) I.ok.mod.kin M.kp (thn (ha.run pos pins s σ H _ I h) fun us s1 hh => ?_) he hpl
  obtain ⟨vs, H1, I1, r, q⟩ := hh
  exact ⟨I1.kIn, run_makeR M F hr hb (hx σ) I1 r q⟩
theorem pe_makeR0 (M : Mk X.K C f) (F : FnR X.prog X.w X.K X.mg X.base k f fd ps sp) (hr : Rm (k + 1) X.A) (hg : Gl X x) (hm : X.mg x = some (.ref C)) (hb : Binds X.K fd ps []) (hx : ∀ σ, PassesAt (L2.CX X.prog X.w) X σ (E σ)) (hdb : (x == ("__debug__" : Str)) = false) :
    PE X (.Call (.Name x p) [] [] pos) (tMkX C sp E tNil) := ⟨fun pins s σ H Q I h => wpAny_Call_Name_kw (ld_glob I hg hm (PySem.W.callWith_K0 I.kIn M.kp (run_makeR (us := []) M F hr hb (hx σ) I .nil h)) hdb)⟩
end
/-! exceptions made: as values, to be raised -/
section
variable {X : Cx} {k : Nat} {C fI : Addr} {fd : FuncData} {ps : List Str} {sp : Sp} {x : Str} {p pos : Pos} {e : Expr} {es : List Expr} {ta : TA} {pins : List (Addr × Obj)} {σ : L2.St} {H1 : Hp} {s1 : Shared} {us : List Value} {vs : List V}
theorem run_excR {Post : Value → Shared → Prop} {R : Addr → VK} (T : OexC X.K C) (iC : PySem.W.findIn X.K (.ref C) "__init__" = some (some (.ref fI))) (tI : PySem.W.typeIn X.K (.ref fI) = some (.type "function")) (F : FnR X.prog X.w X.K X.mg X.base k fI fd ps sp) (hr : Rm (k + 1) X.A) (hb : Binds X.K fd ps [])
    (I1 : Inv X pins σ H1 s1) (rv : Vals vs us) (hz : vs.length ≤ 1000) (q1 : ∀ a, H1 a = none → sp (.ref a :: vs) (upd H1 a (exo a C none)) (R a) E0)
    (fin : ∀ (a : Addr) (hp2 : Heap) (u : Value) (s' : Shared), s1.heap.objs.size ≤ a → (∀ b o, s1.heap.get? b = some o → hp2.get? b = some o) → Inv X pins σ (upd H1 a (exo a C none)) { s1 with heap := hp2 } →
      CE X.stack X.prog X.w (upd H1 a (exo a C none)) { s1 with heap := hp2 } (R a) u s' → u = .none ∧ Post (.ref a) s') : wpAny (model X.prog X.w) X.A (call (.ref C) us) Post X.xe s1 := by
  obtain ⟨nm, qn, N, bs, bm, sn, sub, ab, col, dd, k0, k1, k2, k3, k5, hC, hbm⟩ := T.cls
  obtain ⟨hp, g, dr, tk, os⟩ := s1
  have sz : hp.objs.size ≤ hp.objs.size + 1 := Nat.le_succ _
  have sp0 := q1 (hp.objs.size + 1) (I1.hok.fresh sz)
  have kk : ∀ b o, hp.get? b = some o → ((hp.push (PySem.W.kdv_tup us)).push (PySem.HandSPX.excO C hp.objs.size)).get? b = some o := fun b o z => Heap.get?_push_of_some _ (Heap.get?_push_of_some _ z)
  have hgot : ((hp.push (PySem.W.kdv_tup us)).push (PySem.HandSPX.excO C hp.objs.size)).get? (hp.objs.size + 1) = some (PySem.HandSPX.excO C hp.objs.size) := by heap_get
  have J := I1.laid (t' := tk) (a := hp.objs.size + 1) (o := exo (hp.objs.size + 1) C none) (h' := (hp.push (PySem.W.kdv_tup us)).push (PySem.HandSPX.excO C hp.objs.size)) kk sz (exo_ok hgot)
  have r2 : Vals (V.ref (hp.objs.size + 1) :: vs) (Value.ref (hp.objs.size + 1) :: us) := .cons rfl rv
  have bd := hb _ (Value.ref (hp.objs.size + 1) :: us) J.kIn (by rw [List.append_nil, ← r2.length]; exact F.len _ _ _ _ sp0)
  rw [List.append_nil] at bd
  have small : us.length ≤ sizeLine := by rw [← Paired.length rv, sizeLine_eq]; omega
  refine wpAny_call (PySem.HandSPX.call_own PySem.F.excBase_ValueError (fun Y => PySem.HandSPX.refsVE_contains Y bm hbm) (I1.kIn _ _ hC) (PySem.W.looks_findIn I1.kIn iC) (fun self => PySem.W.bind_fn I1.kIn self tI) small
    (codeAny_mono (F.run _ X.stack _ _ ⟨Value.ref (hp.objs.size + 1) :: us, []⟩ _ _ _ E0 (hr.make C us []) (J.env0.make C us []) bd r2 sp0) fun r' s' hq => ?_))
  cases r' with
  | error er =>
    obtain ⟨_, _, _, _, _, _, _, _, _, _, _, _, z⟩ := (show L2.CX X.prog X.w _ _ _ E0 er s' from hq)
    exact z.elim
  | ok fl =>
    cases fl with
    | ret u => exact fin _ _ u s' sz kk J hq
    | next => exact hq.elim
    | brk => exact hq.elim
    | cont => exact hq.elim
/-- C(e, ..) as a value: the thing stays as it is left by C's __init__ -/
def mkQ (a : Addr) (Q : VK) : VK := fun v H2 => v = .non ∧ Q (.ref a) H2
def tMkV (C : Addr) (sp : Sp) (ta : TA) : TE := fun σ H Q => ta σ H fun vs H1 => vs.length ≤ 1000 ∧ ∀ a, H1 a = none → sp (.ref a :: vs) (upd H1 a (exo a C none)) (mkQ a Q) E0
theorem w_mkV {H : Hp} {Q : VK} (k : ta σ H fun vs H1 => vs.length ≤ 1000 ∧ ∀ a, H1 a = none → sp (.ref a :: vs) (upd H1 a (exo a C none)) (mkQ a Q) E0) : tMkV C sp ta σ H Q := k
theorem run_mkV {Q : VK} (T : OexC X.K C) (iC : PySem.W.findIn X.K (.ref C) "__init__" = some (some (.ref fI))) (tI : PySem.W.typeIn X.K (.ref fI) = some (.type "function")) (F : FnR X.prog X.w X.K X.mg X.base k fI fd ps sp) (hr : Rm (k + 1) X.A) (hb : Binds X.K fd ps [])
    (I1 : Inv X pins σ H1 s1) (rv : Vals vs us) (q : vs.length ≤ 1000 ∧ ∀ a, H1 a = none → sp (.ref a :: vs) (upd H1 a (exo a C none)) (mkQ a Q) E0) : wpAny (model X.prog X.w) X.A (call (.ref C) us) (EP X pins σ Q) X.xe s1 :=
  run_excR T iC tI F hr hb I1 rv q.1 q.2 fun a hp2 u s' _ _ J h => by
    obtain ⟨v, H2, J2, ru, ev, q2⟩ := J.after h
    subst ev
    exact ⟨ru, .ref a, H2, J2, rfl, q2⟩
theorem pe_mkVR (T : OexC X.K C) (iC : PySem.W.findIn X.K (.ref C) "__init__" = some (some (.ref fI))) (tI : PySem.W.typeIn X.K (.ref fI) = some (.type "function")) (F : FnR X.prog X.w X.K X.mg X.base k fI fd ps sp) (hr : Rm (k + 1) X.A) (hb : Binds X.K fd ps [])
    (hg : Gl X x) (hm : X.mg x = some (.ref C)) (ha : PA X (e :: es) ta) (hdb : (x == ("__debug__" : Str)) = false) (he : starEach (e :: es) X.env = (false, eval e X.env) :: starEach es X.env) (hpl : (backTo pos (starEach es X.env)).any (·.1) = false) :
    PE X (.Call (.Name x p) (e :: es) [] pos) (tMkV C sp ta) := by
  refine ⟨fun pins s σ H Q I h => wpAny_Call_Name_kw (ld_glob I hg hm ?_ hdb)⟩
  refine PySem.W.callWith_K (h₀ := X.base) I.ok.mod.kin T.kC (thn (ha.run pos pins s σ H _ I h) fun us s1 hh => ?_) he hpl
  obtain ⟨vs, H1, I1, r, q⟩ := hh
  exact ⟨I1.kIn, run_mkV T iC tI F hr hb I1 r q⟩
theorem pe_mkVR0 (T : OexC X.K C) (iC : PySem.W.findIn X.K (.ref C) "__init__" = some (some (.ref fI))) (tI : PySem.W.typeIn X.K (.ref fI) = some (.type "function")) (F : FnR X.prog X.w X.K X.mg X.base k fI fd ps sp) (hr : Rm (k + 1) X.A) (hb : Binds X.K fd ps [])
    (hg : Gl X x) (hm : X.mg x = some (.ref C)) (hdb : (x == ("__debug__" : Str)) = false) : PE X (.Call (.Name x p) [] [] pos) (tMkV C sp tNil) :=
  ⟨fun pins s σ H Q I h => wpAny_Call_Name_kw (ld_glob I hg hm (PySem.W.callWith_K0 I.kIn T.kC (run_mkV (us := []) T iC tI F hr hb I .nil h)) hdb)⟩
/-- C(e, ..) behind raise -/
def mkX (a C : Addr) (H1 : Hp) (W : XK) : VK := fun v H2 => v = .non ∧ ∃ (d : Addr) (fs : List (Str × V)), H2 a = some (exo a C (some d)) ∧ H2 d = some (exd d fs) ∧ H1 d = none ∧ W (.ref C) (some d) (upd (del H2 a) d (.xd fs))
def tRai (C : Addr) (sp : Sp) (ta : TA) : L2.St → Hp → XK → Prop := fun σ H W => ta σ H fun vs H1 => vs.length ≤ 1000 ∧ ∀ a, H1 a = none → sp (.ref a :: vs) (upd H1 a (exo a C none)) (mkX a C H1 W) E0
theorem pmk_R (T : OexC X.K C) (iC : PySem.W.findIn X.K (.ref C) "__init__" = some (some (.ref fI))) (tI : PySem.W.typeIn X.K (.ref fI) = some (.type "function")) (F : FnR X.prog X.w X.K X.mg X.base k fI fd ps sp) (hr : Rm (k + 1) X.A) (hb : Binds X.K fd ps [])
    (hg : Gl X x) (hm : X.mg x = some (.ref C)) (ha : PA X (e :: es) ta) (hdb : (x == ("__debug__" : Str)) = false) (he : starEach (e :: es) X.env = (false, eval e X.env) :: starEach es X.env) (hpl : (backTo pos (starEach es X.env)).any (·.1) = false) :
    PMk X (.Call (.Name x p) (e :: es) [] pos) (tRai C sp ta) := by
  intro pins s σ H W I h
  refine wpAny_Call_Name_kw (ld_glob I hg hm ?_ hdb)
  refine PySem.W.callWith_K (h₀ := X.base) I.ok.mod.kin T.kC (thn (ha.run pos pins s σ H _ I h) fun us s1 hh => ?_) he hpl
  obtain ⟨vs, H1, I1, r, hz, q⟩ := hh
  refine ⟨I1.kIn, run_excR T iC tI F hr hb I1 r hz q fun a hp2 u s' ha hk J hc => ?_⟩
  obtain ⟨v, H2, os2, bare2, un2, hok2, rv, ev, d, fs, ea, ed, hd1, q2⟩ := hc
  subst ev
  obtain ⟨h2, g2, d2, t2, os'⟩ := s'
  exact ⟨rv, mk_end (raises_own T.exC T.tyC) I1 ha hk un2 hok2 os2 bare2 ea ed hd1 q2⟩
end
/-! several except clauses, with names or without -/
def tAsX (i : Nat) (ts : Addr → Value → Option Addr → L2.TS) : Addr → Value → Option Addr → L2.TS := fun a cls d D σ H =>
  ts a cls d { nx := fun σ' H' => D.nx (σ'.set i none) H', rt := D.rt, bk := fun σ' H' => D.bk (σ'.set i none) H', ct := fun σ' H' => D.ct (σ'.set i none) H' } (σ.set i (some (.ref a))) H
inductive HdX (X : Cx) : List ExceptHandler → List (Value × (Addr → Value → Option Addr → L2.TS)) → Prop
  | nil : HdX X [] []
  | bare {x : Str} {c : Value} {ts : Addr → Value → Option Addr → L2.TS} {b₀ : Stmt} {suite : List Stmt} {np pos' : Pos} {hds : List ExceptHandler} {l : List (Value × (Addr → Value → Option Addr → L2.TS))} (hc : Names X x c)
      (hsu : ∀ (a : Addr) (oe : Obj) (cls : Value) (d : Option Addr) (pn : List (Addr × Obj)), Zc cls d oe → (∃ vs, oe.data = .fields vs) → PSs (X.suite a ((a, oe) :: pn)) (b₀ :: suite) (ts a cls d)) (r : HdX X hds l) :
      HdX X (.ExceptHandler (some (.Name x np)) none (b₀ :: suite) pos' :: hds) ((c, ts) :: l)
  | named {x n : Str} {i : Nat} {c : Value} {ts : Addr → Value → Option Addr → L2.TS} {b₀ : Stmt} {suite : List Stmt} {np pos' : Pos} {hds : List ExceptHandler} {l : List (Value × (Addr → Value → Option Addr → L2.TS))} (hN : X.N.Nodup) (hi : X.N[i]? = some n) (hln : X.env.kindOf n = some .local) (hc : Names X x c)
      (hsu : ∀ (a : Addr) (oe : Obj) (cls : Value) (d : Option Addr) (pn : List (Addr × Obj)), Zc cls d oe → (∃ vs, oe.data = .fields vs) → PSs (X.suite a ((a, oe) :: pn)) (b₀ :: suite) (ts a cls d)) (r : HdX X hds l) :
      HdX X (.ExceptHandler (some (.Name x np)) (some n) (b₀ :: suite) pos' :: hds) ((c, tAsX i ts) :: l)
section
variable {X : Cx} {body : List Stmt} {h₀ : ExceptHandler} {hds : List ExceptHandler} {l : List (Value × (Addr → Value → Option Addr → L2.TS))} {pos : Pos} {tb : WX → L2.TS} {Wout : WX}
theorem ps_tryX (hs : X.stack = X.env :: X.outer) (hf : X.env.frame = some X.env.locals) (tk : Takes X Wout)
    (hb : ∀ (W : WX) (pn : List (Addr × Obj)) (xe : Value → Shared → Prop), Takes (X.tr pn xe) W → PassesOwn (model X.prog X.w) X.A X.env xe → PSs (X.tr pn xe) body (tb W)) (hh : HdX X (h₀ :: hds) l) :
    PS X (.Try body (h₀ :: hds) [] [] pos) (fun D σ H => tb (wMany X.K Wout D l) D σ H) := by
  refine ⟨fun pins s σ H D I h => wpAny_Try_except ?_⟩
  have ok := I.ok
  have frames : X.A.frames = some (X.env :: X.outer) := by rw [ok.frames, hs]
  let after : Value → Shared → Prop := fun e s₁ => wpAny (model X.prog X.w) X.A (noteFrame e X.env) (fun _ s₂ => wpAny (model X.prog X.w) X.A (setFlight e none) (fun _ s₃ => wpAny (model X.prog X.w) X.A (handleBy e X.env (h₀ :: hds)) (SP X pins D) X.xe s₃) X.xe s₂) X.xe s₁
  refine wpAny_mono ((hb (wMany X.K Wout D l) (X.pn ++ pins) after (fun u s' xx => ?_) PassesOwn.looking).run [] s σ H D (I.toTry _) h) (fun f s1 hsp => ?_) (fun e s1 he => he)
  · obtain ⟨a, B, sI, pins', σ', H', cls, d, rfl, J', nb, up, sky, na, os, ag, wish⟩ := xx
    have J : Inv X pins σ' H' sI := J'.ofTry ok
    have sky2 : Sky B (X.env :: X.outer) a (Zc cls d) X.env.locals s'.heap := hs ▸ sky
    show wpAny (model X.prog X.w) X.A (noteFrame (.ref a) X.env) _ _ _
    refine Sky.land Zc.steady frames hf sky2 fun h3 fl3 up3 => ?_
    have J3 : Inv X pins σ' H' { s' with heap := h3 } := J.landed nb fl3.1 (up.trans up3) os ag
    obtain ⟨oe3, vs3, got3, cls3, data3⟩ := fl3.there
    have noFr : a ∉ frs (X.env :: X.outer) := fun hm => by
      obtain ⟨_, o', e', hnf⟩ := fl3.2.2.1.mem hm
      rw [got3] at e'; cases e'
      exact hnf _ data3
    have nL : a ≠ X.env.locals := fun z => noFr (List.mem_filterMap.mpr ⟨X.env, List.mem_cons_self, by rw [hf, z]⟩)
    have nF : a ∉ X.fs := fun hm => by
      obtain ⟨e, he, q⟩ := List.mem_filterMap.mp hm
      exact noFr (List.mem_filterMap.mpr ⟨e, List.mem_cons_of_mem _ he, q⟩)
    have S3 := J3.suite got3 data3 na nL nF
    have LT : PySem.W.Looks (model X.prog X.w) h3 (typeOf (.ref a)) cls := fun A Q E s k q => wpAny_typeOf_ref (k _ _ got3) (by rw [cls3.1]; exact q)
    have test : ∀ {x : Str} {c : Value} {np : Pos} {Q E : Value → Shared → Prop}, Names X x c → Q c { s' with heap := h3 } → wpAny (model X.prog X.w) (X.A.mark (some (.ref a))) (eval (.Name x np) X.env) Q E { s' with heap := h3 } := fun {x c np Q E} hc q => by
      obtain ⟨hg, hdbg, hm | ⟨hm, hv, hnn⟩⟩ := hc
      · exact ld_glob (X := X.suite a ((a, oe3) :: (X.pn ++ pins))) S3 hg hm q hdbg
      · exact ld_blt (X := X.suite a ((a, oe3) :: (X.pn ++ pins))) S3 hg hm hv q hnn hdbg
    have again : ∀ {Q : Unit → Shared → Prop} {E : Value → Shared → Prop} {A : Around}, (∀ h4 oe4, Zc cls d oe4 → (∃ vs, oe4.data = .fields vs) → Inv (X.suite a ((a, oe4) :: (X.pn ++ pins))) [] σ' H' { s' with heap := h4 } → Q () { s' with heap := h4 }) →
        wpAny (model X.prog X.w) A (setFlight (.ref a) none) Q E { s' with heap := h3 } := fun {Q E A} hq => by
      refine HandSPX.lands_againZ fl3 fun h4 fl4 up4 => ?_
      have J4 : Inv X pins σ' H' { s' with heap := h4 } := J.landed nb fl4.1 ((up.trans up3).trans up4) os ag
      obtain ⟨oe4, vs4, got4, cls4, data4⟩ := fl4.there
      exact hq h4 oe4 cls4 ⟨_, data4⟩ (J4.suite got4 data4 na nL nF)
    have go : ∀ {hds' : List ExceptHandler} {l' : List (Value × (Addr → Value → Option Addr → L2.TS))}, HdX X hds' l' → wMany X.K Wout D l' cls d σ' H' → wpAny (model X.prog X.w) X.A (handleBy (.ref a) X.env hds') (SP X pins D) X.xe { s' with heap := h3 } := by
      intro hds' l' hk
      induction hk with
      | nil =>
        intro w
        obtain ⟨k1, k2, k3, oe, vs, T, oT, ts', he, hz, hd, h1, hr⟩ := id fl3
        refine wpAny_handleBy_nil ?_
        unfold PySem.passOn
        refine wpAny_bind (wpAny_field he hd h1 ?_)
        rw [if_neg (show ¬ ((Value.ref T == Value.none) = true) from by simp)]
        have last : wpAny (model X.prog X.w) X.A (setFlight (.ref a) X.env.frame) (fun _ s4 => wpAny (model X.prog X.w) X.A (throw (.ref a) : Sem Flow) (SP X pins D) X.xe s4) X.xe { s' with heap := h3 } := by
          rw [hf]
          exact HandSPX.setFlight_upZ fl3 fun h4 hh4 up4 => wpAny_throw (tk _ _ ⟨a, B, sI, pins, σ', H', cls, d, rfl, J, nb, (up.trans up3).trans up4, .inr (.inr (by rw [hs]; exact hh4)), na, os, ag, w⟩)
        first
          | exact wpAny_bind (wpAny_pure (wpAny_bind last))
          | exact wpAny_bind last
      | @bare x c ts b₀ suite np pos' hds2 l2 hc hsu r ih =>
        intro w
        obtain ⟨b, hb1, hyes, hno⟩ := w
        have LM := PySem.W.exm_one (M := model X.prog X.w) (J3.kIn) LT hb1
        refine wpAny_handleBy_cons (codeAny_handlers_test (test hc (LM.here ?_))) (by intro q; cases q)
        cases b with
        | false => exact (show wpAny _ X.A (handleBy (.ref a) X.env hds2) _ _ _ from ih (hno rfl))
        | true =>
          refine codeAny_handlers_suite (again fun h4 oe4 z4 d4 S4 => ?_)
          refine wpAny_mono ((hsu a oe4 cls d (X.pn ++ pins) z4 d4).run [] _ _ H' _ S4 (hyes rfl a na)) (fun f s6 hsp => ?_) (fun _ _ z => False.elim z)
          cases f with
          | ret u =>
            obtain ⟨v6, σ6, H6, S6, r6, q6⟩ := hsp
            exact ⟨v6, σ6, H6, S6.unsuite ok, r6, q6⟩
          | next =>
            obtain ⟨σ6, H6, S6, q6⟩ := hsp
            exact ⟨σ6, H6, S6.unsuite ok, q6⟩
          | brk =>
            obtain ⟨σ6, H6, S6, q6⟩ := hsp
            exact ⟨σ6, H6, S6.unsuite ok, q6⟩
          | cont =>
            obtain ⟨σ6, H6, S6, q6⟩ := hsp
            exact ⟨σ6, H6, S6.unsuite ok, q6⟩
      | @named x n i c ts b₀ suite np pos' hds2 l2 hN hi hln hc hsu r ih =>
        intro w
        obtain ⟨b, hb1, hyes, hno⟩ := w
        have LM := PySem.W.exm_one (M := model X.prog X.w) (J3.kIn) LT hb1
        refine wpAny_handleBy_cons (codeAny_handlers_test (test hc (LM.here ?_))) (by intro q; cases q)
        cases b with
        | false => exact (show wpAny _ X.A (handleBy (.ref a) X.env hds2) _ _ _ from ih (hno rfl))
        | true =>
          refine codeAny_handlers_suite_as (again fun h4 oe4 z4 d4 S4 => ?_)
          refine store_ok (X := X.suite a ((a, oe4) :: (X.pn ++ pins))) (v := .ref a) S4 hN hi (.inl hln) rfl (fun s5 S5 => ?_) (.inr hln)
          refine wpAny_mono ((hsu a oe4 cls d (X.pn ++ pins) z4 d4).run [] s5 _ H' _ S5 (hyes rfl a na)) (fun f s6 hsp => ?_) (fun _ _ z => False.elim z)
          have gone : ∀ {σ6 : L2.St} {H6 : Hp} {Q : Shared → Prop}, Inv (X.suite a ((a, oe4) :: (X.pn ++ pins))) [] σ6 H6 s6 → (∀ s7, Inv X pins (σ6.set i none) H6 s7 → Q s7) → wpAny (model X.prog X.w) X.A (do bindName X.env n .none; unbindBehindTheSuite X.env n pos') (fun _ s7 => Q s7) X.xe s6 :=
            fun {σ6 H6 Q} S6 hq => gone_ok (S6.unsuite ok) hN hi hln hq
          cases f with
          | ret u =>
            obtain ⟨v6, σ6, H6, S6, r6, q6⟩ := hsp
            exact gone S6 fun s7 J7 => ⟨v6, _, H6, J7, r6, q6⟩
          | next =>
            obtain ⟨σ6, H6, S6, q6⟩ := hsp
            exact gone S6 fun s7 J7 => ⟨_, H6, J7, q6⟩
          | brk =>
            obtain ⟨σ6, H6, S6, q6⟩ := hsp
            exact gone S6 fun s7 J7 => ⟨_, H6, J7, q6⟩
          | cont =>
            obtain ⟨σ6, H6, S6, q6⟩ := hsp
            exact gone S6 fun s7 J7 => ⟨_, H6, J7, q6⟩
    exact go hh wish
  · cases f with
    | ret u =>
      obtain ⟨v, σ', H', J', r, q⟩ := hsp
      exact ⟨v, σ', H', J'.ofTry ok, r, q⟩
    | next =>
      obtain ⟨σ', H', J', q⟩ := hsp
      exact wpAny_execs_nil ⟨σ', H', J'.ofTry ok, q⟩
    | brk =>
      obtain ⟨σ', H', J', q⟩ := hsp
      exact ⟨σ', H', J'.ofTry ok, q⟩
    | cont =>
      obtain ⟨σ', H', J', q⟩ := hsp
      exact ⟨σ', H', J'.ofTry ok, q⟩
end
/-! defs by names -/
/-- the def at f keeps the promise sp -/
def FnA (P : Program) (w : World) (K : PySem.W.Frag) (mg : Str → Option Value) (f : Addr) (k : Nat) (ps : List Str) (sp : Sp) : Prop :=
  ∃ fd, (∀ base, FnR P w K mg base k f fd ps sp) ∧ Binds K fd ps [] ∧ (∀ (s : Shared) (us : List Value), us.length = ps.length → BindsTo s fd ⟨us, []⟩ (ps.zip us)) ∧ ∃ oc od osl, K.lookup f = some ⟨oc, od, .func fd, osl⟩
/-- the def of the name x keeps the promise sp -/
structure Fn (P : Program) (w : World) (K : PySem.W.Frag) (mg : Str → Option Value) (x : Str) (k : Nat) (ps : List Str) (sp : Sp) : Prop where
  ex : FnA P w K mg (He.ga K x) k ps sp
  gl : mg x = some (.ref (He.ga K x))
  kp : PySem.W.keepIn K (.ref (He.ga K x)) = true
theorem FnA.mk' {P : Program} {w : World} {K : PySem.W.Frag} {mg : Str → Option Value} {x q : Str} {k : Nat} {N ps : List Str} {sp : Sp} {args : Arguments} {body : List Stmt} {sc : Scope} {f : Addr} {fd : FuncData}
    (F : FunD K x q args body sc [] [] f fd) (S : FnScope N ps sc) (len : ∀ vs H Q E, sp vs H Q E → vs.length = ps.length)
    (hb : ∀ (kV doc pm : Value) (an : Option Addr) (cdv ct : Value) (us : List Value), us.length = ps.length → bindArgs (PySem.W.fnOf x q args body sc .none kV doc pm an cdv ct) ⟨us, []⟩ = pure (ps.zip us))
    (hbody : ∀ (base : Heap) (cdv : Value) (A : Around) (outer : List Env) (s : Shared) (H : Hp) (vs : List V) (Q : VK) (E : XK), Rm k (A.deeper (envOfC q sc s.heap.objs.size f cdv)) → sp vs H Q E →
      ∃ t, PSs (cxOf (L2.CX P w) P w K mg base N q sc f cdv A outer s H E) body t ∧ t ⟨fun _ H' => Q .non H', Q, fun _ _ => False, fun _ _ => False⟩ (start N vs) H) : FnA P w K mg f (k + 1) ps sp := by
  refine ⟨fd, fun base => fnR_of F S len (hbody base), F.bindsN hb, F.bindsA hb, ?_⟩
  obtain ⟨oc, od, _, _, _, _, _, _, _, osl, _, lk, _⟩ := F.ex
  exact ⟨oc, od, osl, lk⟩
theorem Fn.mk' {P : Program} {w : World} {K : PySem.W.Frag} {mg : Str → Option Value} {x : Str} {k : Nat} {N ps : List Str} {sp : Sp} {args : Arguments} {body : List Stmt} {sc : Scope} {fd : FuncData}
    (F : FunD K x x args body sc [] [] (He.ga K x) fd) (gl : mg x = some (.ref (He.ga K x))) (S : FnScope N ps sc) (len : ∀ vs H Q E, sp vs H Q E → vs.length = ps.length)
    (hb : ∀ (kV doc pm : Value) (an : Option Addr) (cdv ct : Value) (us : List Value), us.length = ps.length → bindArgs (PySem.W.fnOf x x args body sc .none kV doc pm an cdv ct) ⟨us, []⟩ = pure (ps.zip us))
    (hbody : ∀ (base : Heap) (cdv : Value) (A : Around) (outer : List Env) (s : Shared) (H : Hp) (vs : List V) (Q : VK) (E : XK), Rm k (A.deeper (envOfC x sc s.heap.objs.size (He.ga K x) cdv)) → sp vs H Q E →
      ∃ t, PSs (cxOf (L2.CX P w) P w K mg base N x sc (He.ga K x) cdv A outer s H E) body t ∧ t ⟨fun _ H' => Q .non H', Q, fun _ _ => False, fun _ _ => False⟩ (start N vs) H) : Fn P w K mg x (k + 1) ps sp :=
  ⟨FnA.mk' F S len hb hbody, gl, F.kp⟩
section
variable {X : Cx} {K : PySem.W.Frag} {k : Nat} {x m : Str} {ps : List Str} {sp : Sp} {p pos apos : Pos} {o e : Expr} {es : List Expr} {to : TE} {t : TA} {C : Addr} {W : WX}
theorem tCallX_eq (sp : Sp) (t : TA) : tCallX sp (fun _ => E0) t = tCall sp [] E0 t := by
  unfold tCallX tCall
  simp only [List.append_nil]
/-- f(e, ..), where nothing is raised -/
theorem pe_fn (F : Fn X.prog X.w X.K X.mg x k ps sp) (hr : Rm k X.A) (hg : Gl X x) (ha : PA X (e :: es) t) (hdb : (x == ("__debug__" : Str)) = false := by decide) (he : starEach (e :: es) X.env = (false, eval e X.env) :: starEach es X.env := by rfl)
    (hpl : (backTo pos (starEach es X.env)).any (·.1) = false := by rfl) : PE X (.Call (.Name x p) (e :: es) [] pos) (tCall sp [] E0 t) := by
  obtain ⟨fd, G, b, _⟩ := F.ex
  rw [← tCallX_eq]
  exact pe_callR (G X.base) hr hg F.gl F.kp b passE0 ha hdb he hpl
theorem pe_fn0 (F : Fn X.prog X.w X.K X.mg x k ps sp) (hr : Rm k X.A) (hg : Gl X x) (hdb : (x == ("__debug__" : Str)) = false := by decide) : PE X (.Call (.Name x p) [] [] pos) (tCall sp [] E0 tNil) := by
  obtain ⟨fd, G, b, _⟩ := F.ex
  rw [← tCallX_eq]
  exact pe_callR0 (G X.base) hr hg F.gl F.kp b passE0 hdb
/-- f(e, ..), where what is raised goes on by tk -/
theorem pe_fnX (tk : Takes X W) (F : Fn X.prog X.w X.K X.mg x k ps sp) (hr : Rm k X.A) (hg : Gl X x) (ha : PA X (e :: es) t) (hdb : (x == ("__debug__" : Str)) = false := by decide) (he : starEach (e :: es) X.env = (false, eval e X.env) :: starEach es X.env := by rfl)
    (hpl : (backTo pos (starEach es X.env)).any (·.1) = false := by rfl) : PE X (.Call (.Name x p) (e :: es) [] pos) (tCallX sp (WE W) t) := by
  obtain ⟨fd, G, b, _⟩ := F.ex
  exact pe_callR (G X.base) hr hg F.gl F.kp b (passAt tk) ha hdb he hpl
theorem tMetX_eq (C : Addr) (m : Str) (sp : Sp) (to : TE) (t : TA) : tMetX C m sp (fun _ => E0) to t = tMet C m sp to t := rfl
theorem pe_met {pl : Sem Bool} (F : FnA X.prog X.w X.K X.mg (He.ma K C m) k ps sp) (hK : X.K = K) (cl : Cls K C) (me : Meth K C m (He.ma K C m)) (hr : Rm k X.A) (he : PE X o to) (ha : PA X (e :: es) t)
    (hst : starEach (e :: es) X.env = (false, eval e X.env) :: starEach es X.env := by rfl) (hpl : (backTo pos (starEach es X.env)).any (·.1) = false := by rfl)
    (ht : eval (.Call (.Attribute o m apos) (e :: es) [] pos) X.env = (do
      let ov ← eval o X.env; standAt apos.atName
      let (f, first) ← holding [ov] (getMethod ov m pl); callWith pos f first (backTo pos (starEach (e :: es) X.env)) (backToKw pos (keywordEach [] X.env))) := by rfl) : PE X (.Call (.Attribute o m apos) (e :: es) [] pos) (tMet C m sp to t) := by
  subst hK
  obtain ⟨fd, G, b, _⟩ := F
  exact pe_methR (E := fun _ => E0) he cl me (G X.base) hr b passE0 ha hst hpl ht
theorem pe_met0 {pl : Sem Bool} (F : FnA X.prog X.w X.K X.mg (He.ma K C m) k ps sp) (hK : X.K = K) (cl : Cls K C) (me : Meth K C m (He.ma K C m)) (hr : Rm k X.A) (he : PE X o to)
    (ht : eval (.Call (.Attribute o m apos) [] [] pos) X.env = (do
      let ov ← eval o X.env; standAt apos.atName
      let (f, first) ← holding [ov] (getMethod ov m pl); callWith pos f first (backTo pos (starEach [] X.env)) (backToKw pos (keywordEach [] X.env))) := by rfl) : PE X (.Call (.Attribute o m apos) [] [] pos) (tMet C m sp to tNil) := by
  subst hK
  obtain ⟨fd, G, b, _⟩ := F
  exact pe_methR0 (E := fun _ => E0) he cl me (G X.base) hr b passE0 ht
theorem pe_mkI (F : FnA X.prog X.w X.K X.mg (He.ma K C "__init__") k ps sp) (hK : X.K = K) (M : Mk K C (He.ma K C "__init__")) (hm : X.mg x = some (.ref C)) (hr : Rm (k + 1) X.A) (hg : Gl X x) (ha : PA X (e :: es) t)
    (hdb : (x == ("__debug__" : Str)) = false := by decide) (he : starEach (e :: es) X.env = (false, eval e X.env) :: starEach es X.env := by rfl) (hpl : (backTo pos (starEach es X.env)).any (·.1) = false := by rfl) :
    PE X (.Call (.Name x p) (e :: es) [] pos) (tMkI C sp t) := by
  subst hK
  obtain ⟨fd, G, b, _⟩ := F
  exact pe_makeR (E := fun _ => E0) M (G X.base) hr hg hm b passE0 ha hdb he hpl
theorem pe_mkI0 (F : FnA X.prog X.w X.K X.mg (He.ma K C "__init__") k ps sp) (hK : X.K = K) (M : Mk K C (He.ma K C "__init__")) (hm : X.mg x = some (.ref C)) (hr : Rm (k + 1) X.A) (hg : Gl X x)
    (hdb : (x == ("__debug__" : Str)) = false := by decide) : PE X (.Call (.Name x p) [] [] pos) (tMkI C sp tNil) := by
  subst hK
  obtain ⟨fd, G, b, _⟩ := F
  exact pe_makeR0 (E := fun _ => E0) M (G X.base) hr hg hm b passE0 hdb
/-- exceptions of own classes -/
theorem pe_mkX (F : FnA X.prog X.w X.K X.mg (He.ma K C "__init__") k ps sp) (hK : X.K = K) (T : EXV.Ex K C) (M : EXV.Ini K C) (hm : X.mg x = some (.ref C)) (hr : Rm (k + 1) X.A) (hg : Gl X x) (ha : PA X (e :: es) t)
    (hdb : (x == ("__debug__" : Str)) = false := by decide) (he : starEach (e :: es) X.env = (false, eval e X.env) :: starEach es X.env := by rfl) (hpl : (backTo pos (starEach es X.env)).any (·.1) = false := by rfl) : PE X (.Call (.Name x p) (e :: es) [] pos) (tMkV C sp t) := by
  subst hK
  obtain ⟨fd, G, b, _⟩ := F
  exact pe_mkVR T.o M.i M.t (G X.base) hr b hg hm ha hdb he hpl
theorem pe_mkX0 (F : FnA X.prog X.w X.K X.mg (He.ma K C "__init__") k ps sp) (hK : X.K = K) (T : EXV.Ex K C) (M : EXV.Ini K C) (hm : X.mg x = some (.ref C)) (hr : Rm (k + 1) X.A) (hg : Gl X x) (hdb : (x == ("__debug__" : Str)) = false := by decide) :
    PE X (.Call (.Name x p) [] [] pos) (tMkV C sp tNil) := by
  subst hK
  obtain ⟨fd, G, b, _⟩ := F
  exact pe_mkVR0 T.o M.i M.t (G X.base) hr b hg hm hdb
theorem ps_raiX (tk : Takes X W) (hc : X.calm = true) (F : FnA X.prog X.w X.K X.mg (He.ma K C "__init__") k ps sp) (hK : X.K = K) (T : EXV.Ex K C) (M : EXV.Ini K C) (hm : X.mg x = some (.ref C)) (hr : Rm (k + 1) X.A) (hg : Gl X x) (ha : PA X (e :: es) t) {rp : Pos}
    (hdb : (x == ("__debug__" : Str)) = false := by decide) (he : starEach (e :: es) X.env = (false, eval e X.env) :: starEach es X.env := by rfl) (hpl : (backTo pos (starEach es X.env)).any (·.1) = false := by rfl) :
    PS X (.Raise (some (.Call (.Name x p) (e :: es) [] pos)) none rp) (fun _ σ H => tRai C sp t σ H fun cls d H' => W cls d σ H') := by
  subst hK
  obtain ⟨fd, G, b, _⟩ := F
  exact ps_raise hc tk (pmk_R T.o M.i M.t (G X.base) hr b hg hm ha hdb he hpl)
end
/-! keywords -/
section
variable {X : Cx} {K : PySem.W.Frag} {k : Nat} {x : Str} {ps ks : List Str} {sp : Sp} {p pos : Pos} {e : Expr} {es : List Expr} {t tk : TA} {E : L2.St → XK} {kws : List Keyword} {g : List Value → List Value → List Value} {gV : List V → List V → List V}
def tCallKX (sp : Sp) (gV : List V → List V → List V) (E : L2.St → XK) (t tk : TA) : TE := fun σ H Q => t σ H fun vs H1 => tk σ H1 fun zs H2 => sp (gV vs zs) H2 Q (E σ)
theorem run_fnKR {f : Addr} {fd : FuncData} {pins : List (Addr × Obj)} {σ : L2.St} {H : Hp} {s : Shared} {Q : VK} {us ws : List Value} {vs zs : List V} (F : FnR X.prog X.w X.K X.mg X.base k f fd ps sp) (hr : Rm k X.A) (hb : KBinds X.K fd ps ks g gV) (hx : PassesAt (L2.CX X.prog X.w) X σ (E σ))
    (I : Inv X pins σ H s) (r : Vals vs us) (rz : Vals zs ws) (h : sp (gV vs zs) H Q (E σ)) : wpAny (model X.prog X.w) X.A (call (.ref f) us (ks.zip ws)) (EP X pins σ Q) X.xe s := by
  have r2 := hb.rel r rz
  refine wpAny_call (codeAny_mono (F.run X.A X.stack s H ⟨us, ks.zip ws⟩ (g us ws) (gV vs zs) Q (E σ) hr I.env0 (hb.to s us ws I.kIn (by rw [← r2.length]; exact F.len _ _ _ _ h)) r2 h) fun r' s' hq => ?_)
  have z := ends_fn hx I hq
  cases r' with
  | error er => exact z
  | ok fl => cases fl <;> exact z
/-- f(e, .., k = v, ..) -/
theorem pe_callKR {f : Addr} {fd : FuncData} (F : FnR X.prog X.w X.K X.mg X.base k f fd ps sp) (hr : Rm k X.A) (hg : Gl X x) (hm : X.mg x = some (.ref f)) (hk : PySem.W.keepIn X.K (.ref f) = true) (hb : KBinds X.K fd ps ks g gV) (hx : ∀ σ, PassesAt (L2.CX X.prog X.w) X σ (E σ))
    (ha : PA X (e :: es) t) (hkw : PK X kws tk) (hall : (backToKw pos (keywordEach kws X.env)).all (·.1.isSome) = true) (hks : (backToKw pos (keywordEach kws X.env)).filterMap (·.1) = ks) (hdb : (x == ("__debug__" : Str)) = false)
    (he : starEach (e :: es) X.env = (false, eval e X.env) :: starEach es X.env) (hpl : ((backTo pos (starEach (e :: es) X.env)).any (·.1) || (backToKw pos (keywordEach kws X.env)).any (·.1.isNone)) = false) : PE X (.Call (.Name x p) (e :: es) kws pos) (tCallKX sp gV E t tk) := by
  refine ⟨fun pins s σ H Q I h => wpAny_Call_Name_kw (ld_glob I hg hm ?_ hdb)⟩
  refine PySem.W.callWith_KW (h₀ := X.base) I.ok.mod.kin hk hall (thn (ha.run pos pins s σ H _ I h) fun us s1 hh => ?_) hpl he
  obtain ⟨vs, H1, I1, r, q⟩ := hh
  refine thn (hkw.run pos pins s1 σ H1 _ I1 q) fun ws s2 hh => ?_
  obtain ⟨zs, H2, I2, rz, q2⟩ := hh
  rw [hks]
  exact ⟨I2.kIn, run_fnKR F hr hb (hx σ) I2 r rz q2⟩
/-- f(k = v, ..) -/
theorem pe_callKR0 {f : Addr} {fd : FuncData} (F : FnR X.prog X.w X.K X.mg X.base k f fd ps sp) (hr : Rm k X.A) (hg : Gl X x) (hm : X.mg x = some (.ref f)) (hk : PySem.W.keepIn X.K (.ref f) = true) (hb : KBinds X.K fd ps ks g gV) (hx : ∀ σ, PassesAt (L2.CX X.prog X.w) X σ (E σ))
    (hkw : PK X kws tk) (hall : (backToKw pos (keywordEach kws X.env)).all (·.1.isSome) = true) (hks : (backToKw pos (keywordEach kws X.env)).filterMap (·.1) = ks) (hdb : (x == ("__debug__" : Str)) = false)
    (hpl : ((backTo pos (starEach [] X.env)).any (·.1) || (backToKw pos (keywordEach kws X.env)).any (·.1.isNone)) = false) : PE X (.Call (.Name x p) [] kws pos) (tCallKX sp gV E tNil tk) := by
  refine ⟨fun pins s σ H Q I h => wpAny_Call_Name_kw (ld_glob I hg hm ?_ hdb)⟩
  refine PySem.W.callWith_KW0 (h₀ := X.base) I.ok.mod.kin hk hall (thn (hkw.run pos pins s σ H _ I h) fun ws s2 hh => ?_) hpl
  obtain ⟨zs, H2, I2, rz, q2⟩ := hh
  rw [hks]
  exact ⟨I2.kIn, run_fnKR (us := []) F hr hb (hx σ) I2 .nil rz q2⟩
/-- the arguments in the parameters' order -/
def pick {α : Type} (π : List Nat) (xs : List α) : List α := π.filterMap fun i => xs[i]?
theorem pick_rel (π : List Nat) {xs : List V} {us : List Value} (r : Vals xs us) : Vals (pick π xs) (pick π us) := by
  induction π with
  | nil => exact .nil
  | cons i π ih =>
    unfold pick
    rw [List.filterMap_cons, List.filterMap_cons]
    cases hx : xs[i]? with
    | none =>
      have hu : us[i]? = none := by
        rw [List.getElem?_eq_none_iff] at hx ⊢
        rw [← r.length]; exact hx
      rw [hu]; exact ih
    | some v =>
      obtain ⟨u, hu, rv⟩ := r.get hx
      rw [hu]; exact .cons rv ih
def argK {α : Type} (m n : Nat) (π : List Nat) (us ws : List α) : List α := if us.length = m ∧ ws.length = n then pick π (us ++ ws) else []
theorem kb_of {P : Program} {w : World} {mg : Str → Option Value} {q : Str} {args : Arguments} {body : List Stmt} {sc : Scope} {f : Addr} {fd fd' : FuncData} (F : FunD K x q args body sc [] [] f fd') (lk : ∃ oc od osl, K.lookup f = some ⟨oc, od, .func fd, osl⟩) (m n : Nat) (π : List Nat) (h0 : ps.length ≠ 0)
    (hb : ∀ (kV doc pm : Value) (an : Option Addr) (cdv ct : Value) (us ws : List Value), us.length = m → ws.length = n → bindArgs (PySem.W.fnOf x q args body sc .none kV doc pm an cdv ct) ⟨us, ks.zip ws⟩ = pure (ps.zip (pick π (us ++ ws)))) : KBinds K fd ps ks (argK m n π) (argK m n π) where
  to := fun s us ws _ hl => by
    obtain ⟨oc, od, dV, kV, doc, pm, an, cdv, ct, osl, e, l1, _, hD, _⟩ := F.ex
    obtain ⟨oc', od', osl', l2⟩ := lk
    have e2 : fd = fd' := by
      rw [l1] at l2
      injection l2 with l2
      injection l2 with _ _ l2 _
      injection l2 with l2
      exact l2.symm
    subst e2
    unfold argK at hl ⊢
    split at hl
    · rename_i c
      rw [if_pos c]
      rcases hD with ⟨_, rfl⟩ | ⟨z, _⟩
      · rw [e]
        exact .of_eq (hb kV doc pm an cdv ct us ws c.1 c.2)
      · exact absurd rfl z
    · exact (h0 hl.symm).elim
  rel := fun r rz => by
    unfold argK
    rw [r.length, rz.length]
    split
    · exact pick_rel π (r.append rz)
    · exact .nil
theorem w_callK {σ : L2.St} {H : Hp} {Q : VK} {m n : Nat} {π : List Nat} (k : t σ H fun vs H1 => tk σ H1 fun zs H2 => sp (argK m n π vs zs) H2 Q (E σ)) : tCallKX sp (argK m n π) E t tk σ H Q := k
/-- f(k = v, ..), where what is raised goes on by tk; pe_fnK0: where nothing is -/
theorem pe_fnKX0 {args : Arguments} {body : List Stmt} {sc : Scope} (hx : ∀ σ, PassesAt (L2.CX X.prog X.w) X σ (E σ)) (F : Fn X.prog X.w X.K X.mg x k ps sp) (d : ∃ fd, FunD X.K x x args body sc [] [] (He.ga X.K x) fd) (n : Nat) (π : List Nat)
    (hb : ∀ (kV doc pm : Value) (an : Option Addr) (cdv ct : Value) (us ws : List Value), us.length = 0 → ws.length = n → bindArgs (PySem.W.fnOf x x args body sc .none kV doc pm an cdv ct) ⟨us, ks.zip ws⟩ = pure (ps.zip (pick π (us ++ ws))))
    (hr : Rm k X.A) (hg : Gl X x) (hkw : PK X kws tk) (h0 : ps.length ≠ 0 := by decide) (hall : (backToKw pos (keywordEach kws X.env)).all (·.1.isSome) = true := by rfl) (hks : (backToKw pos (keywordEach kws X.env)).filterMap (·.1) = ks := by rfl) (hdb : (x == ("__debug__" : Str)) = false := by decide)
    (hpl : ((backTo pos (starEach [] X.env)).any (·.1) || (backToKw pos (keywordEach kws X.env)).any (·.1.isNone)) = false := by rfl) : PE X (.Call (.Name x p) [] kws pos) (tCallKX sp (argK 0 n π) E tNil tk) := by
  obtain ⟨fd, G, b, _, lk⟩ := F.ex
  obtain ⟨fd', d⟩ := d
  exact pe_callKR0 (G X.base) hr hg F.gl F.kp (kb_of (P := X.prog) (w := X.w) (mg := X.mg) d lk 0 n π h0 hb) hx hkw hall hks hdb hpl
theorem pe_fnKX {args : Arguments} {body : List Stmt} {sc : Scope} (hx : ∀ σ, PassesAt (L2.CX X.prog X.w) X σ (E σ)) (F : Fn X.prog X.w X.K X.mg x k ps sp) (d : ∃ fd, FunD X.K x x args body sc [] [] (He.ga X.K x) fd) (m n : Nat) (π : List Nat)
    (hb : ∀ (kV doc pm : Value) (an : Option Addr) (cdv ct : Value) (us ws : List Value), us.length = m → ws.length = n → bindArgs (PySem.W.fnOf x x args body sc .none kV doc pm an cdv ct) ⟨us, ks.zip ws⟩ = pure (ps.zip (pick π (us ++ ws))))
    (hr : Rm k X.A) (hg : Gl X x) (ha : PA X (e :: es) t) (hkw : PK X kws tk) (h0 : ps.length ≠ 0 := by decide) (hall : (backToKw pos (keywordEach kws X.env)).all (·.1.isSome) = true := by rfl) (hks : (backToKw pos (keywordEach kws X.env)).filterMap (·.1) = ks := by rfl) (hdb : (x == ("__debug__" : Str)) = false := by decide)
    (he : starEach (e :: es) X.env = (false, eval e X.env) :: starEach es X.env := by rfl) (hpl : ((backTo pos (starEach (e :: es) X.env)).any (·.1) || (backToKw pos (keywordEach kws X.env)).any (·.1.isNone)) = false := by rfl) : PE X (.Call (.Name x p) (e :: es) kws pos) (tCallKX sp (argK m n π) E t tk) := by
  obtain ⟨fd, G, b, _, lk⟩ := F.ex
  obtain ⟨fd', d⟩ := d
  exact pe_callKR (G X.base) hr hg F.gl F.kp (kb_of (P := X.prog) (w := X.w) (mg := X.mg) d lk m n π h0 hb) hx ha hkw hall hks hdb he hpl
end
/-! repr -/
section
variable {X : Cx} {K : PySem.W.Frag} {H : Hp} {Q : VK}
mutual
theorem dp_nodict {K : PySem.W.Frag} {H : Hp} : ∀ (d : PyData) (v : V), Dp K H v d → d.hasDict = false
  | .none, _, _ => by simp only [PyData.hasDict]
  | .int _, _, _ => by simp only [PyData.hasDict]
  | .str _, _, _ => by simp only [PyData.hasDict]
  | .bool _, _, _ => by simp only [PyData.hasDict]
  | .list ds, _, h => by
    cases h with
    | lst _ ha => rw [PyData.hasDict]; exact dp_nodictA ds _ ha
  | .tuple ds, _, h => by
    cases h with
    | tup _ ha => rw [PyData.hasDict]; exact dp_nodictA ds _ ha
  | .dict _, _, h => by cases h
theorem dp_nodictA {K : PySem.W.Frag} {H : Hp} : ∀ (ds : List PyData) (vs : List V), DpAll K H vs ds → PyData.hasDictAll ds = false
  | [], _, _ => by simp only [PyData.hasDictAll]
  | d :: ds, _, h => by
    cases h with
    | cons h1 h2 => rw [PyData.hasDictAll, dp_nodict d _ h1, dp_nodictA ds _ h2]; rfl
end
/-- repr(x) of data -/
def rReprD (K : PySem.W.Frag) : List V → Hp → VK → Prop := fun xs H Q => ∃ v d, xs = [v] ∧ Dp K H v d ∧ d.showable = true ∧ d.depth ≤ 60 ∧ d.shown.length ≤ sizeLine ∧ Q (.str d.shown) H
theorem call_reprD (hK : X.K = K) (hg : X.A.guards = some []) (hu : X.A.units + 64 < cLine) : CallR X (.builtin "repr") (rReprD K) := by
  subst hK
  intro pins s σ H xs us Q I r h
  obtain ⟨v, d, rfl, hd, hs, hdep, hz, q⟩ := h
  obtain ⟨u, rfl, ru⟩ := vals1 r
  cases hd with
  | non =>
    cases (show u = Value.none from ru)
    exact PySem.P.repr_of_none ⟨.str _, H, I.tok _, ⟨_, rfl⟩, q⟩
  | bl b =>
    cases (show u = Value.bool b from ru)
    refine PySem.P.repr_of_bool ⟨.str _, H, I.tok _, ⟨_, rfl⟩, ?_⟩
    cases b <;> exact q
  | int i =>
    obtain ⟨t, rfl⟩ := ru
    refine PySem.P.repr_of_int ?_ ⟨.str _, H, I.tok _, ⟨_, rfl⟩, q⟩
    rw [PyData.showable] at hs
    exact of_decide_eq_true hs
  | str x =>
    obtain ⟨t, rfl⟩ := ru
    exact PySem.P.repr_of_str ⟨.str _, H, I.tok _, ⟨_, rfl⟩, q⟩ hz
  | @lst a xs ds hx ha =>
    obtain ⟨as, rd⟩ := Dp.reads I _ _ _ (.lst hx ha) ru
    cases (show u = Value.ref a from ru)
    exact repr_of_reads' rd hs (PyData.noDict_hsm (dp_nodict _ _ (.lst hx ha))) hg (by omega) (fun _ _ e => e) (fun h' u tk hk => ⟨.str _, H, I.kept hk, ⟨_, rfl⟩, q⟩) hz
  | @tup a xs ds hx ha =>
    obtain ⟨as, rd⟩ := Dp.reads I _ _ _ (.tup hx ha) ru
    cases (show u = Value.ref a from ru)
    exact repr_of_reads' rd hs (PyData.noDict_hsm (dp_nodict _ _ (.tup hx ha))) hg (by omega) (fun _ _ e => e) (fun h' u tk hk => ⟨.str _, H, I.kept hk, ⟨_, rfl⟩, q⟩) hz
end
/-- dicts of plain values -/
def plainV : V → Bool
  | .non => true
  | .bl _ => true
  | .int _ => true
  | .str _ => true
  | _ => false
def plainD : V → PyData
  | .bl b => .bool b
  | .int i => .int i
  | .str x => .str x
  | _ => .none
def keyD : Key → PyData
  | .inl i => .int i
  | .inr x => .str x
def kvD (kvs : List (Key × V)) : List (PyData × PyData) := kvs.map fun kv => (keyD kv.1, plainD kv.2)
theorem plain_reads {h : Heap} {v : V} {u : Value} (hv : plainV v = true) (r : RelV v u) : Reads h u (plainD v) [] := by
  cases v with
  | non => cases (show u = Value.none from r); exact .none
  | bl b => cases (show u = Value.bool b from r); exact .bool b
  | int i => obtain ⟨t, rfl⟩ := r; exact .int i t
  | str x => obtain ⟨t, rfl⟩ := r; exact .str x t
  | _ => cases hv
theorem key_reads {h : Heap} {k : Key} {u : Value} (e : keyIs k u = true) : Reads h u (keyD k) [] := by
  rcases keyIs_shape e with ⟨i, t, rfl, rfl⟩ | ⟨x, t, rfl, rfl⟩
  · exact .int i t
  · exact .str x t
theorem kv_reads {P : Program} {w : World} {h : Heap} : ∀ {kvs : List (Key × V)} {vs : List (Key × Value)} {es : List DictEntry}, kvs.all (fun kv => plainV kv.2) = true → KV kvs vs → Pairs (mixKind P w) es vs →
    ReadsAll h (es.map (·.key)) ((kvD kvs).map (·.1)) [] ∧ ReadsAll h (es.map (·.val)) ((kvD kvs).map (·.2)) []
  | [], _, _, _, .nil, .nil => ⟨.nil, .nil⟩
  | kv :: kvs, _, _, hv, .cons r rs, .cons h1 h2 ps => by
    rw [List.all_cons, Bool.and_eq_true] at hv
    obtain ⟨a, b⟩ := kv_reads (h := h) hv.2 rs ps
    obtain ⟨r1, r2⟩ := r
    refine ⟨.cons (as := []) (key_reads ?_) a, .cons (as := []) ?_ b⟩
    · rw [r1]; exact h1
    · have z := plain_reads (h := h) hv.1 r2
      rw [← h2] at z; exact z
def rReprK : List V → Hp → VK → Prop := fun xs H Q => ∃ a kvs, xs = [.ref a] ∧ H a = some (.dK kvs) ∧ kvs.all (fun kv => plainV kv.2) = true ∧ (PyData.dict (kvD kvs)).showable = true ∧ (PyData.dict (kvD kvs)).depth ≤ 60 ∧ (PyData.dict (kvD kvs)).shown.length ≤ sizeLine ∧ Q (.str (PyData.dict (kvD kvs)).shown) H
theorem call_reprK {X : Cx} (hg : X.A.guards = some []) (hu : X.A.units + 64 < cLine) : CallR X (.builtin "repr") rReprK := by
  intro pins s σ H xs us Q I r h
  obtain ⟨a, kvs, rfl, ha, hv, hs, hd, hz, q⟩ := h
  obtain ⟨u, rfl, ru⟩ := vals1 r
  cases (show u = Value.ref a from ru)
  obtain ⟨_, hsys, vs, rel, o, es, ep, ho, hc, hdat, _, ps, _⟩ := (show ObjOk X.prog X.w H s.heap a (.dK kvs) from I.hok a _ ha)
  obtain ⟨r1, r2⟩ := kv_reads (h := s.heap) hv rel ps
  refine repr_of_reads' (.dict (as := []) (bs := []) ho hc.1 hdat r1 r2) hs (fun _ hm => ?_) hg (by omega) (fun _ _ e => e) (fun h' u tk hk => ⟨.str _, H, I.kept hk, ⟨_, rfl⟩, q⟩) hz
  rw [show sysModules = a by simpa using hm] at hsys
  simp at hsys
def rReprA (K : PySem.W.Frag) : List V → Hp → VK → Prop := fun xs H Q => rReprD K xs H Q ∨ rReprK xs H Q
theorem call_reprA {X : Cx} {K : PySem.W.Frag} (hK : X.K = K) (hg : X.A.guards = some []) (hu : X.A.units + 64 < cLine) : CallR X (.builtin "repr") (rReprA K) := fun pins s σ H xs us Q I r h =>
  h.elim (fun h => call_reprD hK hg hu pins s σ H xs us Q I r h) fun h => call_reprK hg hu pins s σ H xs us Q I r h
/-! the law's end -/
theorem law_callR {P : Program} {w : World} {K : PySem.W.Frag} {mg mb : Str → Option Value} {k : Nat} {fa a : Addr} {fd : FuncData} {x : Str} {sp : Sp} {s₁ : Shared} {vs : List Value} {ns : List Int}
    (KX : K.In s₁.heap) (hns : s₁.heap.Ns mainGlobals mg) (hb : s₁.heap.Ns builtinsNs mb) (hbb : ∀ x : Str, x ≠ "__name__" → mb x = bootBuiltins x) (hlim : s₁.heap.NoLimit) (hg : s₁.gens = #[]) (ha : s₁.heap.get? a = some { cls := .type "list", data := .seq vs.toArray }) (hi : IntsAre vs ns) (hl : ns.length ≤ sizeLine) (hr : Room k callerA)
    (F : ∀ base : Heap, FnR P w K mg base k fa fd [x] sp) (hbind : ∀ (s : Shared) (u : Value), BindsTo s fd ⟨[u], []⟩ [(x, u)]) (hsp : ∀ H : Hp, Only H → SqL K H a (ns.map V.int) → sp [.ref a] H (fun v _ => v = .bl true) E0) :
    codeAny (model P w) callerA (.call (.ref fa) ⟨[.ref a], []⟩) (fun r s' => r = .ok (.ret (.bool true)) ∧ OldK s₁.heap s'.heap ∧ s'.os = s₁.os ∧ AllBare s'.gens) s₁ := by
  have rv := vals_ints hi
  have len := hi.length
  have core : ∀ H : Hp, Only H → SqL K H a (ns.map V.int) → HOk P w H s₁.heap → (∀ b, H b ≠ none → b = a) → (H a ≠ none → K.lookup a = none) → codeAny (model P w) callerA (.call (.ref fa) ⟨[.ref a], []⟩) (fun r s' => r = .ok (.ret (.bool true)) ∧ OldK s₁.heap s'.heap ∧ s'.os = s₁.os ∧ AllBare s'.gens) s₁ := by
    intro H hO hS hok hA hK
    have free : ∀ {b : Addr}, b ≠ a → H b = none := fun {b} n => by
      cases q : H b with
      | none => rfl
      | some u => exact absurd (hA b (by rw [q]; simp)) n
    have notA : ∀ {b : Addr} {o : Obj} {es : Array DictEntry} {ep : Nat}, s₁.heap.get? b = some o → o.data = .dict es ep → H b = none := fun {b o es ep} e d => free fun z => by
      subst z
      rw [ha] at e; cases e
      exact nomatch (show Data.seq vs.toArray _ = Data.dict es ep from d)
    have ns' : ∀ {b : Addr} {m : Str → Option Value}, s₁.heap.Ns b m → (hidT s₁.heap H).Ns b m := fun {b m} ⟨o, es, ep, e, d, r⟩ => ⟨o, es, ep, hidT_get e (notA e d), d, r⟩
    have kin : K.In (hidT s₁.heap H) := fun b o e => hidT_get (KX b o e) (by
      by_cases z : b = a
      · subst z
        cases q : H b with
        | none => rfl
        | some u => rw [hK (by rw [q]; simp)] at e; cases e
      · exact free z)
    obtain ⟨mc, l1, l2⟩ := hlim
    have env0 : Env0 P w K mg (hidT s₁.heap H) callerA [] s₁ H := ⟨rfl, ⟨kin, ns' hns, ⟨mb, ns' hb, hbb⟩, ⟨mc, ns' l1, l2⟩⟩, fun b o e => of_hidT e, Nat.le_of_eq (hidT_size _ _), trivial, fun b hb => absurd (show b ∈ ([] : List Addr) from hb) (by simp), hok, .of_eq hg⟩
    refine codeAny_mono ((F _).run callerA [] s₁ H ⟨[.ref a], []⟩ [.ref a] [.ref a] _ _ ⟨hr, rfl⟩ env0 (hbind s₁ (.ref a)) (.cons rfl .nil) (hsp H hO hS)) fun r s' h => ?_
    cases r with
    | error e =>
      obtain ⟨_, _, _, _, _, _, _, _, _, _, _, _, z⟩ := (show L2.CX P w _ _ _ E0 e s' from h)
      exact z.elim
    | ok fl =>
      cases fl with
      | next => exact h.elim
      | brk => exact h.elim
      | cont => exact h.elim
      | ret u =>
        obtain ⟨v, H', os, bare, un, hok', ru, q⟩ := h
        cases (show v = V.bl true from q)
        cases (show u = Value.bool true from ru)
        refine ⟨rfl, OldK.of_keep fun b o e => ?_, os, bare⟩
        cases qb : H b with
        | none => exact un.keep b o e qb (fun z => absurd (show b ∈ ([] : List Addr) from z) (by simp)) (by simp)
        | some u =>
          rcases hO b with z | ⟨ob, xs, z⟩
          · rw [qb] at z; cases z
          · obtain ⟨e1, _⟩ := hok b _ z
            obtain ⟨e2, _⟩ := hok' b _ (un.frzs b ob _ z)
            rw [e] at e1; cases e1
            exact e2
  cases hk : K.lookup a with
  | some o =>
    have e := KX a o hk
    rw [ha] at e
    cases e
    exact core (fun _ => none) (fun _ => .inl rfl) (.inr ⟨_, vs.toArray, _, hk, rfl, rfl, rfl, by rw [List.size_toArray, len]; exact hl, by simpa using rv⟩) (fun b u z => nomatch (show (none : Option HO) = some u from z)) (fun b z => absurd rfl z) fun z => absurd rfl z
  | none =>
    let fz : HO := .frz { cls := .type "list", data := .seq vs.toArray } (.lst (ns.map V.int))
    refine core (fun b => if b = a then some fz else none) (fun b => ?_) (.inl (.inr ⟨_, if_pos rfl⟩)) (fun b u z => ?_) (fun b z => ?_) fun _ => hk
    · by_cases hb : b = a
      · exact .inr ⟨_, _, if_pos hb⟩
      · exact .inl (if_neg hb)
    · by_cases hb : b = a
      · cases (if_pos hb).symm.trans z
        subst hb
        exact ⟨ha, by rw [List.length_map]; exact hl, vs, _, rv, ha⟩
      · cases (if_neg hb).symm.trans z
    · exact Classical.byContradiction fun hb => z (if_neg hb)
theorem walk_ofR {l : PySem.W.OpenLaw} {n k : Nat} {q : Program} {loose : List Str} {XP : (Str → Option Value) → Heap → Prop} {YP : World → Heap → Prop} {d : DefRec} {x : Str} (hn : l.most = some n) (hn2 : n ≤ sizeLine) (hdf : d.params.defaults = []) (hr : Room k callerA)
    (F : ∀ (w : World) (mg : Str → Option Value) (fa : Addr) (h : Heap), YP w h → h.Ns mainGlobals mg → mg d.name = some (.ref fa) → ∃ (K : PySem.W.Frag) (fd : FuncData) (sp : Sp), K.In h ∧ (∀ (s : Shared) (u : Value), BindsTo s fd ⟨[u], []⟩ [(x, u)]) ∧
      (∀ (H : Hp) (a : Addr) (ns : List Int), ns.length ≤ n → Only H → SqL K H a (ns.map V.int) → sp [.ref a] H (fun v _ => v = .bl true) E0) ∧ ∀ base : Heap, FnR l.prog w K mg base k fa fd [x] sp) : PySem.W.WalkO q loose XP YP l.row.toRowW d [] (fun f vs => PySem.call f vs) := by
  refine Att.attach_call hn hdf fun w s₀ s₁ mg mb fa o pm cd doc a vs ns G Y ho hd hcd hmg hobj hints hlen hg => ?_
  obtain ⟨K, fd, sp, KX, hb, hsp, hF⟩ := F w mg fa _ Y G.T.g hmg
  exact law_callR KX G.T.g G.T.b G.T.builtins G.T.nolimit hg hobj hints (Nat.le_trans hlen hn2) hr hF hb fun H hO hS => hsp H a ns hlen hO hS
end XL
end

end J
namespace J
open PySem PySem.Spec PyProof.Rows L2
--plain
/-! ### the head's look, with the interpreter's own table of statics (a class's attribute is read by it) -/
section
open PySem PySem.Spec PyProof.Rows He
namespace HKS
def asS (g : Addr → Option Obj) (n : Nat) : List Addr := cStatics :: asD g n
def obsS (n : Nat) (fa : List Fa) (fn : List DefD) (ts : List Tab) (ex : PySem.W.Frag → Bool) (g : Addr → Option Obj) : AlX := (obsT fa fn ts (frT g (asS g n)), ex (frT g (asS g n)))
/-- what is told: the facts, the Bool ex -/
structure SaysS (fa : List Fa) (fn : List DefD) (ts : List Tab) (ex : PySem.W.Frag → Bool) (w : World) (K : PySem.W.Frag) : Prop where
  t : SaysT fa fn ts w K
  more : ex K = true
def hookS (n : Nat) (fa : List Fa) (fn : List DefD) (ts : List Tab) (ex : PySem.W.Frag → Bool) : PySem.W.Hook where
  α := AlX
  obs := fun s => obsS n fa fn ts ex s.heap.get?
  val := fun w => (valT fn ts w, true)
  says := fun w h => ∃ K : PySem.W.Frag, K.In h ∧ SaysS fa fn ts ex w K
  of := fun _ _ e => ⟨_, frT_in, congrArg (fun z : AlX => z.1) e, congrArg (fun z : AlX => z.2) e⟩
  keeps := fun _ _ _ ⟨K, hK, c⟩ k => ⟨K, PySem.W.Frag.In.keeps hK k, c⟩
theorem obsS_eq {n : Nat} {fa : List Fa} {fn : List DefD} {ts : List Tab} {ex : PySem.W.Frag → Bool} {g : Addr → Option Obj} {s : Shared} (h : ∀ a, g a = s.heap.get? a) : obsS n fa fn ts ex g = (hookS n fa fn ts ex).obs s := by
  rw [show g = s.heap.get? from funext h]
  rfl
end HKS
end

end J
namespace J
open PySem PySem.Spec PyProof.Rows L2
def top (i : Nat) : Stmt := PySem.Challenge.pw_rowsjoined_k25_chains_as_long.main.body.getD i (.Pass ⟨0, 0, 0, 0⟩)
abbrev s_wall : Stmt := top 0
abbrev N_wall : List Str := ["k"]
theorem sc_wall : FnScope N_wall ["k"] (defScope s_wall) := ⟨rfl, rfl, rfl, by decide +kernel, rfl, by decide +kernel, by decide +kernel⟩
abbrev s_is_whole : Stmt := top 3
abbrev N_is_whole : List Str := ["thing"]
theorem sc_is_whole : FnScope N_is_whole ["thing"] (defScope s_is_whole) := ⟨rfl, rfl, rfl, by decide +kernel, rfl, by decide +kernel, by decide +kernel⟩
abbrev s_is_within : Stmt := top 4
abbrev N_is_within : List Str := ["thing", "low", "high"]
theorem sc_is_within : FnScope N_is_within ["thing", "low", "high"] (defScope s_is_within) := ⟨rfl, rfl, rfl, by decide +kernel, rfl, by decide +kernel, by decide +kernel⟩
abbrev s_ops_told : Stmt := top 5
abbrev N_ops_told : List Str := []
theorem sc_ops_told : FnScope N_ops_told [] (defScope s_ops_told) := ⟨rfl, rfl, rfl, by decide +kernel, rfl, by decide +kernel, by decide +kernel⟩
abbrev s_bits_of : Stmt := top 8
abbrev N_bits_of : List Str := ["places", "found", "place"]
theorem sc_bits_of : FnScope N_bits_of ["places"] (defScope s_bits_of) := ⟨rfl, rfl, rfl, by decide +kernel, rfl, by decide +kernel, by decide +kernel⟩
abbrev s_touched : Stmt := top 9
abbrev N_touched : List Str := ["step", "written"]
theorem sc_touched : FnScope N_touched ["step"] (defScope s_touched) := ⟨rfl, rfl, rfl, by decide +kernel, rfl, by decide +kernel, by decide +kernel⟩
abbrev s_met : Stmt := top 10
abbrev N_met : List Str := ["one", "other"]
theorem sc_met : FnScope N_met ["one", "other"] (defScope s_met) := ⟨rfl, rfl, rfl, by decide +kernel, rfl, by decide +kernel, by decide +kernel⟩
abbrev s_beat_of : Stmt := top 11
abbrev N_beat_of : List Str := ["row", "at", "numbers", "found", "ahead", "number"]
theorem sc_beat_of : FnScope N_beat_of ["row", "at", "numbers"] (defScope s_beat_of) := ⟨rfl, rfl, rfl, by decide +kernel, rfl, by decide +kernel, by decide +kernel⟩
abbrev s_packed : Stmt := top 12
abbrev N_packed : List Str := ["steps", "row", "numbers", "beats", "at", "number", "step"]
theorem sc_packed : FnScope N_packed ["steps"] (defScope s_packed) := ⟨rfl, rfl, rfl, by decide +kernel, rfl, by decide +kernel, by decide +kernel⟩
abbrev s_chain_of : Stmt := top 13
abbrev N_chain_of : List Str := ["steps", "row", "found", "beat", "step", "at"]
theorem sc_chain_of : FnScope N_chain_of ["steps"] (defScope s_chain_of) := ⟨rfl, rfl, rfl, by decide +kernel, rfl, by decide +kernel, by decide +kernel⟩
abbrev s_BadStepu_initu : Stmt := inClass (top 16) 0
abbrev N_BadStepu_initu : List Str := ["self", "thing"]
theorem sc_BadStepu_initu : FnScope N_BadStepu_initu ["self", "thing"] (defScope s_BadStepu_initu) := ⟨rfl, rfl, rfl, by decide +kernel, rfl, by decide +kernel, by decide +kernel⟩
abbrev s_sel_words : Stmt := top 23
abbrev N_sel_words : List Str := ["sel", "letter"]
theorem sc_sel_words : FnScope N_sel_words ["sel", "letter"] (defScope s_sel_words) := ⟨rfl, rfl, rfl, by decide +kernel, rfl, by decide +kernel, by decide +kernel⟩
abbrev s_source_words : Stmt := top 24
abbrev N_source_words : List Str := ["source"]
theorem sc_source_words : FnScope N_source_words ["source"] (defScope s_source_words) := ⟨rfl, rfl, rfl, by decide +kernel, rfl, by decide +kernel, by decide +kernel⟩
abbrev s_Step_told : Stmt := inClass (top 25) 0
abbrev N_Step_told : List Str := ["self"]
theorem sc_Step_told : FnScope N_Step_told ["self"] (defScope s_Step_told) := ⟨rfl, rfl, rfl, by decide +kernel, rfl, by decide +kernel, by decide +kernel⟩
abbrev s_Step_sources : Stmt := inClass (top 25) 1
abbrev N_Step_sources : List Str := ["self"]
theorem sc_Step_sources : FnScope N_Step_sources ["self"] (defScope s_Step_sources) := ⟨rfl, rfl, rfl, by decide +kernel, rfl, by decide +kernel, by decide +kernel⟩
abbrev s_Step_changed_places : Stmt := inClass (top 25) 2
abbrev N_Step_changed_places : List Str := ["self"]
theorem sc_Step_changed_places : FnScope N_Step_changed_places ["self"] (defScope s_Step_changed_places) := ⟨rfl, rfl, rfl, by decide +kernel, rfl, by decide +kernel, by decide +kernel⟩
abbrev s_Step_uses_way : Stmt := inClass (top 25) 3
abbrev N_Step_uses_way : List Str := ["self"]
theorem sc_Step_uses_way : FnScope N_Step_uses_way ["self"] (defScope s_Step_uses_way) := ⟨rfl, rfl, rfl, by decide +kernel, rfl, by decide +kernel, by decide +kernel⟩
abbrev s_Step_reads : Stmt := inClass (top 25) 4
abbrev N_Step_reads : List Str := ["self", "found", "source"]
theorem sc_Step_reads : FnScope N_Step_reads ["self"] (defScope s_Step_reads) := ⟨rfl, rfl, rfl, by decide +kernel, rfl, by decide +kernel, by decide +kernel⟩
abbrev s_Step_writes : Stmt := inClass (top 25) 5
abbrev N_Step_writes : List Str := ["self", "found", "place"]
theorem sc_Step_writes : FnScope N_Step_writes ["self"] (defScope s_Step_writes) := ⟨rfl, rfl, rfl, by decide +kernel, rfl, by decide +kernel, by decide +kernel⟩
abbrev s_Step_words : Stmt := inClass (top 25) 6
abbrev N_Step_words : List Str := ["self"]
theorem sc_Step_words : FnScope N_Step_words ["self"] (defScope s_Step_words) := ⟨rfl, rfl, rfl, by decide +kernel, rfl, by decide +kernel, by decide +kernel⟩
abbrev s_Step_taken : Stmt := inClass (top 25) 7
abbrev N_Step_taken : List Str := ["self", "bench"]
theorem sc_Step_taken : FnScope N_Step_taken ["self", "bench"] (defScope s_Step_taken) := ⟨rfl, rfl, rfl, by decide +kernel, rfl, by decide +kernel, by decide +kernel⟩
abbrev s_Step_left : Stmt := inClass (top 25) 8
abbrev N_Step_left : List Str := ["self", "bench", "found"]
theorem sc_Step_left : FnScope N_Step_left ["self", "bench", "found"] (defScope s_Step_left) := ⟨rfl, rfl, rfl, by decide +kernel, rfl, by decide +kernel, by decide +kernel⟩
abbrev s_Getu_initu : Stmt := inClass (top 26) 0
abbrev N_Getu_initu : List Str := ["self", "to", "sel"]
theorem sc_Getu_initu : FnScope N_Getu_initu ["self", "to", "sel"] (defScope s_Getu_initu) := ⟨rfl, rfl, rfl, by decide +kernel, rfl, by decide +kernel, by decide +kernel⟩
abbrev s_Get_told : Stmt := inClass (top 26) 1
abbrev N_Get_told : List Str := ["self"]
theorem sc_Get_told : FnScope N_Get_told ["self"] (defScope s_Get_told) := ⟨rfl, rfl, rfl, by decide +kernel, rfl, by decide +kernel, by decide +kernel⟩
abbrev s_Get_changed_places : Stmt := inClass (top 26) 2
abbrev N_Get_changed_places : List Str := ["self"]
theorem sc_Get_changed_places : FnScope N_Get_changed_places ["self"] (defScope s_Get_changed_places) := ⟨rfl, rfl, rfl, by decide +kernel, rfl, by decide +kernel, by decide +kernel⟩
abbrev s_Get_words : Stmt := inClass (top 26) 3
abbrev N_Get_words : List Str := ["self"]
theorem sc_Get_words : FnScope N_Get_words ["self"] (defScope s_Get_words) := ⟨rfl, rfl, rfl, by decide +kernel, rfl, by decide +kernel, by decide +kernel⟩
abbrev s_Get_taken : Stmt := inClass (top 26) 4
abbrev N_Get_taken : List Str := ["self", "bench"]
theorem sc_Get_taken : FnScope N_Get_taken ["self", "bench"] (defScope s_Get_taken) := ⟨rfl, rfl, rfl, by decide +kernel, rfl, by decide +kernel, by decide +kernel⟩
abbrev s_Asku_initu : Stmt := inClass (top 27) 0
abbrev N_Asku_initu : List Str := ["self", "to", "sel"]
theorem sc_Asku_initu : FnScope N_Asku_initu ["self", "to", "sel"] (defScope s_Asku_initu) := ⟨rfl, rfl, rfl, by decide +kernel, rfl, by decide +kernel, by decide +kernel⟩
abbrev s_Ask_told : Stmt := inClass (top 27) 1
abbrev N_Ask_told : List Str := ["self"]
theorem sc_Ask_told : FnScope N_Ask_told ["self"] (defScope s_Ask_told) := ⟨rfl, rfl, rfl, by decide +kernel, rfl, by decide +kernel, by decide +kernel⟩
abbrev s_Ask_changed_places : Stmt := inClass (top 27) 2
abbrev N_Ask_changed_places : List Str := ["self"]
theorem sc_Ask_changed_places : FnScope N_Ask_changed_places ["self"] (defScope s_Ask_changed_places) := ⟨rfl, rfl, rfl, by decide +kernel, rfl, by decide +kernel, by decide +kernel⟩
abbrev s_Ask_words : Stmt := inClass (top 27) 3
abbrev N_Ask_words : List Str := ["self"]
theorem sc_Ask_words : FnScope N_Ask_words ["self"] (defScope s_Ask_words) := ⟨rfl, rfl, rfl, by decide +kernel, rfl, by decide +kernel, by decide +kernel⟩
abbrev s_Ask_taken : Stmt := inClass (top 27) 4
abbrev N_Ask_taken : List Str := ["self", "bench"]
theorem sc_Ask_taken : FnScope N_Ask_taken ["self", "bench"] (defScope s_Ask_taken) := ⟨rfl, rfl, rfl, by decide +kernel, rfl, by decide +kernel, by decide +kernel⟩
abbrev s_Cellu_initu : Stmt := inClass (top 28) 0
abbrev N_Cellu_initu : List Str := ["self", "to", "source"]
theorem sc_Cellu_initu : FnScope N_Cellu_initu ["self", "to", "source"] (defScope s_Cellu_initu) := ⟨rfl, rfl, rfl, by decide +kernel, rfl, by decide +kernel, by decide +kernel⟩
abbrev s_Cell_told : Stmt := inClass (top 28) 1
abbrev N_Cell_told : List Str := ["self"]
theorem sc_Cell_told : FnScope N_Cell_told ["self"] (defScope s_Cell_told) := ⟨rfl, rfl, rfl, by decide +kernel, rfl, by decide +kernel, by decide +kernel⟩
abbrev s_Cell_sources : Stmt := inClass (top 28) 2
abbrev N_Cell_sources : List Str := ["self"]
theorem sc_Cell_sources : FnScope N_Cell_sources ["self"] (defScope s_Cell_sources) := ⟨rfl, rfl, rfl, by decide +kernel, rfl, by decide +kernel, by decide +kernel⟩
abbrev s_Cell_changed_places : Stmt := inClass (top 28) 3
abbrev N_Cell_changed_places : List Str := ["self"]
theorem sc_Cell_changed_places : FnScope N_Cell_changed_places ["self"] (defScope s_Cell_changed_places) := ⟨rfl, rfl, rfl, by decide +kernel, rfl, by decide +kernel, by decide +kernel⟩
abbrev s_Cell_words : Stmt := inClass (top 28) 4
abbrev N_Cell_words : List Str := ["self"]
theorem sc_Cell_words : FnScope N_Cell_words ["self"] (defScope s_Cell_words) := ⟨rfl, rfl, rfl, by decide +kernel, rfl, by decide +kernel, by decide +kernel⟩
abbrev s_Cell_taken : Stmt := inClass (top 28) 5
abbrev N_Cell_taken : List Str := ["self", "bench"]
theorem sc_Cell_taken : FnScope N_Cell_taken ["self", "bench"] (defScope s_Cell_taken) := ⟨rfl, rfl, rfl, by decide +kernel, rfl, by decide +kernel, by decide +kernel⟩
abbrev s_Twou_initu : Stmt := inClass (top 29) 0
abbrev N_Twou_initu : List Str := ["self", "to", "op", "one", "other"]
theorem sc_Twou_initu : FnScope N_Twou_initu ["self", "to", "op", "one", "other"] (defScope s_Twou_initu) := ⟨rfl, rfl, rfl, by decide +kernel, rfl, by decide +kernel, by decide +kernel⟩
abbrev s_Two_told : Stmt := inClass (top 29) 1
abbrev N_Two_told : List Str := ["self"]
theorem sc_Two_told : FnScope N_Two_told ["self"] (defScope s_Two_told) := ⟨rfl, rfl, rfl, by decide +kernel, rfl, by decide +kernel, by decide +kernel⟩
abbrev s_Two_sources : Stmt := inClass (top 29) 2
abbrev N_Two_sources : List Str := ["self"]
theorem sc_Two_sources : FnScope N_Two_sources ["self"] (defScope s_Two_sources) := ⟨rfl, rfl, rfl, by decide +kernel, rfl, by decide +kernel, by decide +kernel⟩
abbrev s_Two_changed_places : Stmt := inClass (top 29) 3
abbrev N_Two_changed_places : List Str := ["self"]
theorem sc_Two_changed_places : FnScope N_Two_changed_places ["self"] (defScope s_Two_changed_places) := ⟨rfl, rfl, rfl, by decide +kernel, rfl, by decide +kernel, by decide +kernel⟩
abbrev s_Two_uses_way : Stmt := inClass (top 29) 4
abbrev N_Two_uses_way : List Str := ["self"]
theorem sc_Two_uses_way : FnScope N_Two_uses_way ["self"] (defScope s_Two_uses_way) := ⟨rfl, rfl, rfl, by decide +kernel, rfl, by decide +kernel, by decide +kernel⟩
abbrev s_Two_words : Stmt := inClass (top 29) 5
abbrev N_Two_words : List Str := ["self"]
theorem sc_Two_words : FnScope N_Two_words ["self"] (defScope s_Two_words) := ⟨rfl, rfl, rfl, by decide +kernel, rfl, by decide +kernel, by decide +kernel⟩
abbrev s_Two_taken : Stmt := inClass (top 29) 6
abbrev N_Two_taken : List Str := ["self", "bench"]
theorem sc_Two_taken : FnScope N_Two_taken ["self", "bench"] (defScope s_Two_taken) := ⟨rfl, rfl, rfl, by decide +kernel, rfl, by decide +kernel, by decide +kernel⟩
abbrev s_Putu_initu : Stmt := inClass (top 30) 0
abbrev N_Putu_initu : List Str := ["self", "sel", "source"]
theorem sc_Putu_initu : FnScope N_Putu_initu ["self", "sel", "source"] (defScope s_Putu_initu) := ⟨rfl, rfl, rfl, by decide +kernel, rfl, by decide +kernel, by decide +kernel⟩
abbrev s_Put_told : Stmt := inClass (top 30) 1
abbrev N_Put_told : List Str := ["self"]
theorem sc_Put_told : FnScope N_Put_told ["self"] (defScope s_Put_told) := ⟨rfl, rfl, rfl, by decide +kernel, rfl, by decide +kernel, by decide +kernel⟩
abbrev s_Put_sources : Stmt := inClass (top 30) 2
abbrev N_Put_sources : List Str := ["self"]
theorem sc_Put_sources : FnScope N_Put_sources ["self"] (defScope s_Put_sources) := ⟨rfl, rfl, rfl, by decide +kernel, rfl, by decide +kernel, by decide +kernel⟩
abbrev s_Put_words : Stmt := inClass (top 30) 3
abbrev N_Put_words : List Str := ["self"]
theorem sc_Put_words : FnScope N_Put_words ["self"] (defScope s_Put_words) := ⟨rfl, rfl, rfl, by decide +kernel, rfl, by decide +kernel, by decide +kernel⟩
abbrev s_Put_left : Stmt := inClass (top 30) 4
abbrev N_Put_left : List Str := ["self", "bench", "found"]
theorem sc_Put_left : FnScope N_Put_left ["self", "bench", "found"] (defScope s_Put_left) := ⟨rfl, rfl, rfl, by decide +kernel, rfl, by decide +kernel, by decide +kernel⟩
abbrev s_Tellu_initu : Stmt := inClass (top 31) 0
abbrev N_Tellu_initu : List Str := ["self", "sel", "source"]
theorem sc_Tellu_initu : FnScope N_Tellu_initu ["self", "sel", "source"] (defScope s_Tellu_initu) := ⟨rfl, rfl, rfl, by decide +kernel, rfl, by decide +kernel, by decide +kernel⟩
abbrev s_Tell_told : Stmt := inClass (top 31) 1
abbrev N_Tell_told : List Str := ["self"]
theorem sc_Tell_told : FnScope N_Tell_told ["self"] (defScope s_Tell_told) := ⟨rfl, rfl, rfl, by decide +kernel, rfl, by decide +kernel, by decide +kernel⟩
abbrev s_Tell_sources : Stmt := inClass (top 31) 2
abbrev N_Tell_sources : List Str := ["self"]
theorem sc_Tell_sources : FnScope N_Tell_sources ["self"] (defScope s_Tell_sources) := ⟨rfl, rfl, rfl, by decide +kernel, rfl, by decide +kernel, by decide +kernel⟩
abbrev s_Tell_words : Stmt := inClass (top 31) 3
abbrev N_Tell_words : List Str := ["self"]
theorem sc_Tell_words : FnScope N_Tell_words ["self"] (defScope s_Tell_words) := ⟨rfl, rfl, rfl, by decide +kernel, rfl, by decide +kernel, by decide +kernel⟩
abbrev s_Tell_left : Stmt := inClass (top 31) 4
abbrev N_Tell_left : List Str := ["self", "bench", "found"]
theorem sc_Tell_left : FnScope N_Tell_left ["self", "bench", "found"] (defScope s_Tell_left) := ⟨rfl, rfl, rfl, by decide +kernel, rfl, by decide +kernel, by decide +kernel⟩
abbrev s_Storeu_initu : Stmt := inClass (top 32) 0
abbrev N_Storeu_initu : List Str := ["self", "at", "source"]
theorem sc_Storeu_initu : FnScope N_Storeu_initu ["self", "at", "source"] (defScope s_Storeu_initu) := ⟨rfl, rfl, rfl, by decide +kernel, rfl, by decide +kernel, by decide +kernel⟩
abbrev s_Store_told : Stmt := inClass (top 32) 1
abbrev N_Store_told : List Str := ["self"]
theorem sc_Store_told : FnScope N_Store_told ["self"] (defScope s_Store_told) := ⟨rfl, rfl, rfl, by decide +kernel, rfl, by decide +kernel, by decide +kernel⟩
abbrev s_Store_sources : Stmt := inClass (top 32) 2
abbrev N_Store_sources : List Str := ["self"]
theorem sc_Store_sources : FnScope N_Store_sources ["self"] (defScope s_Store_sources) := ⟨rfl, rfl, rfl, by decide +kernel, rfl, by decide +kernel, by decide +kernel⟩
abbrev s_Store_words : Stmt := inClass (top 32) 3
abbrev N_Store_words : List Str := ["self"]
theorem sc_Store_words : FnScope N_Store_words ["self"] (defScope s_Store_words) := ⟨rfl, rfl, rfl, by decide +kernel, rfl, by decide +kernel, by decide +kernel⟩
abbrev s_Store_taken : Stmt := inClass (top 32) 4
abbrev N_Store_taken : List Str := ["self", "bench"]
theorem sc_Store_taken : FnScope N_Store_taken ["self", "bench"] (defScope s_Store_taken) := ⟨rfl, rfl, rfl, by decide +kernel, rfl, by decide +kernel, by decide +kernel⟩
abbrev s_Store_left : Stmt := inClass (top 32) 5
abbrev N_Store_left : List Str := ["self", "bench", "found"]
theorem sc_Store_left : FnScope N_Store_left ["self", "bench", "found"] (defScope s_Store_left) := ⟨rfl, rfl, rfl, by decide +kernel, rfl, by decide +kernel, by decide +kernel⟩
abbrev s_is_pair : Stmt := top 33
abbrev N_is_pair : List Str := ["thing", "words", "mosts"]
theorem sc_is_pair : FnScope N_is_pair ["thing", "words", "mosts"] (defScope s_is_pair) := ⟨rfl, rfl, rfl, by decide +kernel, rfl, by decide +kernel, by decide +kernel⟩
abbrev s_is_part : Stmt := top 34
abbrev N_is_part : List Str := ["sort", "thing"]
theorem sc_is_part : FnScope N_is_part ["sort", "thing"] (defScope s_is_part) := ⟨rfl, rfl, rfl, by decide +kernel, rfl, by decide +kernel, by decide +kernel⟩
abbrev s_is_step : Stmt := top 35
abbrev N_is_step : List Str := ["thing", "sorts", "part", "sort"]
theorem sc_is_step : FnScope N_is_step ["thing"] (defScope s_is_step) := ⟨rfl, rfl, rfl, by decide +kernel, rfl, by decide +kernel, by decide +kernel⟩
abbrev s_step_of : Stmt := top 36
abbrev N_step_of : List Str := ["told"]
theorem sc_step_of : FnScope N_step_of ["told"] (defScope s_step_of) := ⟨rfl, rfl, rfl, by decide +kernel, rfl, by decide +kernel, by decide +kernel⟩
abbrev s_law_cell : Stmt := top 38
abbrev N_law_cell : List Str := ["script", "k"]
theorem sc_law_cell : FnScope N_law_cell ["script", "k"] (defScope s_law_cell) := ⟨rfl, rfl, rfl, by decide +kernel, rfl, by decide +kernel, by decide +kernel⟩
abbrev s_law_stream : Stmt := top 39
abbrev N_law_stream : List Str := ["cell"]
theorem sc_law_stream : FnScope N_law_stream ["cell"] (defScope s_law_stream) := ⟨rfl, rfl, rfl, by decide +kernel, rfl, by decide +kernel, by decide +kernel⟩
abbrev s_law_take : Stmt := top 40
abbrev N_law_take : List Str := ["stream", "many", "digit", "number"]
theorem sc_law_take : FnScope N_law_take ["stream", "many"] (defScope s_law_take) := ⟨rfl, rfl, rfl, by decide +kernel, rfl, by decide +kernel, by decide +kernel⟩
abbrev s_law_source : Stmt := top 41
abbrev N_law_source : List Str := ["stream", "many", "way"]
theorem sc_law_source : FnScope N_law_source ["stream", "many"] (defScope s_law_source) := ⟨rfl, rfl, rfl, by decide +kernel, rfl, by decide +kernel, by decide +kernel⟩
abbrev s_law_sel : Stmt := top 42
abbrev N_law_sel : List Str := ["stream"]
theorem sc_law_sel : FnScope N_law_sel ["stream"] (defScope s_law_sel) := ⟨rfl, rfl, rfl, by decide +kernel, rfl, by decide +kernel, by decide +kernel⟩
abbrev s_law_step : Stmt := top 43
abbrev N_law_step : List Str := ["stream", "many", "ways", "way", "to", "op"]
theorem sc_law_step : FnScope N_law_step ["stream", "many", "ways"] (defScope s_law_step) := ⟨rfl, rfl, rfl, by decide +kernel, rfl, by decide +kernel, by decide +kernel⟩
abbrev s_law_steps : Stmt := top 44
abbrev N_law_steps : List Str := ["stream", "most", "many", "ways", "found", "k"]
theorem sc_law_steps : FnScope N_law_steps ["stream", "most"] (defScope s_law_steps) := ⟨rfl, rfl, rfl, by decide +kernel, rfl, by decide +kernel, by decide +kernel⟩
abbrev s_law_objects : Stmt := top 45
abbrev N_law_objects : List Str := ["stream", "told", "made", "one"]
theorem sc_law_objects : FnScope N_law_objects ["stream", "told"] (defScope s_law_objects) := ⟨rfl, rfl, rfl, by decide +kernel, rfl, by decide +kernel, by decide +kernel⟩
abbrev s_law_touched : Stmt := top 46
abbrev N_law_touched : List Str := ["told", "reads", "writes", "part"]
theorem sc_law_touched : FnScope N_law_touched ["told"] (defScope s_law_touched) := ⟨rfl, rfl, rfl, by decide +kernel, rfl, by decide +kernel, by decide +kernel⟩
abbrev s_law_meet : Stmt := top 47
abbrev N_law_meet : List Str := ["one", "other", "mine", "others", "place"]
theorem sc_law_meet : FnScope N_law_meet ["one", "other"] (defScope s_law_meet) := ⟨rfl, rfl, rfl, by decide +kernel, rfl, by decide +kernel, by decide +kernel⟩
abbrev s_law_beats : Stmt := top 48
abbrev N_law_beats : List Str := ["told", "places", "at", "beats", "place", "k"]
theorem sc_law_beats : FnScope N_law_beats ["told"] (defScope s_law_beats) := ⟨rfl, rfl, rfl, by decide +kernel, rfl, by decide +kernel, by decide +kernel⟩
abbrev s_law_least : Stmt := top 49
abbrev N_law_least : List Str := ["told", "beats", "found", "beat", "able", "at"]
theorem sc_law_least : FnScope N_law_least ["told", "beats"] (defScope s_law_least) := ⟨rfl, rfl, rfl, by decide +kernel, rfl, by decide +kernel, by decide +kernel⟩
abbrev s_law : Stmt := top 50
abbrev N_law : List Str := ["script", "k", "stream", "told", "steps", "beats", "due", "found", "one", "other", "two", "at"]
theorem sc_law : FnScope N_law ["script"] (defScope s_law) := ⟨rfl, rfl, rfl, by decide +kernel, rfl, by decide +kernel, by decide +kernel⟩
def fn : List He.DefD := [⟨("_wall", none), "_wall", "_wall", defArgs s_wall, defBody s_wall, defScope s_wall, [], []⟩,
  ⟨("is_whole", none), "is_whole", "is_whole", defArgs s_is_whole, defBody s_is_whole, defScope s_is_whole, [], []⟩,
  ⟨("is_within", none), "is_within", "is_within", defArgs s_is_within, defBody s_is_within, defScope s_is_within, [], []⟩,
  ⟨("ops_told", none), "ops_told", "ops_told", defArgs s_ops_told, defBody s_ops_told, defScope s_ops_told, [], []⟩,
  ⟨("bits_of", none), "bits_of", "bits_of", defArgs s_bits_of, defBody s_bits_of, defScope s_bits_of, [], []⟩,
  ⟨("touched", none), "touched", "touched", defArgs s_touched, defBody s_touched, defScope s_touched, [], []⟩,
  ⟨("met", none), "met", "met", defArgs s_met, defBody s_met, defScope s_met, [], []⟩,
  ⟨("beat_of", none), "beat_of", "beat_of", defArgs s_beat_of, defBody s_beat_of, defScope s_beat_of, [], []⟩,
  ⟨("packed", none), "packed", "packed", defArgs s_packed, defBody s_packed, defScope s_packed, [], []⟩,
  ⟨("chain_of", none), "chain_of", "chain_of", defArgs s_chain_of, defBody s_chain_of, defScope s_chain_of, [], []⟩,
  ⟨("sel_words", none), "sel_words", "sel_words", defArgs s_sel_words, defBody s_sel_words, defScope s_sel_words, [], []⟩,
  ⟨("source_words", none), "source_words", "source_words", defArgs s_source_words, defBody s_source_words, defScope s_source_words, [], []⟩,
  ⟨("is_pair", none), "is_pair", "is_pair", defArgs s_is_pair, defBody s_is_pair, defScope s_is_pair, [], []⟩,
  ⟨("is_part", none), "is_part", "is_part", defArgs s_is_part, defBody s_is_part, defScope s_is_part, [], []⟩,
  ⟨("is_step", none), "is_step", "is_step", defArgs s_is_step, defBody s_is_step, defScope s_is_step, [], []⟩,
  ⟨("step_of", none), "step_of", "step_of", defArgs s_step_of, defBody s_step_of, defScope s_step_of, [], []⟩,
  ⟨("_law_cell", none), "_law_cell", "_law_cell", defArgs s_law_cell, defBody s_law_cell, defScope s_law_cell, [], []⟩,
  ⟨("_law_stream", none), "_law_stream", "_law_stream", defArgs s_law_stream, defBody s_law_stream, defScope s_law_stream, [], []⟩,
  ⟨("_law_take", none), "_law_take", "_law_take", defArgs s_law_take, defBody s_law_take, defScope s_law_take, [], []⟩,
  ⟨("_law_source", none), "_law_source", "_law_source", defArgs s_law_source, defBody s_law_source, defScope s_law_source, [], []⟩,
  ⟨("_law_sel", none), "_law_sel", "_law_sel", defArgs s_law_sel, defBody s_law_sel, defScope s_law_sel, [], []⟩,
  ⟨("_law_step", none), "_law_step", "_law_step", defArgs s_law_step, defBody s_law_step, defScope s_law_step, [], []⟩,
  ⟨("_law_steps", none), "_law_steps", "_law_steps", defArgs s_law_steps, defBody s_law_steps, defScope s_law_steps, [], []⟩,
  ⟨("_law_objects", none), "_law_objects", "_law_objects", defArgs s_law_objects, defBody s_law_objects, defScope s_law_objects, [], []⟩,
  ⟨("_law_touched", none), "_law_touched", "_law_touched", defArgs s_law_touched, defBody s_law_touched, defScope s_law_touched, [], []⟩,
  ⟨("_law_meet", none), "_law_meet", "_law_meet", defArgs s_law_meet, defBody s_law_meet, defScope s_law_meet, [], []⟩,
  ⟨("_law_beats", none), "_law_beats", "_law_beats", defArgs s_law_beats, defBody s_law_beats, defScope s_law_beats, [], []⟩,
  ⟨("_law_least", none), "_law_least", "_law_least", defArgs s_law_least, defBody s_law_least, defScope s_law_least, [], []⟩,
  ⟨("law", none), "law", "law", defArgs s_law, defBody s_law, defScope s_law, [], []⟩,
  ⟨("Step", some "told"), "told", "Step.told", defArgs s_Step_told, defBody s_Step_told, defScope s_Step_told, [], []⟩,
  ⟨("Step", some "sources"), "sources", "Step.sources", defArgs s_Step_sources, defBody s_Step_sources, defScope s_Step_sources, [], []⟩,
  ⟨("Step", some "changed_places"), "changed_places", "Step.changed_places", defArgs s_Step_changed_places, defBody s_Step_changed_places, defScope s_Step_changed_places, [], []⟩,
  ⟨("Step", some "uses_way"), "uses_way", "Step.uses_way", defArgs s_Step_uses_way, defBody s_Step_uses_way, defScope s_Step_uses_way, [], []⟩,
  ⟨("Step", some "reads"), "reads", "Step.reads", defArgs s_Step_reads, defBody s_Step_reads, defScope s_Step_reads, [], []⟩,
  ⟨("Step", some "writes"), "writes", "Step.writes", defArgs s_Step_writes, defBody s_Step_writes, defScope s_Step_writes, [], []⟩,
  ⟨("Step", some "words"), "words", "Step.words", defArgs s_Step_words, defBody s_Step_words, defScope s_Step_words, [], []⟩,
  ⟨("Step", some "taken"), "taken", "Step.taken", defArgs s_Step_taken, defBody s_Step_taken, defScope s_Step_taken, [], []⟩,
  ⟨("Step", some "left"), "left", "Step.left", defArgs s_Step_left, defBody s_Step_left, defScope s_Step_left, [], []⟩,
  ⟨("Get", some "__init__"), "__init__", "Get.__init__", defArgs s_Getu_initu, defBody s_Getu_initu, defScope s_Getu_initu, [], []⟩,
  ⟨("Get", some "told"), "told", "Get.told", defArgs s_Get_told, defBody s_Get_told, defScope s_Get_told, [], []⟩,
  ⟨("Get", some "changed_places"), "changed_places", "Get.changed_places", defArgs s_Get_changed_places, defBody s_Get_changed_places, defScope s_Get_changed_places, [], []⟩,
  ⟨("Get", some "words"), "words", "Get.words", defArgs s_Get_words, defBody s_Get_words, defScope s_Get_words, [], []⟩,
  ⟨("Get", some "taken"), "taken", "Get.taken", defArgs s_Get_taken, defBody s_Get_taken, defScope s_Get_taken, [], []⟩,
  ⟨("Get", some "sources"), "sources", "Step.sources", defArgs s_Step_sources, defBody s_Step_sources, defScope s_Step_sources, [], []⟩,
  ⟨("Get", some "uses_way"), "uses_way", "Step.uses_way", defArgs s_Step_uses_way, defBody s_Step_uses_way, defScope s_Step_uses_way, [], []⟩,
  ⟨("Get", some "reads"), "reads", "Step.reads", defArgs s_Step_reads, defBody s_Step_reads, defScope s_Step_reads, [], []⟩,
  ⟨("Get", some "writes"), "writes", "Step.writes", defArgs s_Step_writes, defBody s_Step_writes, defScope s_Step_writes, [], []⟩,
  ⟨("Get", some "left"), "left", "Step.left", defArgs s_Step_left, defBody s_Step_left, defScope s_Step_left, [], []⟩,
  ⟨("Ask", some "__init__"), "__init__", "Ask.__init__", defArgs s_Asku_initu, defBody s_Asku_initu, defScope s_Asku_initu, [], []⟩,
  ⟨("Ask", some "told"), "told", "Ask.told", defArgs s_Ask_told, defBody s_Ask_told, defScope s_Ask_told, [], []⟩,
  ⟨("Ask", some "changed_places"), "changed_places", "Ask.changed_places", defArgs s_Ask_changed_places, defBody s_Ask_changed_places, defScope s_Ask_changed_places, [], []⟩,
  ⟨("Ask", some "words"), "words", "Ask.words", defArgs s_Ask_words, defBody s_Ask_words, defScope s_Ask_words, [], []⟩,
  ⟨("Ask", some "taken"), "taken", "Ask.taken", defArgs s_Ask_taken, defBody s_Ask_taken, defScope s_Ask_taken, [], []⟩,
  ⟨("Ask", some "sources"), "sources", "Step.sources", defArgs s_Step_sources, defBody s_Step_sources, defScope s_Step_sources, [], []⟩,
  ⟨("Ask", some "uses_way"), "uses_way", "Step.uses_way", defArgs s_Step_uses_way, defBody s_Step_uses_way, defScope s_Step_uses_way, [], []⟩,
  ⟨("Ask", some "reads"), "reads", "Step.reads", defArgs s_Step_reads, defBody s_Step_reads, defScope s_Step_reads, [], []⟩,
  ⟨("Ask", some "writes"), "writes", "Step.writes", defArgs s_Step_writes, defBody s_Step_writes, defScope s_Step_writes, [], []⟩,
  ⟨("Ask", some "left"), "left", "Step.left", defArgs s_Step_left, defBody s_Step_left, defScope s_Step_left, [], []⟩,
  ⟨("Cell", some "__init__"), "__init__", "Cell.__init__", defArgs s_Cellu_initu, defBody s_Cellu_initu, defScope s_Cellu_initu, [], []⟩,
  ⟨("Cell", some "told"), "told", "Cell.told", defArgs s_Cell_told, defBody s_Cell_told, defScope s_Cell_told, [], []⟩,
  ⟨("Cell", some "sources"), "sources", "Cell.sources", defArgs s_Cell_sources, defBody s_Cell_sources, defScope s_Cell_sources, [], []⟩,
  ⟨("Cell", some "changed_places"), "changed_places", "Cell.changed_places", defArgs s_Cell_changed_places, defBody s_Cell_changed_places, defScope s_Cell_changed_places, [], []⟩,
  ⟨("Cell", some "words"), "words", "Cell.words", defArgs s_Cell_words, defBody s_Cell_words, defScope s_Cell_words, [], []⟩,
  ⟨("Cell", some "taken"), "taken", "Cell.taken", defArgs s_Cell_taken, defBody s_Cell_taken, defScope s_Cell_taken, [], []⟩,
  ⟨("Cell", some "uses_way"), "uses_way", "Step.uses_way", defArgs s_Step_uses_way, defBody s_Step_uses_way, defScope s_Step_uses_way, [], []⟩,
  ⟨("Cell", some "reads"), "reads", "Step.reads", defArgs s_Step_reads, defBody s_Step_reads, defScope s_Step_reads, [], []⟩,
  ⟨("Cell", some "writes"), "writes", "Step.writes", defArgs s_Step_writes, defBody s_Step_writes, defScope s_Step_writes, [], []⟩,
  ⟨("Cell", some "left"), "left", "Step.left", defArgs s_Step_left, defBody s_Step_left, defScope s_Step_left, [], []⟩,
  ⟨("Two", some "__init__"), "__init__", "Two.__init__", defArgs s_Twou_initu, defBody s_Twou_initu, defScope s_Twou_initu, [], []⟩,
  ⟨("Two", some "told"), "told", "Two.told", defArgs s_Two_told, defBody s_Two_told, defScope s_Two_told, [], []⟩,
  ⟨("Two", some "sources"), "sources", "Two.sources", defArgs s_Two_sources, defBody s_Two_sources, defScope s_Two_sources, [], []⟩,
  ⟨("Two", some "changed_places"), "changed_places", "Two.changed_places", defArgs s_Two_changed_places, defBody s_Two_changed_places, defScope s_Two_changed_places, [], []⟩,
  ⟨("Two", some "uses_way"), "uses_way", "Two.uses_way", defArgs s_Two_uses_way, defBody s_Two_uses_way, defScope s_Two_uses_way, [], []⟩,
  ⟨("Two", some "words"), "words", "Two.words", defArgs s_Two_words, defBody s_Two_words, defScope s_Two_words, [], []⟩,
  ⟨("Two", some "taken"), "taken", "Two.taken", defArgs s_Two_taken, defBody s_Two_taken, defScope s_Two_taken, [], []⟩,
  ⟨("Two", some "reads"), "reads", "Step.reads", defArgs s_Step_reads, defBody s_Step_reads, defScope s_Step_reads, [], []⟩,
  ⟨("Two", some "writes"), "writes", "Step.writes", defArgs s_Step_writes, defBody s_Step_writes, defScope s_Step_writes, [], []⟩,
  ⟨("Two", some "left"), "left", "Step.left", defArgs s_Step_left, defBody s_Step_left, defScope s_Step_left, [], []⟩,
  ⟨("Put", some "__init__"), "__init__", "Put.__init__", defArgs s_Putu_initu, defBody s_Putu_initu, defScope s_Putu_initu, [], []⟩,
  ⟨("Put", some "told"), "told", "Put.told", defArgs s_Put_told, defBody s_Put_told, defScope s_Put_told, [], []⟩,
  ⟨("Put", some "sources"), "sources", "Put.sources", defArgs s_Put_sources, defBody s_Put_sources, defScope s_Put_sources, [], []⟩,
  ⟨("Put", some "words"), "words", "Put.words", defArgs s_Put_words, defBody s_Put_words, defScope s_Put_words, [], []⟩,
  ⟨("Put", some "left"), "left", "Put.left", defArgs s_Put_left, defBody s_Put_left, defScope s_Put_left, [], []⟩,
  ⟨("Put", some "changed_places"), "changed_places", "Step.changed_places", defArgs s_Step_changed_places, defBody s_Step_changed_places, defScope s_Step_changed_places, [], []⟩,
  ⟨("Put", some "uses_way"), "uses_way", "Step.uses_way", defArgs s_Step_uses_way, defBody s_Step_uses_way, defScope s_Step_uses_way, [], []⟩,
  ⟨("Put", some "reads"), "reads", "Step.reads", defArgs s_Step_reads, defBody s_Step_reads, defScope s_Step_reads, [], []⟩,
  ⟨("Put", some "writes"), "writes", "Step.writes", defArgs s_Step_writes, defBody s_Step_writes, defScope s_Step_writes, [], []⟩,
  ⟨("Put", some "taken"), "taken", "Step.taken", defArgs s_Step_taken, defBody s_Step_taken, defScope s_Step_taken, [], []⟩,
  ⟨("Tell", some "__init__"), "__init__", "Tell.__init__", defArgs s_Tellu_initu, defBody s_Tellu_initu, defScope s_Tellu_initu, [], []⟩,
  ⟨("Tell", some "told"), "told", "Tell.told", defArgs s_Tell_told, defBody s_Tell_told, defScope s_Tell_told, [], []⟩,
  ⟨("Tell", some "sources"), "sources", "Tell.sources", defArgs s_Tell_sources, defBody s_Tell_sources, defScope s_Tell_sources, [], []⟩,
  ⟨("Tell", some "words"), "words", "Tell.words", defArgs s_Tell_words, defBody s_Tell_words, defScope s_Tell_words, [], []⟩,
  ⟨("Tell", some "left"), "left", "Tell.left", defArgs s_Tell_left, defBody s_Tell_left, defScope s_Tell_left, [], []⟩,
  ⟨("Tell", some "changed_places"), "changed_places", "Step.changed_places", defArgs s_Step_changed_places, defBody s_Step_changed_places, defScope s_Step_changed_places, [], []⟩,
  ⟨("Tell", some "uses_way"), "uses_way", "Step.uses_way", defArgs s_Step_uses_way, defBody s_Step_uses_way, defScope s_Step_uses_way, [], []⟩,
  ⟨("Tell", some "reads"), "reads", "Step.reads", defArgs s_Step_reads, defBody s_Step_reads, defScope s_Step_reads, [], []⟩,
  ⟨("Tell", some "writes"), "writes", "Step.writes", defArgs s_Step_writes, defBody s_Step_writes, defScope s_Step_writes, [], []⟩,
  ⟨("Tell", some "taken"), "taken", "Step.taken", defArgs s_Step_taken, defBody s_Step_taken, defScope s_Step_taken, [], []⟩,
  ⟨("Store", some "__init__"), "__init__", "Store.__init__", defArgs s_Storeu_initu, defBody s_Storeu_initu, defScope s_Storeu_initu, [], []⟩,
  ⟨("Store", some "told"), "told", "Store.told", defArgs s_Store_told, defBody s_Store_told, defScope s_Store_told, [], []⟩,
  ⟨("Store", some "sources"), "sources", "Store.sources", defArgs s_Store_sources, defBody s_Store_sources, defScope s_Store_sources, [], []⟩,
  ⟨("Store", some "words"), "words", "Store.words", defArgs s_Store_words, defBody s_Store_words, defScope s_Store_words, [], []⟩,
  ⟨("Store", some "taken"), "taken", "Store.taken", defArgs s_Store_taken, defBody s_Store_taken, defScope s_Store_taken, [], []⟩,
  ⟨("Store", some "left"), "left", "Store.left", defArgs s_Store_left, defBody s_Store_left, defScope s_Store_left, [], []⟩,
  ⟨("Store", some "changed_places"), "changed_places", "Step.changed_places", defArgs s_Step_changed_places, defBody s_Step_changed_places, defScope s_Step_changed_places, [], []⟩,
  ⟨("Store", some "uses_way"), "uses_way", "Step.uses_way", defArgs s_Step_uses_way, defBody s_Step_uses_way, defScope s_Step_uses_way, [], []⟩,
  ⟨("Store", some "reads"), "reads", "Step.reads", defArgs s_Step_reads, defBody s_Step_reads, defScope s_Step_reads, [], []⟩,
  ⟨("Store", some "writes"), "writes", "Step.writes", defArgs s_Step_writes, defBody s_Step_writes, defScope s_Step_writes, [], []⟩]
def fa : List He.Fa := [.glo "_wall", .glo "is_whole", .glo "is_within", .glo "ops_told", .glo "bits_of", .glo "touched", .glo "met", .glo "beat_of", .glo "packed", .glo "chain_of", .glo "sel_words", .glo "source_words", .glo "is_pair", .glo "is_part", .glo "is_step", .glo "step_of", .glo "_law_cell", .glo "_law_stream", .glo "_law_take", .glo "_law_source", .glo "_law_sel", .glo "_law_step", .glo "_law_steps", .glo "_law_objects", .glo "_law_touched", .glo "_law_meet", .glo "_law_beats", .glo "_law_least", .glo "law", .free "all", .free "bool", .free "enumerate", .free "int", .free "isinstance", .free "len", .free "list", .free "max", .free "min", .free "range", .free "repr", .free "reversed", .free "set", .free "sorted", .free "str", .free "tuple", .free "zip", .str "OPS" "+ - & | ^ << >> < =", .int "WAY" 256, .int "INNER_MOST" 7, .int "FIELD_MOST" 2, .int "SEL_MOST" 3, .int "WORD_MOST" 16777215, .glo "Step", .cls "Step", .meth "Step" "told", .meth "Step" "sources", .meth "Step" "changed_places", .meth "Step" "uses_way", .meth "Step" "reads", .meth "Step" "writes", .meth "Step" "words", .meth "Step" "taken", .meth "Step" "left", .glo "Get", .cls "Get", .mkr "Get", .noat "Get" "to", .noat "Get" "sel", .meth "Get" "told", .meth "Get" "changed_places", .meth "Get" "words", .meth "Get" "taken", .meth "Get" "sources", .meth "Get" "uses_way", .meth "Get" "reads", .meth "Get" "writes", .meth "Get" "left", .glo "Ask", .cls "Ask", .mkr "Ask", .noat "Ask" "to", .noat "Ask" "sel", .meth "Ask" "told", .meth "Ask" "changed_places", .meth "Ask" "words", .meth "Ask" "taken", .meth "Ask" "sources", .meth "Ask" "uses_way", .meth "Ask" "reads", .meth "Ask" "writes", .meth "Ask" "left", .glo "Cell", .cls "Cell", .mkr "Cell", .noat "Cell" "to", .noat "Cell" "source", .meth "Cell" "told", .meth "Cell" "sources", .meth "Cell" "changed_places", .meth "Cell" "words", .meth "Cell" "taken", .meth "Cell" "uses_way", .meth "Cell" "reads", .meth "Cell" "writes", .meth "Cell" "left", .glo "Two", .cls "Two", .mkr "Two", .noat "Two" "to", .noat "Two" "op", .noat "Two" "one", .noat "Two" "other", .meth "Two" "told", .meth "Two" "sources", .meth "Two" "changed_places", .meth "Two" "uses_way", .meth "Two" "words", .meth "Two" "taken", .meth "Two" "reads", .meth "Two" "writes", .meth "Two" "left", .glo "Put", .cls "Put", .mkr "Put", .noat "Put" "sel", .noat "Put" "source", .meth "Put" "told", .meth "Put" "sources", .meth "Put" "words", .meth "Put" "left", .meth "Put" "changed_places", .meth "Put" "uses_way", .meth "Put" "reads", .meth "Put" "writes", .meth "Put" "taken", .glo "Tell", .cls "Tell", .mkr "Tell", .noat "Tell" "sel", .noat "Tell" "source", .meth "Tell" "told", .meth "Tell" "sources", .meth "Tell" "words", .meth "Tell" "left", .meth "Tell" "changed_places", .meth "Tell" "uses_way", .meth "Tell" "reads", .meth "Tell" "writes", .meth "Tell" "taken", .glo "Store", .cls "Store", .mkr "Store", .noat "Store" "at", .noat "Store" "source", .meth "Store" "told", .meth "Store" "sources", .meth "Store" "words", .meth "Store" "taken", .meth "Store" "left", .meth "Store" "changed_places", .meth "Store" "uses_way", .meth "Store" "reads", .meth "Store" "writes", .glo "PARTS"]
/-- a written tuple of flat things -/
def relsB : List V → List Value → Bool
  | [], [] => true
  | v :: vs, u :: us => He.relB v u && relsB vs us
  | _, _ => false
theorem relsB_ok : ∀ {vs : List V} {us : List Value}, relsB vs us = true → Vals vs us
  | [], [], _ => .nil
  | v :: vs, u :: us, h => by
    obtain ⟨h1, h2⟩ := He.ba (show (He.relB v u && relsB vs us) = true from h)
    exact .cons (He.relB_ok h1) (relsB_ok h2)
  | [], _ :: _, h => by cases h
  | _ :: _, [], h => by cases h
def tupB (K : PySem.W.Frag) (a : Addr) (xs : List V) : Bool := match K.lookup a with
  | some ⟨.type c, _, .seq its _, _⟩ => decide (c = "tuple") && (decide (its.size ≤ 1000) && relsB xs its.toList)
  | _ => false
theorem tupB_ok {K : PySem.W.Frag} {a : Addr} {xs : List V} (h : tupB K a xs = true) : ∀ H, SqT K H a xs := fun H => by
  unfold tupB at h
  split at h
  · rename_i c od its n sl q
    obtain ⟨h1, h2⟩ := He.ba h
    obtain ⟨h3, h4⟩ := He.ba h2
    have h1 := of_decide_eq_true h1
    have h3 := of_decide_eq_true h3
    exact .inr ⟨_, its, n, q, congrArg Value.type h1, rfl, by rw [sizeLine_eq]; omega, relsB_ok h4⟩
  · cases h
def kvB (K : PySem.W.Frag) (d : Addr) (k : Str) (xs : List V) : Bool := match PySem.W.nsIn K d k with
  | some (some (.ref a)) => tupB K a xs
  | _ => false
theorem kvB_ok {K : PySem.W.Frag} {d : Addr} {k : Str} {xs : List V} (h : kvB K d k xs = true) : ∃ a, PySem.W.nsIn K d k = some (some (.ref a)) ∧ ∀ H, SqT K H a xs := by
  unfold kvB at h
  split at h
  · rename_i a q
    exact ⟨a, q, tupB_ok h⟩
  · cases h
def kfB (K : PySem.W.Frag) (d : Addr) (k : Str) (v : V) : Bool := match PySem.W.nsIn K d k with
  | some (some u) => He.relB v u
  | _ => false
theorem kfB_ok {K : PySem.W.Frag} {d : Addr} {k : Str} {v : V} (h : kfB K d k v = true) : ∃ u, PySem.W.nsIn K d k = some (some u) ∧ RelV v u := by
  unfold kfB at h
  split at h
  · rename_i u q
    exact ⟨u, q, He.relB_ok h⟩
  · cases h
def exL (K : PySem.W.Frag) : List Bool := [kvB K (He.ga K "PARTS") "get" [.str "inner", .str "sel"],
  kvB K (He.ga K "PARTS") "ask" [.str "inner", .str "sel"],
  kvB K (He.ga K "PARTS") "cell" [.str "inner", .str "source"],
  kvB K (He.ga K "PARTS") "two" [.str "inner", .str "op", .str "source", .str "source"],
  kvB K (He.ga K "PARTS") "put" [.str "sel", .str "source"],
  kvB K (He.ga K "PARTS") "tell" [.str "sel", .str "source"],
  kvB K (He.ga K "PARTS") "store" [.str "source", .str "source"]]
def exB (K : PySem.W.Frag) : Bool := (exL K).all id
theorem exB_at {K : PySem.W.Frag} (h : exB K = true) (i : Nat) {b : Bool} (e : (exL K)[i]? = some b) : b = true := List.all_eq_true.mp h b (List.mem_of_getElem? e)
/-- what the head tells of the text -/
class Facts (K : PySem.W.Frag) (mg : outParam (Str → Option Value)) : Prop where
  d_wall : ∃ fd, FunD K "_wall" "_wall" (defArgs s_wall) (defBody s_wall) (defScope s_wall) [] [] (He.ga K "_wall") fd
  g_wall : mg "_wall" = some (.ref (He.ga K "_wall"))
  d_is_whole : ∃ fd, FunD K "is_whole" "is_whole" (defArgs s_is_whole) (defBody s_is_whole) (defScope s_is_whole) [] [] (He.ga K "is_whole") fd
  g_is_whole : mg "is_whole" = some (.ref (He.ga K "is_whole"))
  d_is_within : ∃ fd, FunD K "is_within" "is_within" (defArgs s_is_within) (defBody s_is_within) (defScope s_is_within) [] [] (He.ga K "is_within") fd
  g_is_within : mg "is_within" = some (.ref (He.ga K "is_within"))
  d_ops_told : ∃ fd, FunD K "ops_told" "ops_told" (defArgs s_ops_told) (defBody s_ops_told) (defScope s_ops_told) [] [] (He.ga K "ops_told") fd
  g_ops_told : mg "ops_told" = some (.ref (He.ga K "ops_told"))
  d_bits_of : ∃ fd, FunD K "bits_of" "bits_of" (defArgs s_bits_of) (defBody s_bits_of) (defScope s_bits_of) [] [] (He.ga K "bits_of") fd
  g_bits_of : mg "bits_of" = some (.ref (He.ga K "bits_of"))
  d_touched : ∃ fd, FunD K "touched" "touched" (defArgs s_touched) (defBody s_touched) (defScope s_touched) [] [] (He.ga K "touched") fd
  g_touched : mg "touched" = some (.ref (He.ga K "touched"))
  d_met : ∃ fd, FunD K "met" "met" (defArgs s_met) (defBody s_met) (defScope s_met) [] [] (He.ga K "met") fd
  g_met : mg "met" = some (.ref (He.ga K "met"))
  d_beat_of : ∃ fd, FunD K "beat_of" "beat_of" (defArgs s_beat_of) (defBody s_beat_of) (defScope s_beat_of) [] [] (He.ga K "beat_of") fd
  g_beat_of : mg "beat_of" = some (.ref (He.ga K "beat_of"))
  d_packed : ∃ fd, FunD K "packed" "packed" (defArgs s_packed) (defBody s_packed) (defScope s_packed) [] [] (He.ga K "packed") fd
  g_packed : mg "packed" = some (.ref (He.ga K "packed"))
  d_chain_of : ∃ fd, FunD K "chain_of" "chain_of" (defArgs s_chain_of) (defBody s_chain_of) (defScope s_chain_of) [] [] (He.ga K "chain_of") fd
  g_chain_of : mg "chain_of" = some (.ref (He.ga K "chain_of"))
  d_sel_words : ∃ fd, FunD K "sel_words" "sel_words" (defArgs s_sel_words) (defBody s_sel_words) (defScope s_sel_words) [] [] (He.ga K "sel_words") fd
  g_sel_words : mg "sel_words" = some (.ref (He.ga K "sel_words"))
  d_source_words : ∃ fd, FunD K "source_words" "source_words" (defArgs s_source_words) (defBody s_source_words) (defScope s_source_words) [] [] (He.ga K "source_words") fd
  g_source_words : mg "source_words" = some (.ref (He.ga K "source_words"))
  d_is_pair : ∃ fd, FunD K "is_pair" "is_pair" (defArgs s_is_pair) (defBody s_is_pair) (defScope s_is_pair) [] [] (He.ga K "is_pair") fd
  g_is_pair : mg "is_pair" = some (.ref (He.ga K "is_pair"))
  d_is_part : ∃ fd, FunD K "is_part" "is_part" (defArgs s_is_part) (defBody s_is_part) (defScope s_is_part) [] [] (He.ga K "is_part") fd
  g_is_part : mg "is_part" = some (.ref (He.ga K "is_part"))
  d_is_step : ∃ fd, FunD K "is_step" "is_step" (defArgs s_is_step) (defBody s_is_step) (defScope s_is_step) [] [] (He.ga K "is_step") fd
  g_is_step : mg "is_step" = some (.ref (He.ga K "is_step"))
  d_step_of : ∃ fd, FunD K "step_of" "step_of" (defArgs s_step_of) (defBody s_step_of) (defScope s_step_of) [] [] (He.ga K "step_of") fd
  g_step_of : mg "step_of" = some (.ref (He.ga K "step_of"))
  d_law_cell : ∃ fd, FunD K "_law_cell" "_law_cell" (defArgs s_law_cell) (defBody s_law_cell) (defScope s_law_cell) [] [] (He.ga K "_law_cell") fd
  g_law_cell : mg "_law_cell" = some (.ref (He.ga K "_law_cell"))
  d_law_stream : ∃ fd, FunD K "_law_stream" "_law_stream" (defArgs s_law_stream) (defBody s_law_stream) (defScope s_law_stream) [] [] (He.ga K "_law_stream") fd
  g_law_stream : mg "_law_stream" = some (.ref (He.ga K "_law_stream"))
  d_law_take : ∃ fd, FunD K "_law_take" "_law_take" (defArgs s_law_take) (defBody s_law_take) (defScope s_law_take) [] [] (He.ga K "_law_take") fd
  g_law_take : mg "_law_take" = some (.ref (He.ga K "_law_take"))
  d_law_source : ∃ fd, FunD K "_law_source" "_law_source" (defArgs s_law_source) (defBody s_law_source) (defScope s_law_source) [] [] (He.ga K "_law_source") fd
  g_law_source : mg "_law_source" = some (.ref (He.ga K "_law_source"))
  d_law_sel : ∃ fd, FunD K "_law_sel" "_law_sel" (defArgs s_law_sel) (defBody s_law_sel) (defScope s_law_sel) [] [] (He.ga K "_law_sel") fd
  g_law_sel : mg "_law_sel" = some (.ref (He.ga K "_law_sel"))
  d_law_step : ∃ fd, FunD K "_law_step" "_law_step" (defArgs s_law_step) (defBody s_law_step) (defScope s_law_step) [] [] (He.ga K "_law_step") fd
  g_law_step : mg "_law_step" = some (.ref (He.ga K "_law_step"))
  d_law_steps : ∃ fd, FunD K "_law_steps" "_law_steps" (defArgs s_law_steps) (defBody s_law_steps) (defScope s_law_steps) [] [] (He.ga K "_law_steps") fd
  g_law_steps : mg "_law_steps" = some (.ref (He.ga K "_law_steps"))
  d_law_objects : ∃ fd, FunD K "_law_objects" "_law_objects" (defArgs s_law_objects) (defBody s_law_objects) (defScope s_law_objects) [] [] (He.ga K "_law_objects") fd
  g_law_objects : mg "_law_objects" = some (.ref (He.ga K "_law_objects"))
  d_law_touched : ∃ fd, FunD K "_law_touched" "_law_touched" (defArgs s_law_touched) (defBody s_law_touched) (defScope s_law_touched) [] [] (He.ga K "_law_touched") fd
  g_law_touched : mg "_law_touched" = some (.ref (He.ga K "_law_touched"))
  d_law_meet : ∃ fd, FunD K "_law_meet" "_law_meet" (defArgs s_law_meet) (defBody s_law_meet) (defScope s_law_meet) [] [] (He.ga K "_law_meet") fd
  g_law_meet : mg "_law_meet" = some (.ref (He.ga K "_law_meet"))
  d_law_beats : ∃ fd, FunD K "_law_beats" "_law_beats" (defArgs s_law_beats) (defBody s_law_beats) (defScope s_law_beats) [] [] (He.ga K "_law_beats") fd
  g_law_beats : mg "_law_beats" = some (.ref (He.ga K "_law_beats"))
  d_law_least : ∃ fd, FunD K "_law_least" "_law_least" (defArgs s_law_least) (defBody s_law_least) (defScope s_law_least) [] [] (He.ga K "_law_least") fd
  g_law_least : mg "_law_least" = some (.ref (He.ga K "_law_least"))
  d_law : ∃ fd, FunD K "law" "law" (defArgs s_law) (defBody s_law) (defScope s_law) [] [] (He.ga K "law") fd
  g_law : mg "law" = some (.ref (He.ga K "law"))
  f_all : mg "all" = none
  f_bool : mg "bool" = none
  f_enumerate : mg "enumerate" = none
  f_int : mg "int" = none
  f_isinstance : mg "isinstance" = none
  f_len : mg "len" = none
  f_list : mg "list" = none
  f_max : mg "max" = none
  f_min : mg "min" = none
  f_range : mg "range" = none
  f_repr : mg "repr" = none
  f_reversed : mg "reversed" = none
  f_set : mg "set" = none
  f_sorted : mg "sorted" = none
  f_str : mg "str" = none
  f_tuple : mg "tuple" = none
  f_zip : mg "zip" = none
  g_OPS : ∃ t, mg "OPS" = some (.str "+ - & | ^ << >> < =" t)
  g_WAY : ∃ t, mg "WAY" = some (.int 256 t)
  g_INNER_MOST : ∃ t, mg "INNER_MOST" = some (.int 7 t)
  g_FIELD_MOST : ∃ t, mg "FIELD_MOST" = some (.int 2 t)
  g_SEL_MOST : ∃ t, mg "SEL_MOST" = some (.int 3 t)
  g_WORD_MOST : ∃ t, mg "WORD_MOST" = some (.int 16777215 t)
  dm_Step_told : ∃ fd, FunD K "told" "Step.told" (defArgs s_Step_told) (defBody s_Step_told) (defScope s_Step_told) [] [] (He.ma K (He.ga K "Step") "told") fd
  dm_Step_sources : ∃ fd, FunD K "sources" "Step.sources" (defArgs s_Step_sources) (defBody s_Step_sources) (defScope s_Step_sources) [] [] (He.ma K (He.ga K "Step") "sources") fd
  dm_Step_changed_places : ∃ fd, FunD K "changed_places" "Step.changed_places" (defArgs s_Step_changed_places) (defBody s_Step_changed_places) (defScope s_Step_changed_places) [] [] (He.ma K (He.ga K "Step") "changed_places") fd
  dm_Step_uses_way : ∃ fd, FunD K "uses_way" "Step.uses_way" (defArgs s_Step_uses_way) (defBody s_Step_uses_way) (defScope s_Step_uses_way) [] [] (He.ma K (He.ga K "Step") "uses_way") fd
  dm_Step_reads : ∃ fd, FunD K "reads" "Step.reads" (defArgs s_Step_reads) (defBody s_Step_reads) (defScope s_Step_reads) [] [] (He.ma K (He.ga K "Step") "reads") fd
  dm_Step_writes : ∃ fd, FunD K "writes" "Step.writes" (defArgs s_Step_writes) (defBody s_Step_writes) (defScope s_Step_writes) [] [] (He.ma K (He.ga K "Step") "writes") fd
  dm_Step_words : ∃ fd, FunD K "words" "Step.words" (defArgs s_Step_words) (defBody s_Step_words) (defScope s_Step_words) [] [] (He.ma K (He.ga K "Step") "words") fd
  dm_Step_taken : ∃ fd, FunD K "taken" "Step.taken" (defArgs s_Step_taken) (defBody s_Step_taken) (defScope s_Step_taken) [] [] (He.ma K (He.ga K "Step") "taken") fd
  dm_Step_left : ∃ fd, FunD K "left" "Step.left" (defArgs s_Step_left) (defBody s_Step_left) (defScope s_Step_left) [] [] (He.ma K (He.ga K "Step") "left") fd
  dm_Get___init__ : ∃ fd, FunD K "__init__" "Get.__init__" (defArgs s_Getu_initu) (defBody s_Getu_initu) (defScope s_Getu_initu) [] [] (He.ma K (He.ga K "Get") "__init__") fd
  dm_Get_told : ∃ fd, FunD K "told" "Get.told" (defArgs s_Get_told) (defBody s_Get_told) (defScope s_Get_told) [] [] (He.ma K (He.ga K "Get") "told") fd
  dm_Get_changed_places : ∃ fd, FunD K "changed_places" "Get.changed_places" (defArgs s_Get_changed_places) (defBody s_Get_changed_places) (defScope s_Get_changed_places) [] [] (He.ma K (He.ga K "Get") "changed_places") fd
  dm_Get_words : ∃ fd, FunD K "words" "Get.words" (defArgs s_Get_words) (defBody s_Get_words) (defScope s_Get_words) [] [] (He.ma K (He.ga K "Get") "words") fd
  dm_Get_taken : ∃ fd, FunD K "taken" "Get.taken" (defArgs s_Get_taken) (defBody s_Get_taken) (defScope s_Get_taken) [] [] (He.ma K (He.ga K "Get") "taken") fd
  dm_Get_sources : ∃ fd, FunD K "sources" "Step.sources" (defArgs s_Step_sources) (defBody s_Step_sources) (defScope s_Step_sources) [] [] (He.ma K (He.ga K "Get") "sources") fd
  dm_Get_uses_way : ∃ fd, FunD K "uses_way" "Step.uses_way" (defArgs s_Step_uses_way) (defBody s_Step_uses_way) (defScope s_Step_uses_way) [] [] (He.ma K (He.ga K "Get") "uses_way") fd
  dm_Get_reads : ∃ fd, FunD K "reads" "Step.reads" (defArgs s_Step_reads) (defBody s_Step_reads) (defScope s_Step_reads) [] [] (He.ma K (He.ga K "Get") "reads") fd
  dm_Get_writes : ∃ fd, FunD K "writes" "Step.writes" (defArgs s_Step_writes) (defBody s_Step_writes) (defScope s_Step_writes) [] [] (He.ma K (He.ga K "Get") "writes") fd
  dm_Get_left : ∃ fd, FunD K "left" "Step.left" (defArgs s_Step_left) (defBody s_Step_left) (defScope s_Step_left) [] [] (He.ma K (He.ga K "Get") "left") fd
  dm_Ask___init__ : ∃ fd, FunD K "__init__" "Ask.__init__" (defArgs s_Asku_initu) (defBody s_Asku_initu) (defScope s_Asku_initu) [] [] (He.ma K (He.ga K "Ask") "__init__") fd
  dm_Ask_told : ∃ fd, FunD K "told" "Ask.told" (defArgs s_Ask_told) (defBody s_Ask_told) (defScope s_Ask_told) [] [] (He.ma K (He.ga K "Ask") "told") fd
  dm_Ask_changed_places : ∃ fd, FunD K "changed_places" "Ask.changed_places" (defArgs s_Ask_changed_places) (defBody s_Ask_changed_places) (defScope s_Ask_changed_places) [] [] (He.ma K (He.ga K "Ask") "changed_places") fd
  dm_Ask_words : ∃ fd, FunD K "words" "Ask.words" (defArgs s_Ask_words) (defBody s_Ask_words) (defScope s_Ask_words) [] [] (He.ma K (He.ga K "Ask") "words") fd
  dm_Ask_taken : ∃ fd, FunD K "taken" "Ask.taken" (defArgs s_Ask_taken) (defBody s_Ask_taken) (defScope s_Ask_taken) [] [] (He.ma K (He.ga K "Ask") "taken") fd
  dm_Ask_sources : ∃ fd, FunD K "sources" "Step.sources" (defArgs s_Step_sources) (defBody s_Step_sources) (defScope s_Step_sources) [] [] (He.ma K (He.ga K "Ask") "sources") fd
  dm_Ask_uses_way : ∃ fd, FunD K "uses_way" "Step.uses_way" (defArgs s_Step_uses_way) (defBody s_Step_uses_way) (defScope s_Step_uses_way) [] [] (He.ma K (He.ga K "Ask") "uses_way") fd
  dm_Ask_reads : ∃ fd, FunD K "reads" "Step.reads" (defArgs s_Step_reads) (defBody s_Step_reads) (defScope s_Step_reads) [] [] (He.ma K (He.ga K "Ask") "reads") fd
  dm_Ask_writes : ∃ fd, FunD K "writes" "Step.writes" (defArgs s_Step_writes) (defBody s_Step_writes) (defScope s_Step_writes) [] [] (He.ma K (He.ga K "Ask") "writes") fd
  dm_Ask_left : ∃ fd, FunD K "left" "Step.left" (defArgs s_Step_left) (defBody s_Step_left) (defScope s_Step_left) [] [] (He.ma K (He.ga K "Ask") "left") fd
  dm_Cell___init__ : ∃ fd, FunD K "__init__" "Cell.__init__" (defArgs s_Cellu_initu) (defBody s_Cellu_initu) (defScope s_Cellu_initu) [] [] (He.ma K (He.ga K "Cell") "__init__") fd
  dm_Cell_told : ∃ fd, FunD K "told" "Cell.told" (defArgs s_Cell_told) (defBody s_Cell_told) (defScope s_Cell_told) [] [] (He.ma K (He.ga K "Cell") "told") fd
  dm_Cell_sources : ∃ fd, FunD K "sources" "Cell.sources" (defArgs s_Cell_sources) (defBody s_Cell_sources) (defScope s_Cell_sources) [] [] (He.ma K (He.ga K "Cell") "sources") fd
  dm_Cell_changed_places : ∃ fd, FunD K "changed_places" "Cell.changed_places" (defArgs s_Cell_changed_places) (defBody s_Cell_changed_places) (defScope s_Cell_changed_places) [] [] (He.ma K (He.ga K "Cell") "changed_places") fd
  dm_Cell_words : ∃ fd, FunD K "words" "Cell.words" (defArgs s_Cell_words) (defBody s_Cell_words) (defScope s_Cell_words) [] [] (He.ma K (He.ga K "Cell") "words") fd
  dm_Cell_taken : ∃ fd, FunD K "taken" "Cell.taken" (defArgs s_Cell_taken) (defBody s_Cell_taken) (defScope s_Cell_taken) [] [] (He.ma K (He.ga K "Cell") "taken") fd
  dm_Cell_uses_way : ∃ fd, FunD K "uses_way" "Step.uses_way" (defArgs s_Step_uses_way) (defBody s_Step_uses_way) (defScope s_Step_uses_way) [] [] (He.ma K (He.ga K "Cell") "uses_way") fd
  dm_Cell_reads : ∃ fd, FunD K "reads" "Step.reads" (defArgs s_Step_reads) (defBody s_Step_reads) (defScope s_Step_reads) [] [] (He.ma K (He.ga K "Cell") "reads") fd
  dm_Cell_writes : ∃ fd, FunD K "writes" "Step.writes" (defArgs s_Step_writes) (defBody s_Step_writes) (defScope s_Step_writes) [] [] (He.ma K (He.ga K "Cell") "writes") fd
  dm_Cell_left : ∃ fd, FunD K "left" "Step.left" (defArgs s_Step_left) (defBody s_Step_left) (defScope s_Step_left) [] [] (He.ma K (He.ga K "Cell") "left") fd
  dm_Two___init__ : ∃ fd, FunD K "__init__" "Two.__init__" (defArgs s_Twou_initu) (defBody s_Twou_initu) (defScope s_Twou_initu) [] [] (He.ma K (He.ga K "Two") "__init__") fd
  dm_Two_told : ∃ fd, FunD K "told" "Two.told" (defArgs s_Two_told) (defBody s_Two_told) (defScope s_Two_told) [] [] (He.ma K (He.ga K "Two") "told") fd
  dm_Two_sources : ∃ fd, FunD K "sources" "Two.sources" (defArgs s_Two_sources) (defBody s_Two_sources) (defScope s_Two_sources) [] [] (He.ma K (He.ga K "Two") "sources") fd
  dm_Two_changed_places : ∃ fd, FunD K "changed_places" "Two.changed_places" (defArgs s_Two_changed_places) (defBody s_Two_changed_places) (defScope s_Two_changed_places) [] [] (He.ma K (He.ga K "Two") "changed_places") fd
  dm_Two_uses_way : ∃ fd, FunD K "uses_way" "Two.uses_way" (defArgs s_Two_uses_way) (defBody s_Two_uses_way) (defScope s_Two_uses_way) [] [] (He.ma K (He.ga K "Two") "uses_way") fd
  dm_Two_words : ∃ fd, FunD K "words" "Two.words" (defArgs s_Two_words) (defBody s_Two_words) (defScope s_Two_words) [] [] (He.ma K (He.ga K "Two") "words") fd
  dm_Two_taken : ∃ fd, FunD K "taken" "Two.taken" (defArgs s_Two_taken) (defBody s_Two_taken) (defScope s_Two_taken) [] [] (He.ma K (He.ga K "Two") "taken") fd
  dm_Two_reads : ∃ fd, FunD K "reads" "Step.reads" (defArgs s_Step_reads) (defBody s_Step_reads) (defScope s_Step_reads) [] [] (He.ma K (He.ga K "Two") "reads") fd
  dm_Two_writes : ∃ fd, FunD K "writes" "Step.writes" (defArgs s_Step_writes) (defBody s_Step_writes) (defScope s_Step_writes) [] [] (He.ma K (He.ga K "Two") "writes") fd
  dm_Two_left : ∃ fd, FunD K "left" "Step.left" (defArgs s_Step_left) (defBody s_Step_left) (defScope s_Step_left) [] [] (He.ma K (He.ga K "Two") "left") fd
  dm_Put___init__ : ∃ fd, FunD K "__init__" "Put.__init__" (defArgs s_Putu_initu) (defBody s_Putu_initu) (defScope s_Putu_initu) [] [] (He.ma K (He.ga K "Put") "__init__") fd
  dm_Put_told : ∃ fd, FunD K "told" "Put.told" (defArgs s_Put_told) (defBody s_Put_told) (defScope s_Put_told) [] [] (He.ma K (He.ga K "Put") "told") fd
  dm_Put_sources : ∃ fd, FunD K "sources" "Put.sources" (defArgs s_Put_sources) (defBody s_Put_sources) (defScope s_Put_sources) [] [] (He.ma K (He.ga K "Put") "sources") fd
  dm_Put_words : ∃ fd, FunD K "words" "Put.words" (defArgs s_Put_words) (defBody s_Put_words) (defScope s_Put_words) [] [] (He.ma K (He.ga K "Put") "words") fd
  dm_Put_left : ∃ fd, FunD K "left" "Put.left" (defArgs s_Put_left) (defBody s_Put_left) (defScope s_Put_left) [] [] (He.ma K (He.ga K "Put") "left") fd
  dm_Put_changed_places : ∃ fd, FunD K "changed_places" "Step.changed_places" (defArgs s_Step_changed_places) (defBody s_Step_changed_places) (defScope s_Step_changed_places) [] [] (He.ma K (He.ga K "Put") "changed_places") fd
  dm_Put_uses_way : ∃ fd, FunD K "uses_way" "Step.uses_way" (defArgs s_Step_uses_way) (defBody s_Step_uses_way) (defScope s_Step_uses_way) [] [] (He.ma K (He.ga K "Put") "uses_way") fd
  dm_Put_reads : ∃ fd, FunD K "reads" "Step.reads" (defArgs s_Step_reads) (defBody s_Step_reads) (defScope s_Step_reads) [] [] (He.ma K (He.ga K "Put") "reads") fd
  dm_Put_writes : ∃ fd, FunD K "writes" "Step.writes" (defArgs s_Step_writes) (defBody s_Step_writes) (defScope s_Step_writes) [] [] (He.ma K (He.ga K "Put") "writes") fd
  dm_Put_taken : ∃ fd, FunD K "taken" "Step.taken" (defArgs s_Step_taken) (defBody s_Step_taken) (defScope s_Step_taken) [] [] (He.ma K (He.ga K "Put") "taken") fd
  dm_Tell___init__ : ∃ fd, FunD K "__init__" "Tell.__init__" (defArgs s_Tellu_initu) (defBody s_Tellu_initu) (defScope s_Tellu_initu) [] [] (He.ma K (He.ga K "Tell") "__init__") fd
  dm_Tell_told : ∃ fd, FunD K "told" "Tell.told" (defArgs s_Tell_told) (defBody s_Tell_told) (defScope s_Tell_told) [] [] (He.ma K (He.ga K "Tell") "told") fd
  dm_Tell_sources : ∃ fd, FunD K "sources" "Tell.sources" (defArgs s_Tell_sources) (defBody s_Tell_sources) (defScope s_Tell_sources) [] [] (He.ma K (He.ga K "Tell") "sources") fd
  dm_Tell_words : ∃ fd, FunD K "words" "Tell.words" (defArgs s_Tell_words) (defBody s_Tell_words) (defScope s_Tell_words) [] [] (He.ma K (He.ga K "Tell") "words") fd
  dm_Tell_left : ∃ fd, FunD K "left" "Tell.left" (defArgs s_Tell_left) (defBody s_Tell_left) (defScope s_Tell_left) [] [] (He.ma K (He.ga K "Tell") "left") fd
  dm_Tell_changed_places : ∃ fd, FunD K "changed_places" "Step.changed_places" (defArgs s_Step_changed_places) (defBody s_Step_changed_places) (defScope s_Step_changed_places) [] [] (He.ma K (He.ga K "Tell") "changed_places") fd
  dm_Tell_uses_way : ∃ fd, FunD K "uses_way" "Step.uses_way" (defArgs s_Step_uses_way) (defBody s_Step_uses_way) (defScope s_Step_uses_way) [] [] (He.ma K (He.ga K "Tell") "uses_way") fd
  dm_Tell_reads : ∃ fd, FunD K "reads" "Step.reads" (defArgs s_Step_reads) (defBody s_Step_reads) (defScope s_Step_reads) [] [] (He.ma K (He.ga K "Tell") "reads") fd
  dm_Tell_writes : ∃ fd, FunD K "writes" "Step.writes" (defArgs s_Step_writes) (defBody s_Step_writes) (defScope s_Step_writes) [] [] (He.ma K (He.ga K "Tell") "writes") fd
  dm_Tell_taken : ∃ fd, FunD K "taken" "Step.taken" (defArgs s_Step_taken) (defBody s_Step_taken) (defScope s_Step_taken) [] [] (He.ma K (He.ga K "Tell") "taken") fd
  dm_Store___init__ : ∃ fd, FunD K "__init__" "Store.__init__" (defArgs s_Storeu_initu) (defBody s_Storeu_initu) (defScope s_Storeu_initu) [] [] (He.ma K (He.ga K "Store") "__init__") fd
  dm_Store_told : ∃ fd, FunD K "told" "Store.told" (defArgs s_Store_told) (defBody s_Store_told) (defScope s_Store_told) [] [] (He.ma K (He.ga K "Store") "told") fd
  dm_Store_sources : ∃ fd, FunD K "sources" "Store.sources" (defArgs s_Store_sources) (defBody s_Store_sources) (defScope s_Store_sources) [] [] (He.ma K (He.ga K "Store") "sources") fd
  dm_Store_words : ∃ fd, FunD K "words" "Store.words" (defArgs s_Store_words) (defBody s_Store_words) (defScope s_Store_words) [] [] (He.ma K (He.ga K "Store") "words") fd
  dm_Store_taken : ∃ fd, FunD K "taken" "Store.taken" (defArgs s_Store_taken) (defBody s_Store_taken) (defScope s_Store_taken) [] [] (He.ma K (He.ga K "Store") "taken") fd
  dm_Store_left : ∃ fd, FunD K "left" "Store.left" (defArgs s_Store_left) (defBody s_Store_left) (defScope s_Store_left) [] [] (He.ma K (He.ga K "Store") "left") fd
  dm_Store_changed_places : ∃ fd, FunD K "changed_places" "Step.changed_places" (defArgs s_Step_changed_places) (defBody s_Step_changed_places) (defScope s_Step_changed_places) [] [] (He.ma K (He.ga K "Store") "changed_places") fd
  dm_Store_uses_way : ∃ fd, FunD K "uses_way" "Step.uses_way" (defArgs s_Step_uses_way) (defBody s_Step_uses_way) (defScope s_Step_uses_way) [] [] (He.ma K (He.ga K "Store") "uses_way") fd
  dm_Store_reads : ∃ fd, FunD K "reads" "Step.reads" (defArgs s_Step_reads) (defBody s_Step_reads) (defScope s_Step_reads) [] [] (He.ma K (He.ga K "Store") "reads") fd
  dm_Store_writes : ∃ fd, FunD K "writes" "Step.writes" (defArgs s_Step_writes) (defBody s_Step_writes) (defScope s_Step_writes) [] [] (He.ma K (He.ga K "Store") "writes") fd
  gc_Step : mg "Step" = some (.ref (He.ga K "Step"))
  cl_Step : Cls K (He.ga K "Step")
  me_Step_told : Meth K (He.ga K "Step") "told" (He.ma K (He.ga K "Step") "told")
  me_Step_sources : Meth K (He.ga K "Step") "sources" (He.ma K (He.ga K "Step") "sources")
  me_Step_changed_places : Meth K (He.ga K "Step") "changed_places" (He.ma K (He.ga K "Step") "changed_places")
  me_Step_uses_way : Meth K (He.ga K "Step") "uses_way" (He.ma K (He.ga K "Step") "uses_way")
  me_Step_reads : Meth K (He.ga K "Step") "reads" (He.ma K (He.ga K "Step") "reads")
  me_Step_writes : Meth K (He.ga K "Step") "writes" (He.ma K (He.ga K "Step") "writes")
  me_Step_words : Meth K (He.ga K "Step") "words" (He.ma K (He.ga K "Step") "words")
  me_Step_taken : Meth K (He.ga K "Step") "taken" (He.ma K (He.ga K "Step") "taken")
  me_Step_left : Meth K (He.ga K "Step") "left" (He.ma K (He.ga K "Step") "left")
  gc_Get : mg "Get" = some (.ref (He.ga K "Get"))
  cl_Get : Cls K (He.ga K "Get")
  mk_Get : Mk K (He.ga K "Get") (He.ma K (He.ga K "Get") "__init__")
  na_Get_to : NoAttr K (He.ga K "Get") "to"
  na_Get_sel : NoAttr K (He.ga K "Get") "sel"
  me_Get_told : Meth K (He.ga K "Get") "told" (He.ma K (He.ga K "Get") "told")
  me_Get_changed_places : Meth K (He.ga K "Get") "changed_places" (He.ma K (He.ga K "Get") "changed_places")
  me_Get_words : Meth K (He.ga K "Get") "words" (He.ma K (He.ga K "Get") "words")
  me_Get_taken : Meth K (He.ga K "Get") "taken" (He.ma K (He.ga K "Get") "taken")
  me_Get_sources : Meth K (He.ga K "Get") "sources" (He.ma K (He.ga K "Get") "sources")
  me_Get_uses_way : Meth K (He.ga K "Get") "uses_way" (He.ma K (He.ga K "Get") "uses_way")
  me_Get_reads : Meth K (He.ga K "Get") "reads" (He.ma K (He.ga K "Get") "reads")
  me_Get_writes : Meth K (He.ga K "Get") "writes" (He.ma K (He.ga K "Get") "writes")
  me_Get_left : Meth K (He.ga K "Get") "left" (He.ma K (He.ga K "Get") "left")
  gc_Ask : mg "Ask" = some (.ref (He.ga K "Ask"))
  cl_Ask : Cls K (He.ga K "Ask")
  mk_Ask : Mk K (He.ga K "Ask") (He.ma K (He.ga K "Ask") "__init__")
  na_Ask_to : NoAttr K (He.ga K "Ask") "to"
  na_Ask_sel : NoAttr K (He.ga K "Ask") "sel"
  me_Ask_told : Meth K (He.ga K "Ask") "told" (He.ma K (He.ga K "Ask") "told")
  me_Ask_changed_places : Meth K (He.ga K "Ask") "changed_places" (He.ma K (He.ga K "Ask") "changed_places")
  me_Ask_words : Meth K (He.ga K "Ask") "words" (He.ma K (He.ga K "Ask") "words")
  me_Ask_taken : Meth K (He.ga K "Ask") "taken" (He.ma K (He.ga K "Ask") "taken")
  me_Ask_sources : Meth K (He.ga K "Ask") "sources" (He.ma K (He.ga K "Ask") "sources")
  me_Ask_uses_way : Meth K (He.ga K "Ask") "uses_way" (He.ma K (He.ga K "Ask") "uses_way")
  me_Ask_reads : Meth K (He.ga K "Ask") "reads" (He.ma K (He.ga K "Ask") "reads")
  me_Ask_writes : Meth K (He.ga K "Ask") "writes" (He.ma K (He.ga K "Ask") "writes")
  me_Ask_left : Meth K (He.ga K "Ask") "left" (He.ma K (He.ga K "Ask") "left")
  gc_Cell : mg "Cell" = some (.ref (He.ga K "Cell"))
  cl_Cell : Cls K (He.ga K "Cell")
  mk_Cell : Mk K (He.ga K "Cell") (He.ma K (He.ga K "Cell") "__init__")
  na_Cell_to : NoAttr K (He.ga K "Cell") "to"
  na_Cell_source : NoAttr K (He.ga K "Cell") "source"
  me_Cell_told : Meth K (He.ga K "Cell") "told" (He.ma K (He.ga K "Cell") "told")
  me_Cell_sources : Meth K (He.ga K "Cell") "sources" (He.ma K (He.ga K "Cell") "sources")
  me_Cell_changed_places : Meth K (He.ga K "Cell") "changed_places" (He.ma K (He.ga K "Cell") "changed_places")
  me_Cell_words : Meth K (He.ga K "Cell") "words" (He.ma K (He.ga K "Cell") "words")
  me_Cell_taken : Meth K (He.ga K "Cell") "taken" (He.ma K (He.ga K "Cell") "taken")
  me_Cell_uses_way : Meth K (He.ga K "Cell") "uses_way" (He.ma K (He.ga K "Cell") "uses_way")
  me_Cell_reads : Meth K (He.ga K "Cell") "reads" (He.ma K (He.ga K "Cell") "reads")
  me_Cell_writes : Meth K (He.ga K "Cell") "writes" (He.ma K (He.ga K "Cell") "writes")
  me_Cell_left : Meth K (He.ga K "Cell") "left" (He.ma K (He.ga K "Cell") "left")
  gc_Two : mg "Two" = some (.ref (He.ga K "Two"))
  cl_Two : Cls K (He.ga K "Two")
  mk_Two : Mk K (He.ga K "Two") (He.ma K (He.ga K "Two") "__init__")
  na_Two_to : NoAttr K (He.ga K "Two") "to"
  na_Two_op : NoAttr K (He.ga K "Two") "op"
  na_Two_one : NoAttr K (He.ga K "Two") "one"
  na_Two_other : NoAttr K (He.ga K "Two") "other"
  me_Two_told : Meth K (He.ga K "Two") "told" (He.ma K (He.ga K "Two") "told")
  me_Two_sources : Meth K (He.ga K "Two") "sources" (He.ma K (He.ga K "Two") "sources")
  me_Two_changed_places : Meth K (He.ga K "Two") "changed_places" (He.ma K (He.ga K "Two") "changed_places")
  me_Two_uses_way : Meth K (He.ga K "Two") "uses_way" (He.ma K (He.ga K "Two") "uses_way")
  me_Two_words : Meth K (He.ga K "Two") "words" (He.ma K (He.ga K "Two") "words")
  me_Two_taken : Meth K (He.ga K "Two") "taken" (He.ma K (He.ga K "Two") "taken")
  me_Two_reads : Meth K (He.ga K "Two") "reads" (He.ma K (He.ga K "Two") "reads")
  me_Two_writes : Meth K (He.ga K "Two") "writes" (He.ma K (He.ga K "Two") "writes")
  me_Two_left : Meth K (He.ga K "Two") "left" (He.ma K (He.ga K "Two") "left")
  gc_Put : mg "Put" = some (.ref (He.ga K "Put"))
  cl_Put : Cls K (He.ga K "Put")
  mk_Put : Mk K (He.ga K "Put") (He.ma K (He.ga K "Put") "__init__")
  na_Put_sel : NoAttr K (He.ga K "Put") "sel"
  na_Put_source : NoAttr K (He.ga K "Put") "source"
  me_Put_told : Meth K (He.ga K "Put") "told" (He.ma K (He.ga K "Put") "told")
  me_Put_sources : Meth K (He.ga K "Put") "sources" (He.ma K (He.ga K "Put") "sources")
  me_Put_words : Meth K (He.ga K "Put") "words" (He.ma K (He.ga K "Put") "words")
  me_Put_left : Meth K (He.ga K "Put") "left" (He.ma K (He.ga K "Put") "left")
  me_Put_changed_places : Meth K (He.ga K "Put") "changed_places" (He.ma K (He.ga K "Put") "changed_places")
  me_Put_uses_way : Meth K (He.ga K "Put") "uses_way" (He.ma K (He.ga K "Put") "uses_way")
  me_Put_reads : Meth K (He.ga K "Put") "reads" (He.ma K (He.ga K "Put") "reads")
  me_Put_writes : Meth K (He.ga K "Put") "writes" (He.ma K (He.ga K "Put") "writes")
  me_Put_taken : Meth K (He.ga K "Put") "taken" (He.ma K (He.ga K "Put") "taken")
  gc_Tell : mg "Tell" = some (.ref (He.ga K "Tell"))
  cl_Tell : Cls K (He.ga K "Tell")
  mk_Tell : Mk K (He.ga K "Tell") (He.ma K (He.ga K "Tell") "__init__")
  na_Tell_sel : NoAttr K (He.ga K "Tell") "sel"
  na_Tell_source : NoAttr K (He.ga K "Tell") "source"
  me_Tell_told : Meth K (He.ga K "Tell") "told" (He.ma K (He.ga K "Tell") "told")
  me_Tell_sources : Meth K (He.ga K "Tell") "sources" (He.ma K (He.ga K "Tell") "sources")
  me_Tell_words : Meth K (He.ga K "Tell") "words" (He.ma K (He.ga K "Tell") "words")
  me_Tell_left : Meth K (He.ga K "Tell") "left" (He.ma K (He.ga K "Tell") "left")
  me_Tell_changed_places : Meth K (He.ga K "Tell") "changed_places" (He.ma K (He.ga K "Tell") "changed_places")
  me_Tell_uses_way : Meth K (He.ga K "Tell") "uses_way" (He.ma K (He.ga K "Tell") "uses_way")
  me_Tell_reads : Meth K (He.ga K "Tell") "reads" (He.ma K (He.ga K "Tell") "reads")
  me_Tell_writes : Meth K (He.ga K "Tell") "writes" (He.ma K (He.ga K "Tell") "writes")
  me_Tell_taken : Meth K (He.ga K "Tell") "taken" (He.ma K (He.ga K "Tell") "taken")
  gc_Store : mg "Store" = some (.ref (He.ga K "Store"))
  cl_Store : Cls K (He.ga K "Store")
  mk_Store : Mk K (He.ga K "Store") (He.ma K (He.ga K "Store") "__init__")
  na_Store_at : NoAttr K (He.ga K "Store") "at"
  na_Store_source : NoAttr K (He.ga K "Store") "source"
  me_Store_told : Meth K (He.ga K "Store") "told" (He.ma K (He.ga K "Store") "told")
  me_Store_sources : Meth K (He.ga K "Store") "sources" (He.ma K (He.ga K "Store") "sources")
  me_Store_words : Meth K (He.ga K "Store") "words" (He.ma K (He.ga K "Store") "words")
  me_Store_taken : Meth K (He.ga K "Store") "taken" (He.ma K (He.ga K "Store") "taken")
  me_Store_left : Meth K (He.ga K "Store") "left" (He.ma K (He.ga K "Store") "left")
  me_Store_changed_places : Meth K (He.ga K "Store") "changed_places" (He.ma K (He.ga K "Store") "changed_places")
  me_Store_uses_way : Meth K (He.ga K "Store") "uses_way" (He.ma K (He.ga K "Store") "uses_way")
  me_Store_reads : Meth K (He.ga K "Store") "reads" (He.ma K (He.ga K "Store") "reads")
  me_Store_writes : Meth K (He.ga K "Store") "writes" (He.ma K (He.ga K "Store") "writes")
  g_PARTS : mg "PARTS" = some (.ref (He.ga K "PARTS"))
  kv_PARTS_get : ∃ a, PySem.W.nsIn K (He.ga K "PARTS") "get" = some (some (.ref a)) ∧ ∀ H, SqT K H a [.str "inner", .str "sel"]
  kv_PARTS_ask : ∃ a, PySem.W.nsIn K (He.ga K "PARTS") "ask" = some (some (.ref a)) ∧ ∀ H, SqT K H a [.str "inner", .str "sel"]
  kv_PARTS_cell : ∃ a, PySem.W.nsIn K (He.ga K "PARTS") "cell" = some (some (.ref a)) ∧ ∀ H, SqT K H a [.str "inner", .str "source"]
  kv_PARTS_two : ∃ a, PySem.W.nsIn K (He.ga K "PARTS") "two" = some (some (.ref a)) ∧ ∀ H, SqT K H a [.str "inner", .str "op", .str "source", .str "source"]
  kv_PARTS_put : ∃ a, PySem.W.nsIn K (He.ga K "PARTS") "put" = some (some (.ref a)) ∧ ∀ H, SqT K H a [.str "sel", .str "source"]
  kv_PARTS_tell : ∃ a, PySem.W.nsIn K (He.ga K "PARTS") "tell" = some (some (.ref a)) ∧ ∀ H, SqT K H a [.str "sel", .str "source"]
  kv_PARTS_store : ∃ a, PySem.W.nsIn K (He.ga K "PARTS") "store" = some (some (.ref a)) ∧ ∀ H, SqT K H a [.str "source", .str "source"]
theorem facts_of {h : Heap} {K : PySem.W.Frag} {mg : Str → Option Value} (X : K.In h) (G : h.Ns mainGlobals mg) (c : He.SaysD fa fn K) (cx : exB K = true) : Facts K mg where
  d_wall := c.def_ 0 rfl
  g_wall := He.glo_ok X G (c.fact 0 rfl)
  d_is_whole := c.def_ 1 rfl
  g_is_whole := He.glo_ok X G (c.fact 1 rfl)
  d_is_within := c.def_ 2 rfl
  g_is_within := He.glo_ok X G (c.fact 2 rfl)
  d_ops_told := c.def_ 3 rfl
  g_ops_told := He.glo_ok X G (c.fact 3 rfl)
  d_bits_of := c.def_ 4 rfl
  g_bits_of := He.glo_ok X G (c.fact 4 rfl)
  d_touched := c.def_ 5 rfl
  g_touched := He.glo_ok X G (c.fact 5 rfl)
  d_met := c.def_ 6 rfl
  g_met := He.glo_ok X G (c.fact 6 rfl)
  d_beat_of := c.def_ 7 rfl
  g_beat_of := He.glo_ok X G (c.fact 7 rfl)
  d_packed := c.def_ 8 rfl
  g_packed := He.glo_ok X G (c.fact 8 rfl)
  d_chain_of := c.def_ 9 rfl
  g_chain_of := He.glo_ok X G (c.fact 9 rfl)
  d_sel_words := c.def_ 10 rfl
  g_sel_words := He.glo_ok X G (c.fact 10 rfl)
  d_source_words := c.def_ 11 rfl
  g_source_words := He.glo_ok X G (c.fact 11 rfl)
  d_is_pair := c.def_ 12 rfl
  g_is_pair := He.glo_ok X G (c.fact 12 rfl)
  d_is_part := c.def_ 13 rfl
  g_is_part := He.glo_ok X G (c.fact 13 rfl)
  d_is_step := c.def_ 14 rfl
  g_is_step := He.glo_ok X G (c.fact 14 rfl)
  d_step_of := c.def_ 15 rfl
  g_step_of := He.glo_ok X G (c.fact 15 rfl)
  d_law_cell := c.def_ 16 rfl
  g_law_cell := He.glo_ok X G (c.fact 16 rfl)
  d_law_stream := c.def_ 17 rfl
  g_law_stream := He.glo_ok X G (c.fact 17 rfl)
  d_law_take := c.def_ 18 rfl
  g_law_take := He.glo_ok X G (c.fact 18 rfl)
  d_law_source := c.def_ 19 rfl
  g_law_source := He.glo_ok X G (c.fact 19 rfl)
  d_law_sel := c.def_ 20 rfl
  g_law_sel := He.glo_ok X G (c.fact 20 rfl)
  d_law_step := c.def_ 21 rfl
  g_law_step := He.glo_ok X G (c.fact 21 rfl)
  d_law_steps := c.def_ 22 rfl
  g_law_steps := He.glo_ok X G (c.fact 22 rfl)
  d_law_objects := c.def_ 23 rfl
  g_law_objects := He.glo_ok X G (c.fact 23 rfl)
  d_law_touched := c.def_ 24 rfl
  g_law_touched := He.glo_ok X G (c.fact 24 rfl)
  d_law_meet := c.def_ 25 rfl
  g_law_meet := He.glo_ok X G (c.fact 25 rfl)
  d_law_beats := c.def_ 26 rfl
  g_law_beats := He.glo_ok X G (c.fact 26 rfl)
  d_law_least := c.def_ 27 rfl
  g_law_least := He.glo_ok X G (c.fact 27 rfl)
  d_law := c.def_ 28 rfl
  g_law := He.glo_ok X G (c.fact 28 rfl)
  f_all := He.free_ok X G (c.fact 29 rfl)
  f_bool := He.free_ok X G (c.fact 30 rfl)
  f_enumerate := He.free_ok X G (c.fact 31 rfl)
  f_int := He.free_ok X G (c.fact 32 rfl)
  f_isinstance := He.free_ok X G (c.fact 33 rfl)
  f_len := He.free_ok X G (c.fact 34 rfl)
  f_list := He.free_ok X G (c.fact 35 rfl)
  f_max := He.free_ok X G (c.fact 36 rfl)
  f_min := He.free_ok X G (c.fact 37 rfl)
  f_range := He.free_ok X G (c.fact 38 rfl)
  f_repr := He.free_ok X G (c.fact 39 rfl)
  f_reversed := He.free_ok X G (c.fact 40 rfl)
  f_set := He.free_ok X G (c.fact 41 rfl)
  f_sorted := He.free_ok X G (c.fact 42 rfl)
  f_str := He.free_ok X G (c.fact 43 rfl)
  f_tuple := He.free_ok X G (c.fact 44 rfl)
  f_zip := He.free_ok X G (c.fact 45 rfl)
  g_OPS := He.str_ok X G (c.fact 46 rfl)
  g_WAY := He.int_ok X G (c.fact 47 rfl)
  g_INNER_MOST := He.int_ok X G (c.fact 48 rfl)
  g_FIELD_MOST := He.int_ok X G (c.fact 49 rfl)
  g_SEL_MOST := He.int_ok X G (c.fact 50 rfl)
  g_WORD_MOST := He.int_ok X G (c.fact 51 rfl)
  dm_Step_told := c.def_ 29 rfl
  dm_Step_sources := c.def_ 30 rfl
  dm_Step_changed_places := c.def_ 31 rfl
  dm_Step_uses_way := c.def_ 32 rfl
  dm_Step_reads := c.def_ 33 rfl
  dm_Step_writes := c.def_ 34 rfl
  dm_Step_words := c.def_ 35 rfl
  dm_Step_taken := c.def_ 36 rfl
  dm_Step_left := c.def_ 37 rfl
  dm_Get___init__ := c.def_ 38 rfl
  dm_Get_told := c.def_ 39 rfl
  dm_Get_changed_places := c.def_ 40 rfl
  dm_Get_words := c.def_ 41 rfl
  dm_Get_taken := c.def_ 42 rfl
  dm_Get_sources := c.def_ 43 rfl
  dm_Get_uses_way := c.def_ 44 rfl
  dm_Get_reads := c.def_ 45 rfl
  dm_Get_writes := c.def_ 46 rfl
  dm_Get_left := c.def_ 47 rfl
  dm_Ask___init__ := c.def_ 48 rfl
  dm_Ask_told := c.def_ 49 rfl
  dm_Ask_changed_places := c.def_ 50 rfl
  dm_Ask_words := c.def_ 51 rfl
  dm_Ask_taken := c.def_ 52 rfl
  dm_Ask_sources := c.def_ 53 rfl
  dm_Ask_uses_way := c.def_ 54 rfl
  dm_Ask_reads := c.def_ 55 rfl
  dm_Ask_writes := c.def_ 56 rfl
  dm_Ask_left := c.def_ 57 rfl
  dm_Cell___init__ := c.def_ 58 rfl
  dm_Cell_told := c.def_ 59 rfl
  dm_Cell_sources := c.def_ 60 rfl
  dm_Cell_changed_places := c.def_ 61 rfl
  dm_Cell_words := c.def_ 62 rfl
  dm_Cell_taken := c.def_ 63 rfl
  dm_Cell_uses_way := c.def_ 64 rfl
  dm_Cell_reads := c.def_ 65 rfl
  dm_Cell_writes := c.def_ 66 rfl
  dm_Cell_left := c.def_ 67 rfl
  dm_Two___init__ := c.def_ 68 rfl
  dm_Two_told := c.def_ 69 rfl
  dm_Two_sources := c.def_ 70 rfl
  dm_Two_changed_places := c.def_ 71 rfl
  dm_Two_uses_way := c.def_ 72 rfl
  dm_Two_words := c.def_ 73 rfl
  dm_Two_taken := c.def_ 74 rfl
  dm_Two_reads := c.def_ 75 rfl
  dm_Two_writes := c.def_ 76 rfl
  dm_Two_left := c.def_ 77 rfl
  dm_Put___init__ := c.def_ 78 rfl
  dm_Put_told := c.def_ 79 rfl
  dm_Put_sources := c.def_ 80 rfl
  dm_Put_words := c.def_ 81 rfl
  dm_Put_left := c.def_ 82 rfl
  dm_Put_changed_places := c.def_ 83 rfl
  dm_Put_uses_way := c.def_ 84 rfl
  dm_Put_reads := c.def_ 85 rfl
  dm_Put_writes := c.def_ 86 rfl
  dm_Put_taken := c.def_ 87 rfl
  dm_Tell___init__ := c.def_ 88 rfl
  dm_Tell_told := c.def_ 89 rfl
  dm_Tell_sources := c.def_ 90 rfl
  dm_Tell_words := c.def_ 91 rfl
  dm_Tell_left := c.def_ 92 rfl
  dm_Tell_changed_places := c.def_ 93 rfl
  dm_Tell_uses_way := c.def_ 94 rfl
  dm_Tell_reads := c.def_ 95 rfl
  dm_Tell_writes := c.def_ 96 rfl
  dm_Tell_taken := c.def_ 97 rfl
  dm_Store___init__ := c.def_ 98 rfl
  dm_Store_told := c.def_ 99 rfl
  dm_Store_sources := c.def_ 100 rfl
  dm_Store_words := c.def_ 101 rfl
  dm_Store_taken := c.def_ 102 rfl
  dm_Store_left := c.def_ 103 rfl
  dm_Store_changed_places := c.def_ 104 rfl
  dm_Store_uses_way := c.def_ 105 rfl
  dm_Store_reads := c.def_ 106 rfl
  dm_Store_writes := c.def_ 107 rfl
  gc_Step := He.glo_ok X G (c.fact 52 rfl)
  cl_Step := He.cls_ok (c.fact 53 rfl)
  me_Step_told := He.meth_ok (c.fact 54 rfl)
  me_Step_sources := He.meth_ok (c.fact 55 rfl)
  me_Step_changed_places := He.meth_ok (c.fact 56 rfl)
  me_Step_uses_way := He.meth_ok (c.fact 57 rfl)
  me_Step_reads := He.meth_ok (c.fact 58 rfl)
  me_Step_writes := He.meth_ok (c.fact 59 rfl)
  me_Step_words := He.meth_ok (c.fact 60 rfl)
  me_Step_taken := He.meth_ok (c.fact 61 rfl)
  me_Step_left := He.meth_ok (c.fact 62 rfl)
  gc_Get := He.glo_ok X G (c.fact 63 rfl)
  cl_Get := He.cls_ok (c.fact 64 rfl)
  mk_Get := He.mkr_ok (c.fact 65 rfl)
  na_Get_to := He.noat_ok (c.fact 66 rfl)
  na_Get_sel := He.noat_ok (c.fact 67 rfl)
  me_Get_told := He.meth_ok (c.fact 68 rfl)
  me_Get_changed_places := He.meth_ok (c.fact 69 rfl)
  me_Get_words := He.meth_ok (c.fact 70 rfl)
  me_Get_taken := He.meth_ok (c.fact 71 rfl)
  me_Get_sources := He.meth_ok (c.fact 72 rfl)
  me_Get_uses_way := He.meth_ok (c.fact 73 rfl)
  me_Get_reads := He.meth_ok (c.fact 74 rfl)
  me_Get_writes := He.meth_ok (c.fact 75 rfl)
  me_Get_left := He.meth_ok (c.fact 76 rfl)
  gc_Ask := He.glo_ok X G (c.fact 77 rfl)
  cl_Ask := He.cls_ok (c.fact 78 rfl)
  mk_Ask := He.mkr_ok (c.fact 79 rfl)
  na_Ask_to := He.noat_ok (c.fact 80 rfl)
  na_Ask_sel := He.noat_ok (c.fact 81 rfl)
  me_Ask_told := He.meth_ok (c.fact 82 rfl)
  me_Ask_changed_places := He.meth_ok (c.fact 83 rfl)
  me_Ask_words := He.meth_ok (c.fact 84 rfl)
  me_Ask_taken := He.meth_ok (c.fact 85 rfl)
  me_Ask_sources := He.meth_ok (c.fact 86 rfl)
  me_Ask_uses_way := He.meth_ok (c.fact 87 rfl)
  me_Ask_reads := He.meth_ok (c.fact 88 rfl)
  me_Ask_writes := He.meth_ok (c.fact 89 rfl)
  me_Ask_left := He.meth_ok (c.fact 90 rfl)
  gc_Cell := He.glo_ok X G (c.fact 91 rfl)
  cl_Cell := He.cls_ok (c.fact 92 rfl)
  mk_Cell := He.mkr_ok (c.fact 93 rfl)
  na_Cell_to := He.noat_ok (c.fact 94 rfl)
  na_Cell_source := He.noat_ok (c.fact 95 rfl)
  me_Cell_told := He.meth_ok (c.fact 96 rfl)
  me_Cell_sources := He.meth_ok (c.fact 97 rfl)
  me_Cell_changed_places := He.meth_ok (c.fact 98 rfl)
  me_Cell_words := He.meth_ok (c.fact 99 rfl)
  me_Cell_taken := He.meth_ok (c.fact 100 rfl)
  me_Cell_uses_way := He.meth_ok (c.fact 101 rfl)
  me_Cell_reads := He.meth_ok (c.fact 102 rfl)
  me_Cell_writes := He.meth_ok (c.fact 103 rfl)
  me_Cell_left := He.meth_ok (c.fact 104 rfl)
  gc_Two := He.glo_ok X G (c.fact 105 rfl)
  cl_Two := He.cls_ok (c.fact 106 rfl)
  mk_Two := He.mkr_ok (c.fact 107 rfl)
  na_Two_to := He.noat_ok (c.fact 108 rfl)
  na_Two_op := He.noat_ok (c.fact 109 rfl)
  na_Two_one := He.noat_ok (c.fact 110 rfl)
  na_Two_other := He.noat_ok (c.fact 111 rfl)
  me_Two_told := He.meth_ok (c.fact 112 rfl)
  me_Two_sources := He.meth_ok (c.fact 113 rfl)
  me_Two_changed_places := He.meth_ok (c.fact 114 rfl)
  me_Two_uses_way := He.meth_ok (c.fact 115 rfl)
  me_Two_words := He.meth_ok (c.fact 116 rfl)
  me_Two_taken := He.meth_ok (c.fact 117 rfl)
  me_Two_reads := He.meth_ok (c.fact 118 rfl)
  me_Two_writes := He.meth_ok (c.fact 119 rfl)
  me_Two_left := He.meth_ok (c.fact 120 rfl)
  gc_Put := He.glo_ok X G (c.fact 121 rfl)
  cl_Put := He.cls_ok (c.fact 122 rfl)
  mk_Put := He.mkr_ok (c.fact 123 rfl)
  na_Put_sel := He.noat_ok (c.fact 124 rfl)
  na_Put_source := He.noat_ok (c.fact 125 rfl)
  me_Put_told := He.meth_ok (c.fact 126 rfl)
  me_Put_sources := He.meth_ok (c.fact 127 rfl)
  me_Put_words := He.meth_ok (c.fact 128 rfl)
  me_Put_left := He.meth_ok (c.fact 129 rfl)
  me_Put_changed_places := He.meth_ok (c.fact 130 rfl)
  me_Put_uses_way := He.meth_ok (c.fact 131 rfl)
  me_Put_reads := He.meth_ok (c.fact 132 rfl)
  me_Put_writes := He.meth_ok (c.fact 133 rfl)
  me_Put_taken := He.meth_ok (c.fact 134 rfl)
  gc_Tell := He.glo_ok X G (c.fact 135 rfl)
  cl_Tell := He.cls_ok (c.fact 136 rfl)
  mk_Tell := He.mkr_ok (c.fact 137 rfl)
  na_Tell_sel := He.noat_ok (c.fact 138 rfl)
  na_Tell_source := He.noat_ok (c.fact 139 rfl)
  me_Tell_told := He.meth_ok (c.fact 140 rfl)
  me_Tell_sources := He.meth_ok (c.fact 141 rfl)
  me_Tell_words := He.meth_ok (c.fact 142 rfl)
  me_Tell_left := He.meth_ok (c.fact 143 rfl)
  me_Tell_changed_places := He.meth_ok (c.fact 144 rfl)
  me_Tell_uses_way := He.meth_ok (c.fact 145 rfl)
  me_Tell_reads := He.meth_ok (c.fact 146 rfl)
  me_Tell_writes := He.meth_ok (c.fact 147 rfl)
  me_Tell_taken := He.meth_ok (c.fact 148 rfl)
  gc_Store := He.glo_ok X G (c.fact 149 rfl)
  cl_Store := He.cls_ok (c.fact 150 rfl)
  mk_Store := He.mkr_ok (c.fact 151 rfl)
  na_Store_at := He.noat_ok (c.fact 152 rfl)
  na_Store_source := He.noat_ok (c.fact 153 rfl)
  me_Store_told := He.meth_ok (c.fact 154 rfl)
  me_Store_sources := He.meth_ok (c.fact 155 rfl)
  me_Store_words := He.meth_ok (c.fact 156 rfl)
  me_Store_taken := He.meth_ok (c.fact 157 rfl)
  me_Store_left := He.meth_ok (c.fact 158 rfl)
  me_Store_changed_places := He.meth_ok (c.fact 159 rfl)
  me_Store_uses_way := He.meth_ok (c.fact 160 rfl)
  me_Store_reads := He.meth_ok (c.fact 161 rfl)
  me_Store_writes := He.meth_ok (c.fact 162 rfl)
  g_PARTS := He.glo_ok X G (c.fact 163 rfl)
  kv_PARTS_get := kvB_ok (exB_at cx 0 rfl)
  kv_PARTS_ask := kvB_ok (exB_at cx 1 rfl)
  kv_PARTS_cell := kvB_ok (exB_at cx 2 rfl)
  kv_PARTS_two := kvB_ok (exB_at cx 3 rfl)
  kv_PARTS_put := kvB_ok (exB_at cx 4 rfl)
  kv_PARTS_tell := kvB_ok (exB_at cx 5 rfl)
  kv_PARTS_store := kvB_ok (exB_at cx 6 rfl)
/-- the tables of the text -/
class FactsT (w : World) (K : PySem.W.Frag) : Prop where
  kd_PARTS : ∃ es n, KDict K w (He.ga K "PARTS") es n
def tabs : List He.Tab := [(fun K => He.ga K "PARTS", ["get", "ask", "cell", "two", "put", "tell", "store"])]
theorem factsT_of {w : World} {K : PySem.W.Frag} (c : He.SaysT fa fn tabs w K) : FactsT w K where
  kd_PARTS := c.tab 0
abbrev fam_Step : List Str := ["Get", "Ask", "Cell", "Two", "Put", "Tell", "Store"]
theorem clU_Step {K : PySem.W.Frag} {mg : Str → Option Value} [c : Facts K mg] : ∀ C ∈ fam_Step, Cls K (He.ga K C) := (List.forall_mem_cons.mpr ⟨c.cl_Get, (List.forall_mem_cons.mpr ⟨c.cl_Ask, (List.forall_mem_cons.mpr ⟨c.cl_Cell, (List.forall_mem_cons.mpr ⟨c.cl_Two, (List.forall_mem_cons.mpr ⟨c.cl_Put, (List.forall_mem_cons.mpr ⟨c.cl_Tell, (List.forall_mem_cons.mpr ⟨c.cl_Store, (List.forall_mem_nil _)⟩)⟩)⟩)⟩)⟩)⟩)⟩)
theorem meU_Step_told {K : PySem.W.Frag} {mg : Str → Option Value} [c : Facts K mg] : ∀ C ∈ fam_Step, Meth K (He.ga K C) "told" (He.ma K (He.ga K C) "told") := (List.forall_mem_cons.mpr ⟨c.me_Get_told, (List.forall_mem_cons.mpr ⟨c.me_Ask_told, (List.forall_mem_cons.mpr ⟨c.me_Cell_told, (List.forall_mem_cons.mpr ⟨c.me_Two_told, (List.forall_mem_cons.mpr ⟨c.me_Put_told, (List.forall_mem_cons.mpr ⟨c.me_Tell_told, (List.forall_mem_cons.mpr ⟨c.me_Store_told, (List.forall_mem_nil _)⟩)⟩)⟩)⟩)⟩)⟩)⟩)
theorem meU_Step_sources {K : PySem.W.Frag} {mg : Str → Option Value} [c : Facts K mg] : ∀ C ∈ fam_Step, Meth K (He.ga K C) "sources" (He.ma K (He.ga K C) "sources") := (List.forall_mem_cons.mpr ⟨c.me_Get_sources, (List.forall_mem_cons.mpr ⟨c.me_Ask_sources, (List.forall_mem_cons.mpr ⟨c.me_Cell_sources, (List.forall_mem_cons.mpr ⟨c.me_Two_sources, (List.forall_mem_cons.mpr ⟨c.me_Put_sources, (List.forall_mem_cons.mpr ⟨c.me_Tell_sources, (List.forall_mem_cons.mpr ⟨c.me_Store_sources, (List.forall_mem_nil _)⟩)⟩)⟩)⟩)⟩)⟩)⟩)
theorem meU_Step_changed_places {K : PySem.W.Frag} {mg : Str → Option Value} [c : Facts K mg] : ∀ C ∈ fam_Step, Meth K (He.ga K C) "changed_places" (He.ma K (He.ga K C) "changed_places") := (List.forall_mem_cons.mpr ⟨c.me_Get_changed_places, (List.forall_mem_cons.mpr ⟨c.me_Ask_changed_places, (List.forall_mem_cons.mpr ⟨c.me_Cell_changed_places, (List.forall_mem_cons.mpr ⟨c.me_Two_changed_places, (List.forall_mem_cons.mpr ⟨c.me_Put_changed_places, (List.forall_mem_cons.mpr ⟨c.me_Tell_changed_places, (List.forall_mem_cons.mpr ⟨c.me_Store_changed_places, (List.forall_mem_nil _)⟩)⟩)⟩)⟩)⟩)⟩)⟩)
theorem meU_Step_uses_way {K : PySem.W.Frag} {mg : Str → Option Value} [c : Facts K mg] : ∀ C ∈ fam_Step, Meth K (He.ga K C) "uses_way" (He.ma K (He.ga K C) "uses_way") := (List.forall_mem_cons.mpr ⟨c.me_Get_uses_way, (List.forall_mem_cons.mpr ⟨c.me_Ask_uses_way, (List.forall_mem_cons.mpr ⟨c.me_Cell_uses_way, (List.forall_mem_cons.mpr ⟨c.me_Two_uses_way, (List.forall_mem_cons.mpr ⟨c.me_Put_uses_way, (List.forall_mem_cons.mpr ⟨c.me_Tell_uses_way, (List.forall_mem_cons.mpr ⟨c.me_Store_uses_way, (List.forall_mem_nil _)⟩)⟩)⟩)⟩)⟩)⟩)⟩)
theorem meU_Step_reads {K : PySem.W.Frag} {mg : Str → Option Value} [c : Facts K mg] : ∀ C ∈ fam_Step, Meth K (He.ga K C) "reads" (He.ma K (He.ga K C) "reads") := (List.forall_mem_cons.mpr ⟨c.me_Get_reads, (List.forall_mem_cons.mpr ⟨c.me_Ask_reads, (List.forall_mem_cons.mpr ⟨c.me_Cell_reads, (List.forall_mem_cons.mpr ⟨c.me_Two_reads, (List.forall_mem_cons.mpr ⟨c.me_Put_reads, (List.forall_mem_cons.mpr ⟨c.me_Tell_reads, (List.forall_mem_cons.mpr ⟨c.me_Store_reads, (List.forall_mem_nil _)⟩)⟩)⟩)⟩)⟩)⟩)⟩)
theorem meU_Step_writes {K : PySem.W.Frag} {mg : Str → Option Value} [c : Facts K mg] : ∀ C ∈ fam_Step, Meth K (He.ga K C) "writes" (He.ma K (He.ga K C) "writes") := (List.forall_mem_cons.mpr ⟨c.me_Get_writes, (List.forall_mem_cons.mpr ⟨c.me_Ask_writes, (List.forall_mem_cons.mpr ⟨c.me_Cell_writes, (List.forall_mem_cons.mpr ⟨c.me_Two_writes, (List.forall_mem_cons.mpr ⟨c.me_Put_writes, (List.forall_mem_cons.mpr ⟨c.me_Tell_writes, (List.forall_mem_cons.mpr ⟨c.me_Store_writes, (List.forall_mem_nil _)⟩)⟩)⟩)⟩)⟩)⟩)⟩)
theorem meU_Step_words {K : PySem.W.Frag} {mg : Str → Option Value} [c : Facts K mg] : ∀ C ∈ fam_Step, Meth K (He.ga K C) "words" (He.ma K (He.ga K C) "words") := (List.forall_mem_cons.mpr ⟨c.me_Get_words, (List.forall_mem_cons.mpr ⟨c.me_Ask_words, (List.forall_mem_cons.mpr ⟨c.me_Cell_words, (List.forall_mem_cons.mpr ⟨c.me_Two_words, (List.forall_mem_cons.mpr ⟨c.me_Put_words, (List.forall_mem_cons.mpr ⟨c.me_Tell_words, (List.forall_mem_cons.mpr ⟨c.me_Store_words, (List.forall_mem_nil _)⟩)⟩)⟩)⟩)⟩)⟩)⟩)
theorem meU_Step_taken {K : PySem.W.Frag} {mg : Str → Option Value} [c : Facts K mg] : ∀ C ∈ fam_Step, Meth K (He.ga K C) "taken" (He.ma K (He.ga K C) "taken") := (List.forall_mem_cons.mpr ⟨c.me_Get_taken, (List.forall_mem_cons.mpr ⟨c.me_Ask_taken, (List.forall_mem_cons.mpr ⟨c.me_Cell_taken, (List.forall_mem_cons.mpr ⟨c.me_Two_taken, (List.forall_mem_cons.mpr ⟨c.me_Put_taken, (List.forall_mem_cons.mpr ⟨c.me_Tell_taken, (List.forall_mem_cons.mpr ⟨c.me_Store_taken, (List.forall_mem_nil _)⟩)⟩)⟩)⟩)⟩)⟩)⟩)
theorem meU_Step_left {K : PySem.W.Frag} {mg : Str → Option Value} [c : Facts K mg] : ∀ C ∈ fam_Step, Meth K (He.ga K C) "left" (He.ma K (He.ga K C) "left") := (List.forall_mem_cons.mpr ⟨c.me_Get_left, (List.forall_mem_cons.mpr ⟨c.me_Ask_left, (List.forall_mem_cons.mpr ⟨c.me_Cell_left, (List.forall_mem_cons.mpr ⟨c.me_Two_left, (List.forall_mem_cons.mpr ⟨c.me_Put_left, (List.forall_mem_cons.mpr ⟨c.me_Tell_left, (List.forall_mem_cons.mpr ⟨c.me_Store_left, (List.forall_mem_nil _)⟩)⟩)⟩)⟩)⟩)⟩)⟩)
end J
namespace J
open PySem PySem.Spec PyProof.Rows L2
def loose0 : List PySem.Str := ["_wall", "is_whole", "is_within", "ops_told", "bits_of", "touched", "met", "beat_of", "packed", "chain_of", "sel_words", "source_words", "is_pair", "is_part", "is_step", "step_of", "_law_cell", "_law_stream", "_law_take", "_law_source", "_law_sel", "_law_step", "_law_steps", "_law_objects", "_law_touched", "_law_meet", "_law_beats", "_law_least", "OPS", "WAY"]
def loose1 : List PySem.Str := ["PARTS", "INNER_MOST", "FIELD_MOST", "SEL_MOST", "WORD_MOST", "RowsError", "BadStep", "Step", "Get", "Ask", "Cell", "Two", "Put", "Tell", "Store"]
def loose : List PySem.Str := loose0 ++ loose1
abbrev rowR : PySem.W.OpenRow := PySem.W.OpenLaw.row PySem.Challenge.rw_rowsjoined_k25_chains_as_long
abbrev hk : PySem.W.Hook := He.hookX 4 fa fn tabs [] exB
def ob (s : PySem.W.SharedT) : He.AlX := He.obsX 4 fa fn tabs [] exB (HandSHeadRun.getT s)
theorem ob_eq (s : PySem.W.SharedT) : ob s = hk.obs s.abs := He.obsX_eq (HandSHeadRun.getT_eq s)
theorem run_f (w : World) : HandSHeadRun.RunEq rowR (PySem.W.view rowR.prog [50]) hk ob 12000 loose (w.withFollow "special-get-raises" false) := by
  intro os
  kernel_rfl
theorem run_t (w : World) : HandSHeadRun.RunEq rowR (PySem.W.view rowR.prog [50]) hk ob 12000 loose (w.withFollow "special-get-raises" true) := by
  intro os
  kernel_rfl
theorem run (w : World) : HandSHeadRun.RunEq rowR (PySem.W.view rowR.prog [50]) hk ob 12000 loose w := PySem.W.byRow2 "special-get-raises" (P := fun w => HandSHeadRun.RunEq rowR (PySem.W.view rowR.prog [50]) hk ob 12000 loose w) run_f run_t w
end J
namespace J
open PySem PySem.Spec PyProof.Rows L2
local macro_rules | `(tactic| walk_at "cls") => `(tactic| first
  | with_reducible exact Facts.cl_Step
  | with_reducible exact Facts.cl_Get
  | with_reducible exact Facts.cl_Ask
  | with_reducible exact Facts.cl_Cell
  | with_reducible exact Facts.cl_Two
  | with_reducible exact Facts.cl_Put
  | with_reducible exact Facts.cl_Tell
  | with_reducible exact Facts.cl_Store)
local macro_rules | `(tactic| walk_at "na") => `(tactic| first
  | with_reducible exact Facts.na_Get_to
  | with_reducible exact Facts.na_Get_sel
  | with_reducible exact Facts.na_Ask_to
  | with_reducible exact Facts.na_Ask_sel
  | with_reducible exact Facts.na_Cell_to
  | with_reducible exact Facts.na_Cell_source
  | with_reducible exact Facts.na_Two_to
  | with_reducible exact Facts.na_Two_op
  | with_reducible exact Facts.na_Two_one
  | with_reducible exact Facts.na_Two_other
  | with_reducible exact Facts.na_Put_sel
  | with_reducible exact Facts.na_Put_source
  | with_reducible exact Facts.na_Tell_sel
  | with_reducible exact Facts.na_Tell_source
  | with_reducible exact Facts.na_Store_at
  | with_reducible exact Facts.na_Store_source)
local macro_rules | `(tactic| walk_at "ty") => `(tactic| first
  | with_reducible exact ty_int
  | with_reducible exact ty_bl
  | with_reducible exact ty_str
  | with_reducible exact ty_non
  | ((with_reducible refine' ty_lst ?vv); (case vv => walk_at "tr"))
  | ((with_reducible refine' ty_sqT ?vv); (case vv => walk_at "tr"))
  | ((with_reducible refine' ty_dic ?vv); (case vv => walk_at "tr")))
local macro_rules | `(tactic| walk_at "ix") => `(tactic| first | exact at0 | exact at1 | exact at2 | assumption)
local macro_rules | `(tactic| walk_at "size") => `(tactic| first
  | assumption
  | (show _ < sizeLine; rw [sizeLine_eq]; (try simp only [List.length_cons, List.length_nil, List.length_append, List.length_map]); omega)
  | (show _ ≤ sizeLine; rw [sizeLine_eq]; (try simp only [List.length_cons, List.length_nil, List.length_append, List.length_map]); omega))
local macro_rules | `(tactic| walk_at "side") => `(tactic| first
  | assumption
  | ((with_reducible refine cdw ?_ ?_) <;> omega)
  | omega
  | (exact ⟨by omega, by omega⟩)
  | (exact Or.inl ⟨by omega, by omega⟩)
  | (exact Or.inr ⟨by omega, by omega⟩)
  | decide
  | (simp only [List.length_cons, List.length_nil, List.length_append, List.length_map]; omega)
  | (show _ ≤ _; decide))
local macro_rules | `(tactic| walk_at "as") => `(tactic| with_reducible assumption)
local macro_rules | `(tactic| walk_at "tr") => `(tactic| first
  | with_reducible assumption
  | with_reducible exact upd_same
  | ((with_reducible refine' SqL.of ?hh); (case hh => walk_at "as"))
  | ((with_reducible refine' SqT.of ?hh); (case hh => walk_at "as"))
  | ((with_reducible refine' Same.stm ?ee ?gg); (case ee => walk_at "as"); (case gg => walk_at "tr"))
  | ((with_reducible refine' Same.sqT ?ee ?gg); (case ee => walk_at "as"); (case gg => walk_at "tr"))
  | ((with_reducible refine' Same.sqL ?ee ?gg); (case ee => walk_at "as"); (case gg => walk_at "tr"))
  | ((with_reducible refine' Same.at ?ee ?gg); (case ee => walk_at "as"); (case gg => walk_at "tr"))
  | ((with_reducible refine' But.stm ?ee ?ff ?gg); (case ee => walk_at "as"); (case ff => walk_at "ne"); (case gg => walk_at "tr"))
  | ((with_reducible refine' But.tup ?ee ?ff ?gg); (case ee => walk_at "as"); (case ff => walk_at "tr1"); (case gg => walk_at "tr"))
  | ((with_reducible refine' But.sqT ?ee ?ff ?gg); (case ee => walk_at "as"); (case ff => walk_at "tr1"); (case gg => walk_at "tr"))
  | ((with_reducible refine' But.tupL ?ee ?ff ?gg); (case ee => walk_at "as"); (case ff => walk_at "tr1"); (case gg => walk_at "tr"))
  | ((with_reducible refine' But.sqTL ?ee ?ff ?gg); (case ee => walk_at "as"); (case ff => walk_at "tr1"); (case gg => walk_at "tr"))
  | ((with_reducible refine' But.sqL ?ee ?ff ?gg); (case ee => walk_at "as"); (case ff => walk_at "ne"); (case gg => walk_at "tr"))
  | ((with_reducible refine' But.at ?ee ?ff ?gg); (case ee => walk_at "as"); (case ff => walk_at "ne"); (case gg => walk_at "tr")))
local macro_rules | `(tactic| walk_at "ts") => `(tactic| first
  | with_reducible assumption
  | with_reducible exact TS.refl _
  | ((with_reducible refine' TS.trans ?gg (TS.of ?ee)); (case ee => walk_at "as"); (case gg => walk_at "ts"))
  | ((with_reducible refine' TS.trans ?gg (TS.butS ?ee ?ff)); (case ee => walk_at "as"); (case ff => walk_at "tr1"); (case gg => walk_at "ts"))
  | ((with_reducible refine' TS.trans ?gg (TS.butL ?ee ?ff)); (case ee => walk_at "as"); (case ff => walk_at "tr1"); (case gg => walk_at "ts"))
  | ((with_reducible refine' TS.trans ?gg (TS.butI ?ee ?ff)); (case ee => walk_at "as"); (case ff => walk_at "tr1"); (case gg => walk_at "ts")))
local macro_rules | `(tactic| walk_at "sm") => `(tactic| first
  | with_reducible assumption
  | with_reducible exact Same.refl _
  | ((with_reducible refine' Same.trans ?gg ?ee); (case ee => walk_at "as"); (case gg => walk_at "sm"))
  | ((with_reducible refine' But.new ?gg ?nn ?ee); (case ee => walk_at "as"); (case nn => walk_at "fr"); (case gg => walk_at "sm")))
local macro_rules | `(tactic| walk_at "fr") => `(tactic| first
  | with_reducible assumption
  | ((with_reducible refine' Same.back ?ee ?nn); (case nn => walk_at "as"); (case ee => walk_at "sm"))
  | ((with_reducible refine' But.back ?ee ?ff ?nn); (case nn => walk_at "as"); (case ff => walk_at "ne0"); (case ee => walk_at "bu")))
local macro_rules | `(tactic| walk_at "bu") => `(tactic| first
  | with_reducible assumption
  | with_reducible exact But.refl _ _
  | ((with_reducible refine' But.trans ?gg ?ee); (case ee => walk_at "as"); (case gg => walk_at "bu"))
  | ((with_reducible refine' But.trans ?gg (But.of ?ee)); (case ee => walk_at "as"); (case gg => walk_at "bu"))
  | ((with_reducible refine' But.new2 ?gg ?nn ?ee); (case ee => walk_at "as"); (case nn => walk_at "frB"); (case gg => walk_at "bu")))
local macro_rules | `(tactic| walk_at "frB") => `(tactic| first
  | with_reducible assumption
  | ((with_reducible refine' Same.back ?ee ?nn); (case nn => walk_at "as"); (case ee => walk_at "sm"))
  | ((with_reducible refine' But.back' ?ee ?ff ?nn); (case nn => walk_at "as"); (case ee => walk_at "bu"); (case ff => walk_at "tr1")))
local macro_rules | `(tactic| walk_at "tr1") => `(tactic| first
  | with_reducible assumption
  | ((with_reducible refine' Same.stm ?ee ?gg); (case ee => walk_at "as"); (case gg => walk_at "tr1"))
  | ((with_reducible refine' Same.at ?ee ?gg); (case ee => walk_at "as"); (case gg => walk_at "tr1"))
  | ((with_reducible refine' But.at ?ee ?ff ?gg); (case ee => walk_at "as"); (case ff => walk_at "ne0"); (case gg => walk_at "tr1"))
  | ((with_reducible refine' But.stm ?ee ?ff ?gg); (case ee => walk_at "as"); (case ff => walk_at "ne0"); (case gg => walk_at "tr1")))
local macro_rules | `(tactic| walk_at "ne0") => `(tactic| first
  | with_reducible assumption
  | (with_reducible apply Ne.symm; with_reducible assumption))
local macro_rules | `(tactic| walk_at "ne") => `(tactic| first
  | with_reducible assumption
  | (with_reducible apply Ne.symm; with_reducible assumption)
  | ((with_reducible refine' stm_ne ?hh ?nn); (case nn => walk_at "as"); (case hh => walk_at "tr1"))
  | ((with_reducible refine' ne_of_none ?hh ?nn); (case nn => walk_at "as"); (case hh => walk_at "tr1"))
  | ((with_reducible apply Ne.symm); (with_reducible refine' ne_of_none ?hh ?nn); (case nn => walk_at "as"); (case hh => walk_at "tr1")))
local macro_rules | `(tactic| walk_at "v") => `(tactic| first
  | with_reducible refine w_seq ?_
  | ((with_reducible refine' w_var ?vv ?_); (case vv => exact rfl))
  | with_reducible refine w_c ?_
  | with_reducible refine w_op ?_
  | with_reducible refine w_asg ?_
  | with_reducible refine w_gName ?_
  | with_reducible refine w_ret ?_
  | with_reducible refine w_ifS ?_
  | with_reducible refine w_drop ?_
  | with_reducible refine w_next ?_
  | with_reducible refine w_cons ?_
  | with_reducible refine w_nil ?_
  | with_reducible refine w_call ?_
  | with_reducible refine w_cb ?_
  | with_reducible refine w_rI0 ?_
  | with_reducible refine w_addI ?_
  | with_reducible refine w_eqI ?_
  | with_reducible refine w_neI ?_
  | with_reducible refine w_eqS ?_
  | with_reducible refine w_neS ?_
  | with_reducible refine w_eqB ?_
  | with_reducible refine w_neB ?_
  | with_reducible refine w_chain ?_
  | with_reducible refine w_test ?_
  | with_reducible refine w_tB ?_
  | with_reducible refine w_bl ?_
  | ((with_reducible refine' w_mulI ?vv ?_); (case vv => walk_at "side"))
  | ((with_reducible refine' w_rI ?vv ?_); (case vv => walk_at "side"))
  | with_reducible refine w_int1 ?_
  | with_reducible refine w_int1b ?_
  | with_reducible refine w_tup ?_
  | with_reducible refine w_lst ?_
  | with_reducible refine w_un ?_
  | with_reducible refine w_rU ?_
  | with_reducible refine w_not ?_
  | with_reducible refine w_notV ?_
  | with_reducible refine w_ifE ?_
  | with_reducible refine w_nT ?_
  | with_reducible refine w_nF ?_
  | with_reducible refine iteT ?_
  | with_reducible refine iteF ?_
  | ((with_reducible refine' w_ixT ?vv ?ww ?_); (case vv => walk_at "tr"); (case ww => walk_at "ix"))
  | ((with_reducible refine' w_ixL ?vv ?ww ?_); (case vv => walk_at "tr"); (case ww => walk_at "ix"))
  | with_reducible refine w_gSub ?_
  | ((with_reducible refine' w_setL ?vv ?ww ?_); (case vv => walk_at "tr"); (case ww => first | rfl | decide | assumption))
  | ((with_reducible refine' w_lenL ?vv ?_); (case vv => walk_at "tr"))
  | ((with_reducible refine' w_lenT ?vv ?_); (case vv => walk_at "tr"))
  | with_reducible refine w_max2 ?_
  | with_reducible refine w_max3 ?_
  | with_reducible refine w_din ?_
  | with_reducible refine w_dnotin ?_
  | with_reducible refine w_dput ?_
  | with_reducible refine w_min2 ?_
  | with_reducible refine w_bm ?_
  | with_reducible refine w_bm0 ?_
  | ((with_reducible refine' w_tyL ?vv ?_); (case vv => walk_at "tr"))
  | ((with_reducible refine' w_append ?vv ?ww ?_); (case vv => walk_at "tr"); (case ww => walk_at "size"))
  | ((with_reducible refine' w_size ?vv ?_); (case vv => walk_at "size"))
  | with_reducible refine w_forL ?_
  | with_reducible refine w_forT ?_
  | with_reducible refine w_forR1 ?_
  | with_reducible refine w_forR2 ?_
  | with_reducible refine w_lcL ?_
  | with_reducible refine w_lcT ?_
  | with_reducible refine w_lcR1 ?_
  | with_reducible refine w_yes ?_
  | with_reducible refine w_sl ?_
  | with_reducible refine w_noPart ?_
  | with_reducible refine w_part ?_
  | with_reducible refine w_int ?_
  | ((with_reducible refine' w_slL ?vv ?_); (case vv => walk_at "tr"))
  | ((with_reducible refine' w_seqL ?vv ?ww ?_); (case vv => walk_at "tr"); (case ww => rfl))
  | ((with_reducible refine' w_seqT ?vv ?ww ?_); (case vv => walk_at "tr"); (case ww => rfl))
  | with_reducible refine w_gNil ?_
  | with_reducible refine w_gCons ?_
  | with_reducible refine w_forZ ?_
  | with_reducible refine w_forM ?_
  | with_reducible refine w_forE ?_
  | with_reducible refine w_forV ?_
  | with_reducible refine w_lcZ ?_
  | with_reducible refine w_lcE ?_
  | ((with_reducible refine' w_isi (b := true) ?vv ?ww ?_); (case vv => walk_at "ty"); (case ww => decide +kernel))
  | ((with_reducible refine' w_isi (b := false) ?vv ?ww ?_); (case vv => walk_at "ty"); (case ww => decide +kernel))
  | with_reducible refine w_revL ?_
  | with_reducible refine w_pairN ?_
  | with_reducible refine w_pairC ?_
  | with_reducible refine w_dget ?_
  | with_reducible refine w_met ?_
  | ((with_reducible refine' w_metAt ?vv ?ww ?_); (case vv => walk_at "tr"); (case ww => rfl))
  | with_reducible refine w_mkI ?_
  | with_reducible refine w_fld ?_
  | ((with_reducible refine' w_fldAt ?vv ?cc ?nn ?ww ?_); (case vv => walk_at "tr"); (case cc => walk_at "cls"); (case nn => walk_at "na"); (case ww => rfl))
  | with_reducible refine w_sfld ?_
  | ((with_reducible refine' w_sfldAt ?vv ?cc ?nn ?ll ?ee ?_); (case vv => walk_at "tr"); (case cc => walk_at "cls"); (case nn => walk_at "na"); (case ll => simp); (case ee => rfl))
  | ((with_reducible refine' w_tupL ?vv ?_); (case vv => walk_at "tr"))
  | ((with_reducible refine' w_tupT ?vv ?_); (case vv => walk_at "tr"))
  | ((with_reducible refine' w_listL ?vv ?_); (case vv => walk_at "tr"))
  | ((with_reducible refine' w_listT ?vv ?_); (case vv => walk_at "tr"))
  | with_reducible refine w_tyS ?_
  | with_reducible refine w_lcZM ?_
  | with_reducible refine w_js ?_
  | with_reducible refine w_jsN ?_
  | ((with_reducible refine' w_jsP ?vv ?_); (case vv => walk_at "size"))
  | with_reducible refine w_fmt ?_
  | with_reducible refine w_forRR ?_
  | with_reducible refine w_retN ?_
  | with_reducible refine w_break ?_
  | with_reducible refine w_cont ?_)
local macro_rules | `(tactic| walk_at "w") => `(tactic| first
  | walk_at "v"
  | with_reducible refine w_or ?_
  | with_reducible refine w_and ?_
  | with_reducible refine w_andV ?_
  | with_reducible refine w_orV ?_)
local macro_rules | `(tactic| walk_at "wd") => `(tactic| first
  | walk_at "w"
  | ((with_reducible refine' w_decT ?vv ?_); (case vv => decide +kernel))
  | ((with_reducible refine' w_decF ?vv ?_); (case vv => decide +kernel)))
local macro_rules | `(tactic| walk_at "tz") => `(tactic| (intro S z; (repeat walk_at "w"); exact z))
local macro_rules | `(tactic| walk_at "wf") => `(tactic| first
  | walk_at "wd"
  | ((with_reducible refine' w_decF ?vv ?_); (case vv => with_reducible assumption)))
/-! ### the draws, alike in all laws -/
def spCell (K : PySem.W.Frag) : Sp := fun vs H Q _ => ∃ (a : Addr) (ns : List Int) (k : Int), vs = [.ref a, .int k] ∧ SqL K H a (ns.map V.int) ∧ 0 ≤ k ∧ ∀ n : Int, Q (.int n) H
def spStream : Sp := fun vs H Q _ => ∃ c : Int, vs = [.int c] ∧ ∀ s H', Same H H' → H s = none → Stm H' s → Q (.ref s) H'
def spTake : Sp := fun vs H Q _ => ∃ (s : Addr) (m : Int), vs = [.ref s, .int m] ∧ Stm H s ∧ 0 < m ∧ m < 2 ^ 200 ∧ ∀ d H', 0 ≤ d → d < m → Stm H' s → But s H H' → Q (.int d) H'
theorem len_law_cell {K : PySem.W.Frag} {vs H Q E} (h : spCell K vs H Q E) : vs.length = 2 := by obtain ⟨_, _, _, rfl, _⟩ := h; rfl
theorem len_law_stream {vs H Q E} (h : spStream vs H Q E) : vs.length = 1 := by obtain ⟨_, rfl, _⟩ := h; rfl
theorem len_law_take {vs H Q E} (h : spTake vs H Q E) : vs.length = 2 := by obtain ⟨_, _, rfl, _⟩ := h; rfl
def spLaw (K : PySem.W.Frag) : Sp := fun vs H Q _ => ∃ (a : Addr) (ns : List Int), vs = [.ref a] ∧ SqL K H a (ns.map V.int) ∧ ns.length ≤ 63 ∧ ∀ H', Q (.bl true) H'
theorem len_law {K : PySem.W.Frag} {vs H Q E} (h : spLaw K vs H Q E) : vs.length = 1 := by obtain ⟨_, _, rfl, _⟩ := h; rfl
theorem law_in {K : PySem.W.Frag} {H : Hp} {a : Addr} {ns : List Int} (hl : ns.length ≤ 63) (_ : Only H) (hS : SqL K H a (ns.map V.int)) : spLaw K [.ref a] H (fun v _ => v = .bl true) fun _ _ _ => False :=
  ⟨a, ns, rfl, hS, hl, fun _ => rfl⟩
section
variable {P : Program} {w : World} {K : PySem.W.Frag} {mg : Str → Option Value}
theorem ok_law_cell [c : Facts K mg] [ct : FactsT w K] : XL.Fn P w K mg "_law_cell" 1 ["script", "k"] ((spCell K)) := by
  obtain ⟨fd, F⟩ := c.d_law_cell
  refine XL.Fn.mk' F c.g_law_cell sc_law_cell (k := 0) (fun vs H Q E h => ?_) (fun _ _ _ _ _ _ us hl => match us, hl with | [_, _], _ => rfl) (fun base cdv A outer s H vs Q E hr h => ?_)
  · exact len_law_cell h
  · have nd := sc_law_cell.nd
    have hu := hu_of hr.r
    refine ⟨_, (PSs.nox (pss_cons (ps_if (pt_cmpR op_lt (pv 1) (pe_callB (call_lenA (K := K) rfl) (by rfl) c.f_len boot_len (pa_cons (pv 0) pa_nil)) (nomark _)) (pss_one (ps_ret (pe_ix (ix_any (K := K) rfl) (pv 0) (pv 1) (fun _ _ => rfl)))) pss_nil)
      (pss_one (ps_ret (pe_op (op_addA (K := K) rfl) (pe_op op_mulA pe_int (pv 1)) pe_int))))), ?_⟩
    try dsimp only [cxOf, Cx.nox, Cx.wish]
    obtain ⟨a, ns, k, rfl, hS, h0, q⟩ := h
    repeat walk_at "w"
    refine ite2 (fun hk => ?_) (fun hk => ?_)
    · rw [decide_eq_true_eq] at hk
      repeat walk_at "w"
      obtain ⟨v, e1, e2, _⟩ := atI_some h0 hk
      obtain ⟨n, _, rfl⟩ := List.mem_map.mp e2
      exact w_ixL hS e1 (q n)
    · repeat walk_at "w"
      exact q _
theorem ok_law_stream [c : Facts K mg] [ct : FactsT w K] : XL.Fn P w K mg "_law_stream" 1 ["cell"] (spStream) := by
  obtain ⟨fd, F⟩ := c.d_law_stream
  refine XL.Fn.mk' F c.g_law_stream sc_law_stream (k := 0) (fun vs H Q E h => ?_) (fun _ _ _ _ _ _ us hl => match us, hl with | [_], _ => rfl) (fun base cdv A outer s H vs Q E hr h => ?_)
  · exact len_law_stream h
  · have nd := sc_law_stream.nd
    have hu := hu_of hr.r
    refine ⟨_, (PSs.nox (pss_one (ps_ret (pe_lst (pa_cons (pe_op op_mulA (pv 0) (pe_callTy call_int1A (by rfl) c.f_int boot_int (pa_cons (pe_cmpR op_ge (pv 0) (pe_op op_pow pe_int pe_int) (nomark _)) pa_nil))) (pa_cons (pe_op op_mod (pv 0) pe_int) (pa_cons pe_int pa_nil))))))), ?_⟩
    try dsimp only [cxOf, Cx.nox, Cx.wish]
    obtain ⟨n, rfl, q⟩ := h
    repeat walk_at "w"
    exact w_new fun p H1 n1 s1 f1 => q _ _ s1 n1 ⟨_, _, _, f1⟩
theorem ok_law_take [c : Facts K mg] [ct : FactsT w K] : XL.Fn P w K mg "_law_take" 1 ["stream", "many"] (spTake) := by
  obtain ⟨fd, F⟩ := c.d_law_take
  refine XL.Fn.mk' F c.g_law_take sc_law_take (k := 0) (fun vs H Q E h => ?_) (fun _ _ _ _ _ _ us hl => match us, hl with | [_, _], _ => rfl) (fun base cdv A outer s H vs Q E hr h => ?_)
  · exact len_law_take h
  · have nd := sc_law_take.nd
    have hu := hu_of hr.r
    refine ⟨_, (PSs.nox (pss_cons (ps_if (pt_cmpR op_gt (pe_ix (ix_any (K := K) rfl) (pv 0) pe_int (fun _ _ => rfl)) pe_int (nomark _)) (pss_cons (ps_set (i := 2) nd rfl (Or.inl rfl) (pe_op op_mod (pe_ix (ix_any (K := K) rfl) (pv 0) pe_int (fun _ _ => rfl)) (pv 1)))
      (pss_cons (ps_asg (pe_op op_fdivW (pe_ix (ix_any (K := K) rfl) (pv 0) pe_int (fun _ _ => rfl)) (pv 1)) (pg_sub (pv 0) pe_int set_list))
      (pss_one (ps_ret (pv 2))))) pss_nil)
      (pss_cons (ps_asg (pe_op (op_addA (K := K) rfl) (pe_ix (ix_any (K := K) rfl) (pv 0) pe_int (fun _ _ => rfl)) pe_int) (pg_sub (pv 0) pe_int set_list))
      (pss_cons (ps_set (i := 3) nd rfl (Or.inl rfl) (pe_op op_mod (pe_op (op_addA (K := K) rfl) (pe_op op_mulA (pe_op (op_addA (K := K) rfl) (pe_ix (ix_any (K := K) rfl) (pv 0) pe_int (fun _ _ => rfl)) (pe_op op_mulA pe_int (pe_ix (ix_any (K := K) rfl) (pv 0) pe_int (fun _ _ => rfl)))) pe_int) pe_int) pe_int))
      (pss_cons (ps_set (i := 3) nd rfl (Or.inl rfl) (pe_op op_mod (pe_op op_mulA (pv 3) (pv 3)) pe_int))
      (pss_one (ps_ret (pe_op op_mod (pe_op op_fdivW (pe_op op_mod (pe_op (op_addA (K := K) rfl) (pe_op op_mulA (pv 3) (pv 3)) (pe_op op_mulA pe_int (pe_ix (ix_any (K := K) rfl) (pv 0) pe_int (fun _ _ => rfl)))) pe_int) pe_int) (pv 1))))))))), ?_⟩
    try dsimp only [cxOf, Cx.nox, Cx.wish]
    obtain ⟨s, m, rfl, ⟨a, b, d, hs⟩, hm, hl, q⟩ := h
    repeat walk_at "w"
    refine ite2 (fun hk => ?_) (fun hk => ?_)
    · repeat walk_at "w"
      refine w_chg fun H1 e1 f1 => ?_
      repeat walk_at "w"
      exact q _ _ (Int.emod_nonneg _ (by omega)) (Int.emod_lt_of_pos _ hm) ⟨_, _, _, f1⟩ e1
    · repeat walk_at "w"
      refine w_chg fun H1 e1 f1 => ?_
      repeat walk_at "w"
      exact q _ _ (Int.emod_nonneg _ (by omega)) (Int.emod_lt_of_pos _ hm) ⟨_, _, _, f1⟩ e1
end


end J
namespace J
open PySem PySem.Spec PyProof.Rows L2
--plain
/-! ### sorted(set(texts)) -/
section
open PySem PySem.Spec PyProof.Rows
namespace STX
/-! the set of texts: its members, how many; its table can be walked -/
def kyT (p : Int × Value) : Str := match p.2 with
  | .str k _ => k
  | _ => Str.empty
def OkT (w : World) (p : Int × Value) : Prop := ∃ k u, p.2 = Value.str k u ∧ p.1 = hashStr w k
structure XOk (w : World) (xs : Array (Int × Value)) (tb : SetTable) (S : Str → Bool) : Prop where
  ok : ∀ p ∈ xs.toList, OkT w p
  nd : (xs.toList.map kyT).Nodup
  mem : ∀ k, S k = true ↔ k ∈ xs.toList.map kyT
  few : xs.size < scanBound
  fit : tb.fits xs.size = true
  ris : Ris tb.place.toList
  led : w.params.followText "set-order" = true ∨ tb.led = true
def SetX (w : World) (h : Heap) (a : Addr) (S : Str → Bool) (n : Nat) : Prop := ∃ ob xs ep tb, h.get? a = some ob ∧ ob.ExactSet ∧ ob.data = .set xs ep tb ∧ XOk w xs tb S ∧ xs.size = n
section
variable {P : Program} {w : World} {h h' : Heap} {a : Addr} {S : Str → Bool} {n : Nat}
theorem SetX.at (R : SetX w h a S n) (k : ∀ o, h.get? a = some o → h'.get? a = some o) : SetX w h' a S n := by
  obtain ⟨ob, xs, ep, tb, hob, r⟩ := R
  exact ⟨ob, xs, ep, tb, k ob hob, r⟩
theorem okT_elems {l : List (Int × Value)} (g : ∀ p ∈ l, OkT w p) : ElemsOf (PySem.strKind P w) l := fun p hp => by
  obtain ⟨k, u, h1, h2⟩ := g p hp
  exact ⟨⟨k, by rw [h1]; exact PySem.strKind_is P w k u, h2⟩, by rw [h1] <;> rfl⟩
theorem okT_is {p : Int × Value} (g : OkT w p) (k : Str) : (PySem.strKind P w).is k p.2 = true ↔ kyT p = k := by
  obtain ⟨k0, u, h1, _⟩ := g
  unfold kyT
  rw [h1]
  show (Value.isStrOf k (.str k0 u) = true) ↔ k0 = k
  unfold Value.isStrOf
  first | exact beq_iff_eq | (rw [beq_iff_eq]; exact eq_comm) | simp
theorem okT_mem {l : List (Int × Value)} (g : ∀ p ∈ l, OkT w p) (k : Str) : k ∈ l.map kyT ↔ ∃ p ∈ l, (PySem.strKind P w).is k p.2 = true := by
  rw [List.mem_map]
  exact ⟨fun ⟨p, hp, q⟩ => ⟨p, hp, (okT_is (g p hp) k).2 q⟩, fun ⟨p, hp, q⟩ => ⟨p, hp, (okT_is (g p hp) k).1 q⟩⟩
theorem SetX.setOf (R : SetX w h a S n) : h.SetOf (PySem.strKind P w) a S n := by
  obtain ⟨ob, xs, ep, tb, hob, hx, hd, x, hn⟩ := R
  exact ⟨ob, xs, ep, tb, hob, hx, hd, okT_elems x.ok, fun k => (x.mem k).trans (okT_mem x.ok k), x.few, x.fit, hn⟩
end
section
variable {P : Program} {w : World} {A : Around} {E : Value → Shared → Prop} {s : Shared} {a : Addr} {S : Str → Bool} {n : Nat}
theorem put_at {h : Heap} {ob : Obj} {xs ys : Array (Int × Value)} {ep : Nat} {tb tc : SetTable} (hob : h.get? a = some ob) (hd : ob.data = .set xs ep tb) :
    (h.update a (Obj.putSet ys tc)).get? a = some { ob with data := .set ys (ep + 1) tc } := by
  have q := Heap.get?_update_self (Obj.putSet ys tc) hob (by rw [putSet_of ys tc hd]; rfl)
  rwa [putSet_of ys tc hd] at q
theorem add_tail {g : Bool → Sem Unit} (hg : ∀ (b : Bool) (s₁ : Shared) (R' : Unit → Shared → Prop), R' () s₁ → wpAny (model P w) A (g b) R' E s₁)
    {ob : Obj} {xs : Array (Int × Value)} {ep : Nat} {tb : SetTable} (hob : s.heap.get? a = some ob) (hex : ob.ExactSet) (hd : ob.data = .set xs ep tb) {ys : Array (Int × Value)} {tc : SetTable} (x : XOk w ys tc S) {dm : Bool} {R : Option Bool → Shared → Prop}
    (hR : ∀ h', Heap.SameBut a s.heap h' → SetX w h' a S ys.size → R (some true) { s with heap := h' }) :
    wpAny (model P w) A (do
        storeSet a ys tc
        if (!dm && tc.tooFull) = true then do
            g (relayAll tc ys (SetTable.grown ys.size)).2.2
            storeSet a (relayAll tc ys (SetTable.grown ys.size)).1 (relayAll tc ys (SetTable.grown ys.size)).2.1
            pure (some true)
          else pure (some true)) R E s := by
  refine wpAny_bind (wpAny_storeSet_of hob hd ?_ (fits_of_scanBound x.few))
  have hob1 := put_at (ys := ys) (tc := tc) hob hd
  have sb1 := Heap.SameBut.update s.heap a (Obj.putSet ys tc)
  split
  · have pr := relayAll_perm tc ys (SetTable.grown ys.size)
    have e1 := relayAll_fits tc ys (SetTable.grown ys.size)
    have e2 := relayAll_ris tc ys (SetTable.grown ys.size)
    have e3 := relayAll_led tc ys (SetTable.grown ys.size)
    generalize relayAll tc ys (SetTable.grown ys.size) = Z at pr e1 e2 e3 ⊢
    obtain ⟨zs, td, gave⟩ := Z
    dsimp only at pr e1 e2 e3 ⊢
    have hsz : zs.size = ys.size := by rw [← Array.length_toList, pr.length_eq, Array.length_toList]
    have hb2 : zs.size < scanBound := by rw [hsz]; exact x.few
    refine wpAny_bind (hg _ _ _ (wpAny_bind (wpAny_storeSet_of hob1 rfl ?_ (fits_of_scanBound hb2))))
    refine wpAny_pure (hR _ (sb1.trans (Heap.SameBut.update _ a _)) ⟨_, zs, _, td, put_at (ys := zs) (tc := td) hob1 rfl, hex, rfl, ?_, hsz⟩)
    exact ⟨fun p hp => x.ok p (pr.mem_iff.mp hp), (pr.map kyT).nodup_iff.mpr x.nd, fun k => (x.mem k).trans (pr.map kyT).mem_iff.symm, hb2, e1, e2, x.led.imp id fun z => by rw [e3]; exact z⟩
  · exact wpAny_pure (hR _ sb1 ⟨_, ys, _, tc, hob1, hex, rfl, x, rfl⟩)
theorem add_hashed {k : Str} {u : Tok} {Q : Bool → Shared → Prop} (R : SetX w s.heap a S n) (room : n + 1 < scanBound)
    (hQ : ∀ h' m, Heap.SameBut a s.heap h' → SetX w h' a (fun j => S j || decide (j = k)) m → m ≤ n + 1 → Q (!S k) { s with heap := h' }) :
    wpAny (model P w) A (setAddHashed a (.str k u) ((PySem.strKind P w).hash k)) Q E s := by
  obtain ⟨ob, xs, ep, tb, hob, hex, hd, x, hn⟩ := R
  have hkey : (PySem.strKind P w).is k (.str k u) = true := PySem.strKind_is P w k u
  have hsc : (Value.str k u).scannable = true := rfl
  have hel : ElemsOf (PySem.strKind P w) xs.toList := okT_elems x.ok
  rw [setAddHashed]; unfold setAddHashedIn
  refine wpAny_holding (wpAny_bind (wpAny_setState_of hob hd x.fit ?_))
  dsimp only
  rw [byScan_of hsc x.few hel]
  simp only [↓reduceIte]
  unfold setAddByScan
  refine wpAny_bind ?_
  refine wpAny_bind (wpAny_rule (wpAny_bind (wpAny_setScan_of hkey hob hd x.fit hel ?_)))
  cases hfi : List.findIdx? (fun p => (PySem.strKind P w).is k p.2) xs.toList with
  | some j =>
    dsimp only
    obtain ⟨hj, pj, _⟩ := List.findIdx?_eq_some_iff_getElem.mp hfi
    have hSk : S k = true := (x.mem k).2 ((okT_mem (P := P) (w := w) x.ok k).2 ⟨xs.toList[j], List.getElem_mem hj, pj⟩)
    refine wpAny_pure (wpAny_pure ?_)
    have q := hQ s.heap n (Heap.SameBut.refl a s.heap) ⟨ob, xs, ep, tb, hob, hex, hd, ⟨x.ok, x.nd, fun i => by
      rw [Bool.or_eq_true, decide_eq_true_eq, ← x.mem i]
      exact ⟨fun z => z.elim id (fun z2 => z2 ▸ hSk), .inl⟩, x.few, x.fit, x.ris, x.led⟩, hn⟩ (Nat.le_succ n)
    rwa [hSk] at q
  | none =>
    dsimp only
    have hnk : k ∉ xs.toList.map kyT := fun z => by
      obtain ⟨p, hp, q⟩ := (okT_mem (P := P) (w := w) x.ok k).1 z
      have c := List.findIdx?_eq_none_iff.mp hfi p hp
      rw [q] at c; cases c
    have hSk : S k = false := by
      cases q : S k with
      | false => rfl
      | true => exact absurd ((x.mem k).1 q) hnk
    have hgw : ∀ (b : Bool) {s₁ : Shared} {R' : Unit → Shared → Prop}, R' () s₁ → wpAny (model P w) A (match b with | true => rule "set.scan.the-table-gave-way" | false => pure ()) R' E s₁ :=
      fun b s₁ R' q => by cases b <;> first | exact wpAny_pure q | exact wpAny_rule q
    have pr := layNew_perm tb xs ((PySem.strKind P w).hash k) (.str k u)
    have e1 := layNew_fits tb xs ((PySem.strKind P w).hash k) (.str k u)
    have e2 := layNew_ris tb xs ((PySem.strKind P w).hash k) (.str k u) x.ris
    have e3 := layNew_led tb xs ((PySem.strKind P w).hash k) (.str k u)
    generalize layNew tb xs ((PySem.strKind P w).hash k) (.str k u) = Z at pr e1 e2 e3 ⊢
    obtain ⟨ys, tc, dm, gave⟩ := Z
    dsimp only at pr e1 e2 e3 ⊢
    rw [Array.toList_push] at pr
    have pc : ys.toList.Perm (((PySem.strKind P w).hash k, Value.str k u) :: xs.toList) := pr.trans (List.perm_append_singleton _ _)
    have pk : (ys.toList.map kyT).Perm (k :: xs.toList.map kyT) := pc.map kyT
    have hsz : ys.size = n + 1 := by rw [← Array.length_toList, pc.length_eq, List.length_cons, Array.length_toList, hn]
    have y0 : ∀ td : SetTable, td.fits ys.size = true → Ris td.place.toList → td.led = tb.led → XOk w ys td (fun j => S j || decide (j = k)) := fun td f1 f2 f3 =>
      ⟨fun p hp => by
        rcases List.mem_cons.mp (pc.mem_iff.mp hp) with z | z
        · rw [z]; exact ⟨k, u, rfl, rfl⟩
        · exact x.ok p z, pk.nodup_iff.mpr (List.nodup_cons.mpr ⟨hnk, x.nd⟩), fun i => by
        rw [Bool.or_eq_true, decide_eq_true_eq, x.mem i, pk.mem_iff, List.mem_cons]
        exact Or.comm, by rw [hsz]; exact room, f1, f2, x.led.imp id fun z => by rw [f3]; exact z⟩
    have fin : ∀ h', Heap.SameBut a s.heap h' → SetX w h' a (fun j => S j || decide (j = k)) ys.size → Q true { s with heap := h' } := fun h' sb r => by
      have q := hQ h' ys.size sb r (by omega)
      rwa [hSk] at q
    refine wpAny_bind (hgw _ ?_)
    split
    · refine wpAny_bind ?_
      rw [hashByValue_scannable 8 hsc]
      refine wpAny_pure (add_tail ?_ hob hex hd (y0 _ ?_ ?_ ?_) ?_)
      · intro b s₁ R' q; cases b <;> first | exact wpAny_pure q | exact wpAny_rule q
      · first | (split <;> first | exact e1 | exact SetTable.fits_plain_off e1) | exact e1
      · first | (split <;> exact e2) | exact e2
      · first | (split <;> exact e3) | exact e3
      · intro h' sb r; dsimp only; exact wpAny_pure (fin h' sb r)
    · refine wpAny_bind (wpAny_pure ?_)
      simp only [↓reduceIte]
      refine add_tail ?_ hob hex hd (y0 _ e1 e2 e3) ?_
      · intro b s₁ R' q; cases b <;> first | exact wpAny_pure q | exact wpAny_rule q
      · intro h' sb r; dsimp only; exact wpAny_pure (fin h' sb r)
/-! set(list of texts) -/
theorem fresh_x {h : Heap} (hob : h.get? a = some { cls := .type "set", dict := none, data := .set #[] 0 (.fresh 0 0 (!w.params.followText "set-order")) }) : SetX w h a (fun _ => false) 0 :=
  ⟨_, #[], 0, _, hob, ⟨rfl, rfl, rfl⟩, rfl, ⟨(fun p hp => by simp at hp), (by simp), (fun k => by simp), (by decide), (by rfl), List.Pairwise.nil, by
    show _ ∨ (!w.params.followText "set-order") = true
    cases w.params.followText "set-order"
    · exact .inr rfl
    · exact .inl rfl⟩, rfl⟩
/-- the first i texts are in -/
def Has (w : World) (h : Heap) (a : Addr) (ts : List Str) : Prop := ∃ n, n ≤ ts.length ∧ SetX w h a (fun k => decide (k ∈ ts)) n
theorem Has.at {h h' : Heap} {ts : List Str} (R : Has w h a ts) (k : ∀ o, h.get? a = some o → h'.get? a = some o) : Has w h' a ts := by
  obtain ⟨n, hn, R⟩ := R
  exact ⟨n, hn, R.at k⟩
theorem loop_x {R : Result → Shared → Prop} {it : Addr} {fp wr : List Addr} {G : Array GenState → Array GenState → Prop} {n : Nat} {Pv : Nat → Value → Prop} {St : Nat → Shared → Prop}
    (W : WalksS P w A.in1 it fp wr G n Pv St) (ha : a ∉ fp) (ts : List Str) (hn : ts.length = n) (hb : n + 1 < scanBound) (hval : ∀ i v, Pv i v → ∃ k u, ts[i]? = some k ∧ v = .str k u) :
    ∀ (d i : Nat) (s : Shared), n - i = d → i ≤ n → St i s → Has w s.heap a (ts.take i) → (∀ s', Moved (a :: wr) G s s' → Has w s'.heap a ts → R (.ok (.ret .none)) s') →
      codeAny (model P w) A (.builtin "set.update.loop" ⟨[.ref a, .ref it], []⟩) R s := by
  have haw : a ∉ wr := fun z => ha (W.sub _ z)
  have up : ∀ b ∈ wr, b ∈ a :: wr := fun b z => List.mem_cons_of_mem _ z
  intro d
  induction d with
  | zero =>
    intro i s hd hi hst hs hR
    obtain rfl : i = n := by omega
    refine codeAny_builtin F.entry_set_update_loop ?_
    rw [Around.under_plainId F.plain_set_update_loop _]
    show wpAny _ A.in1 (pyNext (.ref it) >>= _) _ _ s
    refine wpAny_bind (W.done s _ _ hst fun s' hm => wpAny_pure (hR s' (hm.mono up) ?_))
    rw [← hn, List.take_length] at hs
    exact hs.at fun o e => hm.heap a o haw e
  | succ d ih =>
    intro i s hd hi hst hs hR
    have hlt : i < n := by omega
    refine codeAny_builtin F.entry_set_update_loop ?_
    rw [Around.under_plainId F.plain_set_update_loop _]
    show wpAny _ A.in1 (pyNext (.ref it) >>= _) _ _ s
    refine wpAny_bind (W.item i s _ _ hlt hst fun v s' hP hst' hm => ?_)
    obtain ⟨k, u, hk, rfl⟩ := hval i v hP
    obtain ⟨m, hml, hs'⟩ := hs.at (h' := s'.heap) fun o e => hm.heap a o haw e
    have htl : (ts.take i).length ≤ n := by rw [List.length_take]; omega
    show wpAny _ A.in1 (holding [Value.str k u] (setAdd a (.str k u)) >>= _) _ _ s'
    refine wpAny_bind (wpAny_holding ?_)
    unfold setAdd
    refine wpAny_holding (wpAny_bind ((PySem.strKind P w).pyHash (k := k) (PySem.strKind_is P w k u) ?_))
    refine add_hashed (s := { s' with toks := s'.toks + 1 }) hs' (by omega) fun h' m' sb r hm' => ?_
    have hs2 : Has w h' a (ts.take (i + 1)) := by
      have e1 : ts.take (i + 1) = ts.take i ++ [k] := by
        obtain ⟨hl, rfl⟩ := List.getElem?_eq_some_iff.mp hk
        exact List.take_succ_eq_append_getElem hl
      refine ⟨m', by rw [e1, List.length_append, List.length_singleton]; omega, ?_⟩
      have e2 : (fun j => decide (j ∈ ts.take i) || decide (j = k)) = fun j => decide (j ∈ ts.take (i + 1)) := by
        funext j
        rw [e1, Bool.eq_iff_iff, Bool.or_eq_true, decide_eq_true_eq, decide_eq_true_eq, decide_eq_true_eq, List.mem_append, List.mem_singleton]
      rwa [e2] at r
    refine wpAny_pure ⟨plainId_quiet F.plain_set_update_loop _, ih (i + 1) _ (by omega) hlt (W.frame _ s' _ _ hst' (Nat.le_succ _) fun b hb o e => ?_) hs2 fun s'' hm'' h2 => ?_⟩
    · rw [sb.2 b (fun z : b = a => ha (by rw [← z]; exact hb))]; exact e
    · refine hR s'' (Moved.trans W.gtrans ((hm.mono up).then_heap (Nat.le_succ _) fun b o hb e => ?_) hm'') h2
      rw [sb.2 b (fun z : b = a => hb (by rw [z]; exact List.mem_cons_self))]; exact e
end
section
variable {P : Program} {w : World} {A : Around} {E : Value → Shared → Prop} {s : Shared}
set_option maxHeartbeats 6400000 in
theorem call_set {l : Addr} {its : Array Value} {ts : List Str} {Q : Value → Shared → Prop} (hh : A.handled = none) (hl : s.heap.IsList l its) (hi : StrsAre its.toList ts) (hb : ts.length + 1 < scanBound)
    (hq : ∀ (h' : Heap) (tk : Nat), Has w h' s.heap.objs.size ts → (∀ b o, s.heap.get? b = some o → h'.get? b = some o) → Q (.ref s.heap.objs.size) { s with heap := h', toks := tk }) :
    wpAny (model P w) A (call (.type "set") [.ref l]) Q E s := by
  have hsz : ts.length = its.size := by rw [← StrsAre.len_eq hi, Array.length_toList]
  obtain ⟨c, tl, hmro⟩ := PySem.F.called_set.mro
  have hmade := PySem.F.called_set.made; have hsub := PySem.F.called_set.sub
  refine wpAny_call (codeAny_of_tree ?_)
  show wpAny _ _ (callAny (.type "set") _) _ _ _
  refine wpAny_pure ⟨Code.quiet_builtin _ (by decide +kernel), codeAny_builtin PySem.F.entry_type_call ?_⟩
  rw [Around.under_plain (weight_type_call_type "set" [.ref l] []) rfl]
  have h1 := PySem.F.called_set.notType; have h2 := PySem.F.called_set.canCreate; have hct := PySem.F.typeCall_set_1 (.ref l)
  repeat (any_goals (first | assumption | wp_step))
  generalize hfr : (!w.params.followText "set-order") = led
  refine codeAny_mono (code_set_led1 (.ref l) (E := E) (Q₁ := fun z s₁ => z = .ref s.heap.objs.size ∧ s₁ = { s with heap := s.heap.push { cls := .type "set", dict := none, data := .set #[] 0 (.fresh 0 0 led) } }) ⟨rfl, by rw [← hfr]⟩) fun r s₁ hr => ?_
  cases r with
  | error e => exact hr
  | ok fl =>
    cases fl with
    | ret z =>
      obtain ⟨rfl, rfl⟩ := hr
      have hS : (s.heap.push { cls := .type "set", dict := none, data := .set #[] 0 (.fresh 0 0 led) }).get? s.heap.objs.size = some { cls := .type "set", dict := none, data := .set #[] 0 (.fresh 0 0 led) } := Heap.get?_push_size _ rfl
      have hT : Shared.TypeIs { s with heap := s.heap.push { cls := .type "set", dict := none, data := .set #[] 0 (.fresh 0 0 led) } } (.ref s.heap.objs.size) "set" := ⟨_, hS, rfl⟩
      have hli := PySem.F.called_set.init.lookup; have hbi := PySem.F.called_set.init.bind (.ref s.heap.objs.size)
      repeat (any_goals (first | assumption | wp_step))
      refine codeAny_mono (codeAny_call_builtin (R := wants (fun r s₂ => r = .none ∧ ∃ h' tk, s₂ = { s with heap := h', toks := tk } ∧ Has w h' s.heap.objs.size ts ∧ (∀ b o, s.heap.get? b = some o → h'.get? b = some o)) E)
        PySem.F.called_set.init.plain PySem.F.entry_set_init (check_set_init_1 hT ?_)) fun r₂ s₂ hr₂ => ?_
      · obtain ⟨ol, hol, hcl, nl, hdl⟩ := hl
        obtain ⟨oc, od, odat, osl⟩ := ol
        simp only at hcl hdl
        subst hcl; subst hdl
        have hol' : (s.heap.push { cls := .type "set", dict := none, data := .set #[] 0 (.fresh 0 0 led) }).get? l = some { cls := .type "list", dict := od, data := .seq its nl, slots := osl } := Heap.get?_push_of_some _ hol
        have hsls := PySem.F.sub_list_set; have hslf := PySem.F.sub_list_frozenset
        have hne : (Value.type "list" == Value.type "dict") = false := by decide
        have hl1 : (s.heap.push { cls := .type "set", dict := none, data := .set #[] 0 (.fresh 0 0 led) }).IsList l its := ⟨_, hol', rfl, nl, rfl⟩
        rw [Builtin.«set.__init__»]; unfold noKeywords Builtin.Frozenset.updateFrom
        generalize hPI : pyIter = PI
        wp_walk
        subst hPI
        refine wpAny_pyIter_list hl1 ?_
        refine wpAny_bind (wpAny_runValue ?_)
        have hlS : l < s.heap.objs.size := Heap.lt_size hol
        have hh3 : A.in1.in1.in1.handled = none := by simp [hh]
        have hneI : l ≠ (s.heap.push { cls := .type "set", dict := none, data := .set #[] 0 (.fresh 0 0 led) }).objs.size := by
          rw [Heap.size_push]; exact Nat.ne_of_lt (Nat.lt_succ_of_lt hlS)
        have hSf : s.heap.objs.size ∉ [(s.heap.push { cls := .type "set", dict := none, data := .set #[] 0 (.fresh 0 0 led) }).objs.size, l] := by
          rw [Heap.size_push]; simp only [List.mem_cons, List.not_mem_nil, or_false, not_or]
          exact ⟨Nat.ne_of_lt (Nat.lt_succ_self _), Nat.ne_of_gt hlS⟩
        have hval : ∀ (i : Nat) (v : Value), its[i]? = some v → ∃ k u, ts[i]? = some k ∧ v = .str k u := fun i v hv => by
          have q : its.toList[i]? = some v := by rw [Array.getElem?_toList]; exact hv
          obtain ⟨hil, _⟩ := List.getElem?_eq_some_iff.mp q
          have hil2 : i < ts.length := by rw [hsz, ← Array.length_toList]; exact hil
          obtain ⟨u, e⟩ := SS.strs_at hi i v q
          exact ⟨_, u, List.getElem?_eq_getElem hil2, by rw [e, List.getD_eq_getElem?_getD, List.getElem?_eq_getElem hil2]; rfl⟩
        refine loop_x ((Walks.list hh3 _ l hneI its).toS) hSf ts hsz (by omega) hval (its.size - 0) 0 _ (by omega) (Nat.zero_le _) ⟨⟨_, Heap.get?_push_size _ rfl, rfl, rfl⟩, (hl1.push _)⟩ ?hS0 ?hR
        case hS0 =>
          rw [List.take_zero]
          subst hfr
          refine ⟨0, Nat.le_refl _, ?_⟩
          have := fresh_x (w := w) (a := s.heap.objs.size) (h := ((s.heap.push { cls := .type "set", dict := none, data := .set #[] 0 (.fresh 0 0 (!w.params.followText "set-order")) }).push { cls := .type "list_iterator", data := .fields #[.ref l, .int 0 0] })) (Heap.get?_push_of_some _ hS)
          exact this
        case hR =>
          intro s' hm hS'
          obtain ⟨h', g', d', tk', os'⟩ := s'
          obtain rfl : g' = s.gens := hm.gens
          obtain rfl : d' = s.drawn := hm.drawn
          obtain rfl : os' = s.os := hm.os
          show wpAny _ _ _ _ _ _
          refine wpAny_pure ?_
          show wpAny _ _ (ret Value.none) _ _ _
          refine wpAny_pure ⟨rfl, h', tk', rfl, hS', fun b o e => ?_⟩
          have hb : b < s.heap.objs.size := Heap.lt_size e
          exact hm.heap b o (by rw [Heap.size_push]; simp only [List.mem_cons, List.not_mem_nil, or_false, not_or]; exact ⟨Nat.ne_of_lt hb, Nat.ne_of_lt (Nat.lt_succ_of_lt hb)⟩) (Heap.get?_push_of_some _ (Heap.get?_push_of_some _ e))
      · cases r₂ with
        | error e => exact hr₂
        | ok fl₂ =>
          cases fl₂ with
          | ret r =>
            obtain ⟨rfl, h', tk, rfl, hS', hk'⟩ := hr₂
            repeat (any_goals (first | assumption | wp_step))
            exact hq _ _ hS' hk'
          | _ => exact hr₂.elim
    | _ => exact hr.elim
/-! sorted(the set) -/
theorem strs_of : ∀ (l : List Value), (∀ v ∈ l, ∃ k u, v = Value.str k u) → StrsAre l (l.map strOf)
  | [], _ => .nil
  | v :: l, h => by
    obtain ⟨k, u, rfl⟩ := h v List.mem_cons_self
    exact .cons k u (strs_of l fun z hz => h z (List.mem_cons_of_mem _ hz))
theorem sorted_x {a : Addr} {S : Str → Bool} {n : Nat} {Q : Value → Shared → Prop} (R : SetX w s.heap a S n) (hh : A.handled = none) (h64 : n < 64)
    (hq : ∀ s' p (out : Array Value) (c : Nat) (ks : List Str), (∀ b o, s.heap.get? b = some o → s'.heap.get? b = some o) → s'.gens = s.gens → s'.os = s.os → s.heap.objs.size ≤ p →
      s'.heap.get? p = some (seqObj "list" out c) → StrsAre out.toList ks → sortedS ks = true → ks.Nodup → (∀ k, k ∈ ks ↔ S k = true) → ks.length = n → Q (.ref p) s') :
    wpAny (model P w) A (call (.builtin "sorted") [.ref a]) Q E s := by
  obtain ⟨ob, xs, ep, tb, hob, hex, hd, x, hn⟩ := R
  refine Calls.call_function_entry kind_sorted plain_sorted entry_sorted (args_sorted1 _) ?_
  unfold Builtin.«sorted»
  refine wpAny_bind (m := checkCount "sorted" 1 1 _) (wpAny_pure (wpAny_bind (collect_set (A := A.in1) hh ⟨ob, hob, hex.1, hd⟩ x.fit x.few x.ris x.led fun s1 vs k1 hz g1 o1 pm => ?_)))
  have hvl : vs.length = n := by rw [pm.length_eq, List.length_map, Array.length_toList]; exact hn
  have hI : StrsAre vs (vs.map strOf) := strs_of vs fun v hv => by
    obtain ⟨p, hp, q⟩ := List.mem_map.mp (pm.mem_iff.mp hv)
    obtain ⟨k, u, h1, _⟩ := x.ok p hp
    exact ⟨k, u, by rw [← q]; exact h1⟩
  have pk : (vs.map strOf).Perm (xs.toList.map kyT) := by
    have q := pm.map strOf
    rw [List.map_map] at q
    refine q.trans (List.Perm.of_eq (List.map_congr_left fun p hp => ?_))
    obtain ⟨k, u, h1, _⟩ := x.ok p hp
    unfold kyT
    show strOf p.2 = _
    rw [h1]; rfl
  refine wpAny_bind (wpAny_newList ?_ (by rw [hvl, sizeLine_eq]; omega))
  have hoL : (s1.heap.push (seqObj "list" vs.toArray 0)).get? s1.heap.objs.size = some (seqObj "list" vs.toArray 0) := Heap.get?_push_size _ rfl
  refine wpAny_bind (wpAny_holding (wpAny_call_entry slot_list_sort ⟨_, hoL, rfl⟩ entry_list_sort (list_sort_treeK strKind_oneLt hoL hI.keysOf (fun v₁ v₂ rest z => keyKind_strs (by rw [← z]; exact hI)) (by rw [hvl]; exact h64) fun st' hp hs => ⟨_, rfl, ?_⟩) (args_list_sort _)))
  obtain ⟨c, hc⟩ := sortedHeap_at (vs := vs) (out := (arrOf st').map (·.2)) hoL
  obtain ⟨ks, a1, a2, a3⟩ := sorted_out_str hI hp hs
  have pn : ks.Perm (xs.toList.map kyT) := a2.trans pk
  refine wpAny_pure ⟨_, rfl, hq _ s1.heap.objs.size _ c ks (fun b z e => ?_) g1 o1 hz hc a1 a3 (pn.nodup_iff.mpr x.nd) (fun k => by rw [pn.mem_iff, ← x.mem k]) ?_⟩
  · have q := k1 b z e
    have hlt := Heap.lt_size q
    show (sortedHeap (s1.heap.push (seqObj "list" vs.toArray 0)) s1.heap.objs.size vs ((arrOf st').map (·.2))).get? b = some z
    rw [sortedHeap_old (Nat.ne_of_lt hlt) (by rw [size_push']; exact Nat.lt_succ_of_lt hlt)]
    exact Heap.get?_push_of_some _ q
  · rw [pn.length_eq, List.length_map, Array.length_toList]; exact hn
end
end STX
/-! as tracked things -/
def SetXO (w : World) (a : Addr) (ts : List Str) : HO := .ext fun h => STX.Has w h a ts
theorem setXO_new {w : World} {P : Program} {H : Hp} {h : Heap} {a : Addr} {ts : List Str} (R : STX.Has w h a ts) : ObjOk P w H h a (SetXO w a ts) := by
  have ⟨_, _, ob, _, _, _, hob, _⟩ := R
  exact ⟨R, ⟨ob, hob⟩, fun h1 h2 p k => STX.Has.at p k⟩
def rSetX (K : PySem.W.Frag) (w : World) : List V → Hp → VK → Prop := fun xs H Q => ∃ (l : Addr) (ts : List Str), xs = [V.ref l] ∧ SqL K H l (ts.map V.str) ∧ ts.length < 64 ∧ ∀ a, H a = none → Q (.ref a) (upd H a (SetXO w a ts))
def rSortX (w : World) : List V → Hp → VK → Prop := fun xs H Q => ∃ (a : Addr) (ts : List Str), xs = [V.ref a] ∧ H a = some (SetXO w a ts) ∧ ts.length < 64 ∧ ∀ ks : List Str, sortedS ks = true → ks.Nodup → (∀ k, k ∈ ks ↔ k ∈ ts) → ks.length < 64 → NewO (.lst (ks.map V.str)) H Q
section
variable {X : Cx} {K : PySem.W.Frag}
theorem call_setX (hK : X.K = K) (hc : X.calm = true) : CallR X (.type "set") (rSetX K X.w) := by
  subst hK
  intro pins s σ H xs us Q I r h
  obtain ⟨l, ts, rfl, hl, hf, q⟩ := h
  rw [Vals.ref1 r]
  obtain ⟨its, rv, pl, hz⟩ := I.list hl
  have hn : H s.heap.objs.size = none := I.hok.fresh (Nat.le_refl _)
  refine STX.call_set (P := X.prog) (w := X.w) (I.ok.hd hc) pl.isList (by simpa using rv.strs) (by unfold scanBound; omega) fun h' tk R k => ?_
  exact ⟨.ref s.heap.objs.size, upd H s.heap.objs.size (SetXO X.w s.heap.objs.size ts), I.laid (t' := tk) k (Nat.le_refl _) (setXO_new R), rfl, q _ hn⟩
theorem call_sortX (hc : X.calm = true) : CallR X (.builtin "sorted") (rSortX X.w) := by
  intro pins s σ H vs us Q I r h
  obtain ⟨a, ts, rfl, ha, hf, q⟩ := h
  obtain ⟨n, hn, R⟩ : STX.Has X.w s.heap a ts := (I.hok a _ ha).1
  rw [Vals.ref1 r]
  refine STX.sorted_x (P := X.prog) R (I.ok.hd hc) (by omega) fun s' p out c ks k g o hp hg h1 h2 h3 h4 h5 => ?_
  have hlen : (ks.map V.str).length ≤ sizeLine := by rw [List.length_map, sizeLine_eq]; omega
  have J : Inv X pins σ (upd H p (.lst (ks.map V.str))) { s with heap := s'.heap, gens := s'.gens, drawn := s'.drawn, toks := s'.toks } :=
    I.call (ch := []) (Un.laid k hp (I.hok.fresh hp)) (I.hok.laid k hp ⟨hlen, out.toList, c, vals_of_strs h1, hg⟩) (by rw [g]; exact I.bare) (fun _ z => nomatch z)
  have e : s' = { s with heap := s'.heap, gens := s'.gens, drawn := s'.drawn, toks := s'.toks } := by
    cases s'; cases s; cases o; rfl
  rw [e]
  exact ⟨.ref p, _, J, rfl, q ks h2 h3 (fun k => (h4 k).trans (decide_eq_true_iff)) (by omega) p (I.hok.fresh hp)⟩
end
end

end J
namespace J
open PySem PySem.Spec PyProof.Rows L2
--plain
/-! ### set(list of ints), sorted(such a set), any number of them -/
section
open PySem PySem.Spec PyProof.Rows
namespace STI
section
variable {P : Program} {w : World} {A : Around} {E : Value → Shared → Prop} {s : Shared}
set_option maxHeartbeats 6400000 in
theorem call_set {l : Addr} {its : Array Value} {ns : List Int} {Q : Value → Shared → Prop} (hh : A.handled = none) (hl : s.heap.IsList l its) (hi : IntsAre its.toList ns) (hb : ns.length + 1 < scanBound)
    (hq : ∀ (h' : Heap) (tk tc : Nat), SetR w h' s.heap.objs.size (fun j => decide (j ∈ ns)) tc → tc ≤ ns.length → (∀ b o, s.heap.get? b = some o → h'.get? b = some o) → Q (.ref s.heap.objs.size) { s with heap := h', toks := tk }) :
    wpAny (model P w) A (call (.type "set") [.ref l]) Q E s := by
  have hsz : ns.length = its.size := by rw [← IntsAre.length hi, Array.length_toList]
  obtain ⟨c, tl, hmro⟩ := PySem.F.called_set.mro
  have hmade := PySem.F.called_set.made; have hsub := PySem.F.called_set.sub
  refine wpAny_call (codeAny_of_tree ?_)
  show wpAny _ _ (callAny (.type "set") _) _ _ _
  refine wpAny_pure ⟨Code.quiet_builtin _ (by decide +kernel), codeAny_builtin PySem.F.entry_type_call ?_⟩
  rw [Around.under_plain (weight_type_call_type "set" [.ref l] []) rfl]
  have h1 := PySem.F.called_set.notType; have h2 := PySem.F.called_set.canCreate; have hct := PySem.F.typeCall_set_1 (.ref l)
  repeat (any_goals (first | assumption | wp_step))
  generalize hfr : (!w.params.followText "set-order") = led
  refine codeAny_mono (code_set_led1 (.ref l) (E := E) (Q₁ := fun z s₁ => z = .ref s.heap.objs.size ∧ s₁ = { s with heap := s.heap.push { cls := .type "set", dict := none, data := .set #[] 0 (.fresh 0 0 led) } }) ⟨rfl, by rw [← hfr]⟩) fun r s₁ hr => ?_
  cases r with
  | error e => exact hr
  | ok fl =>
    cases fl with
    | ret z =>
      obtain ⟨rfl, rfl⟩ := hr
      have hS : (s.heap.push { cls := .type "set", dict := none, data := .set #[] 0 (.fresh 0 0 led) }).get? s.heap.objs.size = some { cls := .type "set", dict := none, data := .set #[] 0 (.fresh 0 0 led) } := Heap.get?_push_size _ rfl
      have hT : Shared.TypeIs { s with heap := s.heap.push { cls := .type "set", dict := none, data := .set #[] 0 (.fresh 0 0 led) } } (.ref s.heap.objs.size) "set" := ⟨_, hS, rfl⟩
      have hli := PySem.F.called_set.init.lookup; have hbi := PySem.F.called_set.init.bind (.ref s.heap.objs.size)
      repeat (any_goals (first | assumption | wp_step))
      refine codeAny_mono (codeAny_call_builtin (R := wants (fun r s₂ => r = .none ∧ ∃ h' tk tc, s₂ = { s with heap := h', toks := tk } ∧ SetR w h' s.heap.objs.size (fun j => decide (j ∈ ns)) tc ∧ tc ≤ ns.length ∧ (∀ b o, s.heap.get? b = some o → h'.get? b = some o)) E)
        PySem.F.called_set.init.plain PySem.F.entry_set_init (check_set_init_1 hT ?_)) fun r₂ s₂ hr₂ => ?_
      · obtain ⟨ol, hol, hcl, nl, hdl⟩ := hl
        obtain ⟨oc, od, odat, osl⟩ := ol
        simp only at hcl hdl
        subst hcl; subst hdl
        have hol' : (s.heap.push { cls := .type "set", dict := none, data := .set #[] 0 (.fresh 0 0 led) }).get? l = some { cls := .type "list", dict := od, data := .seq its nl, slots := osl } := Heap.get?_push_of_some _ hol
        have hsls := PySem.F.sub_list_set; have hslf := PySem.F.sub_list_frozenset
        have hne : (Value.type "list" == Value.type "dict") = false := by decide
        have hl1 : (s.heap.push { cls := .type "set", dict := none, data := .set #[] 0 (.fresh 0 0 led) }).IsList l its := ⟨_, hol', rfl, nl, rfl⟩
        rw [Builtin.«set.__init__»]; unfold noKeywords Builtin.Frozenset.updateFrom
        generalize hPI : pyIter = PI
        wp_walk
        subst hPI
        refine wpAny_pyIter_list hl1 ?_
        refine wpAny_bind (wpAny_runValue ?_)
        have hlS : l < s.heap.objs.size := Heap.lt_size hol
        have hh3 : A.in1.in1.in1.handled = none := by simp [hh]
        have hneI : l ≠ (s.heap.push { cls := .type "set", dict := none, data := .set #[] 0 (.fresh 0 0 led) }).objs.size := by
          rw [Heap.size_push]; exact Nat.ne_of_lt (Nat.lt_succ_of_lt hlS)
        have hSf : s.heap.objs.size ∉ [(s.heap.push { cls := .type "set", dict := none, data := .set #[] 0 (.fresh 0 0 led) }).objs.size, l] := by
          rw [Heap.size_push]; simp only [List.mem_cons, List.not_mem_nil, or_false, not_or]
          exact ⟨Nat.ne_of_lt (Nat.lt_succ_self _), Nat.ne_of_gt hlS⟩
        have hval : ∀ (i : Nat) (v : Value), its[i]? = some v → ∃ k u, ns[i]? = some k ∧ v = .int k u := fun i v hv => by
          have q : its.toList[i]? = some v := by rw [Array.getElem?_toList]; exact hv
          obtain ⟨hil, _⟩ := List.getElem?_eq_some_iff.mp q
          have hil2 : i < ns.length := by rw [hsz, ← Array.length_toList]; exact hil
          obtain ⟨u, e⟩ := PyProof.Rows.IntsAre.int_at hi i v q
          exact ⟨_, u, List.getElem?_eq_getElem hil2, by rw [e, List.getD_eq_getElem?_getD, List.getElem?_eq_getElem hil2]; rfl⟩
        refine set_update_ints ((Walks.list hh3 _ l hneI its).toS) s.heap.objs.size hSf ns hsz.symm (by omega) hval (its.size - 0) 0 _ (by omega) (Nat.zero_le _) ⟨⟨_, Heap.get?_push_size _ rfl, rfl, rfl⟩, (hl1.push _)⟩ ?hS0 ?hR
        case hS0 =>
          subst hfr
          exact ⟨0, Nat.le_refl _, setR_new_at (w := w) (a := s.heap.objs.size) (Heap.get?_push_of_some _ hS)⟩
        case hR =>
          intro s' c' hm hc' hS'
          obtain ⟨h', g', d', tk', os'⟩ := s'
          obtain rfl : g' = s.gens := hm.gens
          obtain rfl : d' = s.drawn := hm.drawn
          obtain rfl : os' = s.os := hm.os
          show wpAny _ _ _ _ _ _
          refine wpAny_pure ?_
          show wpAny _ _ (ret Value.none) _ _ _
          refine wpAny_pure ⟨rfl, h', tk', c', rfl, hS', (by rw [hsz]; exact hc'), fun b o e => ?_⟩
          have hb : b < s.heap.objs.size := Heap.lt_size e
          exact hm.heap b o (by rw [Heap.size_push]; simp only [List.mem_cons, List.not_mem_nil, or_false, not_or]; exact ⟨Nat.ne_of_lt hb, Nat.ne_of_lt (Nat.lt_succ_of_lt hb)⟩) (Heap.get?_push_of_some _ (Heap.get?_push_of_some _ e))
      · cases r₂ with
        | error e => exact hr₂
        | ok fl₂ =>
          cases fl₂ with
          | ret r =>
            obtain ⟨rfl, h', tk, c', rfl, hS', hc', hk'⟩ := hr₂
            repeat (any_goals (first | assumption | wp_step))
            exact hq _ _ _ hS' hc' hk'
          | _ => exact hr₂.elim
    | _ => exact hr.elim
theorem sorted_i {a : Addr} {S : Int → Bool} {n : Nat} {Q : Value → Shared → Prop} (R : SetR w s.heap a S n) (hh : A.handled = none) (hz0 : n ≤ 10000)
    (hq : ∀ s' p (out : Array Value) (c : Nat) (ns : List Int), (∀ b o, s.heap.get? b = some o → s'.heap.get? b = some o) → s'.gens = s.gens → s'.os = s.os → s.heap.objs.size ≤ p →
      s'.heap.get? p = some (seqObj "list" out c) → IntsAre out.toList ns → ns.Pairwise (· < ·) → (∀ k, k ∈ ns ↔ S k = true) → ns.length = n → Q (.ref p) s') : wpAny (model P w) A (call (.builtin "sorted") [.ref a]) Q E s := by
  obtain ⟨ob, xs, ep, tb, hob, hex, hd, good, nd, mem, few, fit, hn, ris, led⟩ := R
  refine Calls.call_function_entry kind_sorted plain_sorted entry_sorted (args_sorted1 _) ?_
  rw [Builtin.«sorted»]
  refine wpAny_bind (m := checkCount "sorted" 1 1 _) (wpAny_pure (wpAny_bind (collect_set (A := A.in1) hh ⟨ob, hob, hex.1, hd⟩ fit few ris led fun s1 vs k1 hz g1 o1 pm => ?_)))
  have hvl : vs.length = n := by rw [pm.length_eq, List.length_map, Array.length_toList]; exact hn
  have hm : ∀ v ∈ vs, ∃ i t, v = Value.int i t := fun v hv => by
    obtain ⟨e, he, q⟩ := List.mem_map.mp (pm.mem_iff.mp hv)
    obtain ⟨k, tk, h1, _⟩ := good e he
    exact ⟨k, tk, by rw [← q]; exact h1⟩
  have hI := SrtO.ints_iv hm
  have pk : (vs.map SrtO.iv).Perm (xs.toList.map keyOf) := by
    have q := pm.map SrtO.iv
    rw [List.map_map] at q
    refine q.trans (List.Perm.of_eq (List.map_congr_left fun e he => ?_))
    obtain ⟨k, tk, h1, _⟩ := good e he
    show SrtO.iv e.2 = keyOf e
    unfold keyOf
    rw [h1]; rfl
  have small : vs.length ≤ sizeLine := by rw [hvl, sizeLine_eq]; omega
  refine wpAny_bind (wpAny_newList ?_ small)
  have hoL : (s1.heap.push (seqObj "list" vs.toArray 0)).get? s1.heap.objs.size = some (seqObj "list" vs.toArray 0) := Heap.get?_push_size _ rfl
  refine wpAny_bind (wpAny_holding (wpAny_call_entry slot_list_sort ⟨_, hoL, rfl⟩ entry_list_sort (SrtO.list_sort_ord SrtO.swo_int hoL small (fun h2 => SrtO.ints_sortable hI h2) fun out b1 b2 => ⟨_, rfl, ?_⟩) (args_list_sort _)))
  obtain ⟨j1, j2, j3⟩ := SrtO.ints_out hI b1 b2
  obtain ⟨c, hc⟩ := sortedHeap_at (vs := vs) (out := out.toArray) hoL
  have pn : (out.map SrtO.iv).Perm (xs.toList.map keyOf) := j2.trans pk
  refine wpAny_pure ⟨_, rfl, hq _ s1.heap.objs.size out.toArray c (out.map SrtO.iv) (fun b z e => ?_) g1 o1 hz hc (by simpa using j1) (lt_of_le_nodup _ j3 (pn.nodup_iff.mpr nd)) (fun k => by rw [pn.mem_iff, ← mem k]) ?_⟩
  · have q := k1 b z e
    have hlt := Heap.lt_size q
    show (sortedHeap (s1.heap.push (seqObj "list" vs.toArray 0)) s1.heap.objs.size vs out.toArray).get? b = some z
    rw [sortedHeap_old (Nat.ne_of_lt hlt) (by rw [size_push']; exact Nat.lt_succ_of_lt hlt)]
    exact Heap.get?_push_of_some _ q
  · rw [pn.length_eq, List.length_map, Array.length_toList]; exact hn
end
end STI
def rSetI (K : PySem.W.Frag) (w : World) : List V → Hp → VK → Prop := fun xs H Q => ∃ (l : Addr) (ns : List Int), xs = [V.ref l] ∧ SqL K H l (ns.map V.int) ∧ ns.length ≤ 1000 ∧ ∀ a c, H a = none → c ≤ ns.length → Q (.ref a) (upd H a (SetO w a (fun j => decide (j ∈ ns)) c))
def rSortSI (w : World) : List V → Hp → VK → Prop := fun xs H Q => ∃ (a : Addr) (S : Int → Bool) (n : Nat), xs = [V.ref a] ∧ H a = some (SetO w a S n) ∧ n ≤ 1000 ∧ ∀ ns : List Int, ns.Pairwise (· < ·) → (∀ k, k ∈ ns ↔ S k = true) → ns.length = n → NewO (.lst (ns.map V.int)) H Q
section
variable {X : Cx} {K : PySem.W.Frag}
theorem call_setI (hK : X.K = K) (hc : X.calm = true) : CallR X (.type "set") (rSetI K X.w) := by
  subst hK
  intro pins s σ H xs us Q I r h
  obtain ⟨l, ns, rfl, hl, hf, q⟩ := h
  rw [Vals.ref1 r]
  obtain ⟨its, rv, pl, hz⟩ := I.list hl
  have hn : H s.heap.objs.size = none := I.hok.fresh (Nat.le_refl _)
  refine STI.call_set (P := X.prog) (w := X.w) (I.ok.hd hc) pl.isList (by simpa using rv.ints) (by unfold scanBound; omega) fun h' tk tc R hc k => ?_
  exact ⟨.ref s.heap.objs.size, _, I.laid (t' := tk) k (Nat.le_refl _) (setO_new R), rfl, q _ tc hn hc⟩
theorem call_sortSI (hc : X.calm = true) : CallR X (.builtin "sorted") (rSortSI X.w) := by
  intro pins s σ H vs us Q I r h
  obtain ⟨a, S, n, rfl, ha, hf, q⟩ := h
  have R := setO_get I ha
  rw [Vals.ref1 r]
  refine STI.sorted_i (P := X.prog) R (I.ok.hd hc) (by omega) fun s' p out c ns k g o hp hg hi h2 h3 h4 => ?_
  have hlen : (ns.map V.int).length ≤ sizeLine := by rw [List.length_map, sizeLine_eq]; omega
  have J : Inv X pins σ (upd H p (.lst (ns.map V.int))) { s with heap := s'.heap, gens := s'.gens, drawn := s'.drawn, toks := s'.toks } :=
    I.call (ch := []) (Un.laid k hp (I.hok.fresh hp)) (I.hok.laid k hp ⟨hlen, out.toList, c, vals_of_ints hi, hg⟩) (by rw [g]; exact I.bare) (fun _ z => nomatch z)
  have e : s' = { s with heap := s'.heap, gens := s'.gens, drawn := s'.drawn, toks := s'.toks } := by
    cases s'; cases s; cases o; rfl
  rw [e]
  exact ⟨.ref p, _, J, rfl, q ns h2 h3 h4 p (I.hok.fresh hp)⟩
end
theorem w_setI {K : PySem.W.Frag} {w : World} {H : Hp} {Q : VK} {l : Addr} {ns : List Int} (h : SqL K H l (ns.map V.int)) (hl : ns.length ≤ 1000) (k : ∀ a c H', Same H H' → H a = none → c ≤ ns.length → H' a = some (SetO w a (fun j => decide (j ∈ ns)) c) → Q (.ref a) H') : rSetI K w [.ref l] H Q :=
  ⟨l, ns, rfl, h, hl, fun a c ha hc => k a c _ (Same.one ha) ha hc upd_same⟩
theorem w_sortSI {w : World} {H : Hp} {Q : VK} {a : Addr} {S : Int → Bool} {n : Nat} (h : H a = some (SetO w a S n)) (hl : n ≤ 1000) (k : ∀ ns : List Int, ns.Pairwise (· < ·) → (∀ k, k ∈ ns ↔ S k = true) → ns.length = n → NewO (.lst (ns.map V.int)) H Q) : rSortSI w [.ref a] H Q :=
  ⟨a, S, n, rfl, h, hl, k⟩
end

end J
namespace J
open PySem PySem.Spec PyProof.Rows L2
--plain
/-! ### methods of a family of classes; tables of the text; f-strings; ranges from their ends -/
section
open PySem PySem.Spec PyProof.Rows
theorem tk_snoc {α : Type} {l : List α} {j : Nat} {y : α} (h : l[j]? = some y) : l.take (j + 1) = l.take j ++ [y] := by
  obtain ⟨hl, rfl⟩ := List.getElem?_eq_some_iff.mp h
  exact List.take_succ_eq_append_getElem hl
theorem PE.ex {X : Cx} {e : Expr} {α : Type} {p : α → Prop} {t : α → TE} (h : ∀ i, p i → PE X e (t i)) : PE X e (fun σ H Q => ∃ i, p i ∧ t i σ H Q) := ⟨fun pins s σ H Q I q => by
  obtain ⟨i, hi, q⟩ := q
  exact (h i hi).run pins s σ H Q I q⟩
def tMetU (K : PySem.W.Frag) (fam : List Str) (m : Str) (sp : Str → Sp) (to : TE) (t : TA) : TE := fun σ H Q => ∃ C, C ∈ fam ∧ tMet (He.ga K C) m (sp C) to t σ H Q
section
variable {X : Cx} {K : PySem.W.Frag} {fam : List Str} {k : Nat} {ps : List Str} {sp : Str → Sp} {to : TE} {t : TA} {o e : Expr} {es : List Expr} {m : Str} {apos pos : Pos} {pl : Sem Bool}
theorem pe_metU (F : ∀ C ∈ fam, FnA X.prog X.w X.K X.mg (He.ma K (He.ga K C) m) k ps (sp C)) (hK : X.K = K) (cl : ∀ C ∈ fam, Cls K (He.ga K C)) (me : ∀ C ∈ fam, Meth K (He.ga K C) m (He.ma K (He.ga K C) m)) (hr : Room k X.A) (he : PE X o to) (ha : PA X (e :: es) t)
    (hst : starEach (e :: es) X.env = (false, eval e X.env) :: starEach es X.env := by rfl) (hpl : (backTo pos (starEach es X.env)).any (·.1) = false := by rfl)
    (ht : eval (.Call (.Attribute o m apos) (e :: es) [] pos) X.env = (do
      let ov ← eval o X.env
      standAt apos.atName
      let (f, first) ← holding [ov] (getMethod ov m pl)
      callWith pos f first (backTo pos (starEach (e :: es) X.env)) (backToKw pos (keywordEach [] X.env))) := by rfl) : PE X (.Call (.Attribute o m apos) (e :: es) [] pos) (tMetU K fam m sp to t) :=
  PE.ex fun C hC => pe_met (F C hC) hK (cl C hC) (me C hC) hr he ha hst hpl ht
theorem pe_metU0 (F : ∀ C ∈ fam, FnA X.prog X.w X.K X.mg (He.ma K (He.ga K C) m) k ps (sp C)) (hK : X.K = K) (cl : ∀ C ∈ fam, Cls K (He.ga K C)) (me : ∀ C ∈ fam, Meth K (He.ga K C) m (He.ma K (He.ga K C) m)) (hr : Room k X.A) (he : PE X o to)
    (ht : eval (.Call (.Attribute o m apos) [] [] pos) X.env = (do
      let ov ← eval o X.env
      standAt apos.atName
      let (f, first) ← holding [ov] (getMethod ov m pl)
      callWith pos f first (backTo pos (starEach [] X.env)) (backToKw pos (keywordEach [] X.env))) := by rfl) : PE X (.Call (.Attribute o m apos) [] [] pos) (tMetU K fam m sp to tNil) :=
  PE.ex fun C hC => pe_met0 (F C hC) hK (cl C hC) (me C hC) hr he ht
theorem w_metU {σ : L2.St} {H : Hp} {Q : VK} (C : Str) (hC : C ∈ fam) (k : tMet (He.ga K C) m (sp C) to t σ H Q) : tMetU K fam m sp to t σ H Q := ⟨C, hC, k⟩
end
/-! a written dict with text keys -/
def rIxD (K : PySem.W.Frag) (d : Addr) : V → V → Hp → VK → Prop := fun x y H Q => ∃ (z : Str) (u0 : Value) (v0 : V), x = .ref d ∧ y = .str z ∧ PySem.W.nsIn K d z = some (some u0) ∧ RelV v0 u0 ∧ Q v0 H
def rInD (K : PySem.W.Frag) (d : Addr) : V → V → Hp → VK → Prop := fun x y H Q => ∃ (z : Str) (r : Option Value), x = .str z ∧ y = .ref d ∧ PySem.W.nsIn K d z = some r ∧ Q (.bl r.isSome) H
def rNinD (K : PySem.W.Frag) (d : Addr) : V → V → Hp → VK → Prop := fun x y H Q => ∃ (z : Str) (r : Option Value), x = .str z ∧ y = .ref d ∧ PySem.W.nsIn K d z = some r ∧ Q (.bl (!r.isSome)) H
section
variable {X : Cx} {d : Addr} {es : Array DictEntry} {n : Nat}
theorem op_inD (D : KDict X.K X.w d es n) : OpR X (compareOp .In) (rInD X.K d) := op_in_kd D
theorem op_ninD (D : KDict X.K X.w d es n) : OpR X (compareOp .NotIn) (rNinD X.K d) := op_notIn_kd D
theorem ix_kd (D : KDict X.K X.w d es n) : IxR X (rIxD X.K d) := by
  intro value slice pins s σ H x y v u Q I rx ry h hs
  obtain ⟨z, u0, v0, rfl, rfl, e, r, q⟩ := h
  cases rx
  obtain ⟨t, rfl⟩ := ry
  exact subscriptTail_builtinR (x := u0) (kd_type D I) PySem.F.slot_dict_getitem.lookup
    (wpAny_getItem_of (Q := fun r s' => r = u0 ∧ EP X pins σ Q r s') (PySem.strKind_is X.prog X.w z t) (PySem.W.mapOf_K (prog := X.prog) I.kIn D.at_ D.lit) (PySem.W.find_K D.at_ e) ⟨rfl, v0, H, I.tok _, r, q⟩) hs
end
section
variable {K : PySem.W.Frag} {σ : L2.St} {H : Hp} {Q : VK} {d : Addr} {z : Str}
theorem w_ixD {u0 : Value} {v0 : V} (e : PySem.W.nsIn K d z = some (some u0)) (r : RelV v0 u0) (k : Q v0 H) : rIxD K d (.ref d) (.str z) H Q := ⟨z, u0, v0, rfl, rfl, e, r, k⟩
theorem w_inD {r : Option Value} (e : PySem.W.nsIn K d z = some r) (k : Q (.bl r.isSome) H) : rInD K d (.str z) (.ref d) H Q := ⟨z, r, rfl, rfl, e, k⟩
theorem w_ninD {r : Option Value} (e : PySem.W.nsIn K d z = some r) (k : Q (.bl (!r.isSome)) H) : rNinD K d (.str z) (.ref d) H Q := ⟨z, r, rfl, rfl, e, k⟩
/-! f-strings -/
def rJs (ts : List TE) (acc : Str) (σ : L2.St) (R : Str → Hp → Prop) : VK := fun x H1 => ∃ y : Str, x = .str y ∧ (acc ++ y).length ≤ sizeLine ∧ tJs ts (acc ++ y) σ H1 R
theorem w_js {ts : List TE} {te : TE} {acc : Str} {R : Str → Hp → Prop} (k : te σ H (rJs ts acc σ R)) : tJs (te :: ts) acc σ H R := k
theorem w_jsN {acc : Str} {R : Str → Hp → Prop} (k : R acc H) : tJs [] acc σ H R := k
theorem w_jsP {y acc : Str} {ts : List TE} {R : Str → Hp → Prop} (h : (acc ++ y).length ≤ sizeLine) (k : tJs ts (acc ++ y) σ H R) : rJs ts acc σ R (.str y) H := ⟨y, rfl, h, k⟩
def rFmt (Q : VK) : VK := fun x H1 => (∃ y : Str, x = .str y ∧ y.length ≤ sizeLine ∧ Q (.str y) H1) ∨ ∃ i : Int, x = .int i ∧ i.natAbs.log2 < 1920 ∧ Q (.str (toString i)) H1
theorem w_fmt {te : TE} (k : te σ H (rFmt Q)) : tFmt te σ H Q := k
theorem w_fmtI {i : Int} (h : i.natAbs.log2 < 1920) (k : Q (.str (toString i)) H) : rFmt Q (.int i) H := .inr ⟨i, rfl, h, k⟩
theorem w_fmtS {y : Str} (h : y.length ≤ sizeLine) (k : Q (.str y) H) : rFmt Q (.str y) H := .inl ⟨y, rfl, h, k⟩
/-! all, any; int of a text -/
theorem w_allL {a : Addr} {bs : List Bool} (h : SqL K H a (bs.map V.bl)) (k : Q (.bl (bs.all id)) H) : rAll K [.ref a] H Q := ⟨a, bs, rfl, h, k⟩
theorem w_anyL {a : Addr} {bs : List Bool} (h : SqL K H a (bs.map V.bl)) (k : Q (.bl (bs.any id)) H) : rAny K [.ref a] H Q := ⟨a, bs, rfl, h, k⟩
def rIntS : List V → Hp → VK → Prop := fun xs H Q => ∃ a n, xs = [.str a] ∧ PySem.intText? a = some n ∧ a.length ≤ 640 ∧ Q (.int n) H
theorem call_intS {X : Cx} : CallR X (.type "int") rIntS := call_int_str
theorem w_intS {a : Str} {n : Int} (h : PySem.intText? a = some n) (l : a.length ≤ 640) (k : Q (.int n) H) : rIntS [.str a] H Q := ⟨a, n, rfl, h, l, k⟩
/-! sets of texts, sorted -/
theorem w_setX {w : World} {l : Addr} {ts : List Str} (h : SqL K H l (ts.map V.str)) (hl : ts.length < 64) (k : ∀ a H', Same H H' → H a = none → H' a = some (SetXO w a ts) → Q (.ref a) H') : rSetX K w [.ref l] H Q :=
  ⟨l, ts, rfl, h, hl, fun a ha => k a _ (Same.one ha) ha upd_same⟩
theorem w_sortX {w : World} {a : Addr} {ts : List Str} (h : H a = some (SetXO w a ts)) (hl : ts.length < 64) (k : ∀ ks : List Str, sortedS ks = true → ks.Nodup → (∀ k, k ∈ ks ↔ k ∈ ts) → ks.length < 64 → NewO (.lst (ks.map V.str)) H Q) : rSortX w [.ref a] H Q :=
  ⟨a, ts, rfl, h, hl, k⟩
/-! for i in reversed(range(n)) -/
theorem w_forRR {ta : TE} {g : TG} {tb : L2.TS} {nx : L2.St → Hp → Prop} {rt : VK} {bk ct : L2.St → Hp → Prop}
    (k : ta σ H fun x H1 => ∃ n : Int, x = .int n ∧ (-(2 ^ 62) ≤ (0 : Int) ∧ (0 : Int) < 2 ^ 62 ∧ -(2 ^ 62) ≤ n ∧ n < 2 ^ 62 ∧ WFor (Itc (0 + (((n - 0).toNat : Nat) : Int) - 1) (-1) (n - 0).toNat) g tb nx rt σ H1)) :
    tFor (iRevR (tRg1 ta)) g tb ⟨nx, rt, bk, ct⟩ σ H := k
theorem fl_rr {n : Nat} {g : TG} {tb : L2.TS} {nx : L2.St → Hp → Prop} {rt : VK} (Pv : Nat → L2.St → Hp → Prop) (hb : n < 2 ^ 62) (h0 : Pv 0 σ H)
    (hs : ∀ i σ H, i < n → Pv i σ H → g (.int ((n - 1 - i : Nat) : Int)) σ H fun σ2 H2 => tb ⟨Pv (i + 1), rt, nx, Pv (i + 1)⟩ σ2 H2) (hd : ∀ σ H, Pv n σ H → nx σ H) :
    -(2 ^ 62) ≤ (0 : Int) ∧ (0 : Int) < 2 ^ 62 ∧ -(2 ^ 62) ≤ (n : Int) ∧ (n : Int) < 2 ^ 62 ∧ WFor (Itc (0 + ((((n : Int) - 0).toNat : Nat) : Int) - 1) (-1) ((n : Int) - 0).toNat) g tb nx rt σ H := by
  refine ⟨by omega, by omega, by omega, by omega, ?_⟩
  rw [show ((n : Int) - 0).toNat = n by omega]
  refine for_rangeC (D := ⟨nx, rt, fun _ _ => False, fun _ _ => False⟩) Pv h0 (fun i σ H hi p => ?_) hd
  rw [show (0 : Int) + (n : Nat) - 1 + (i : Nat) * (-1) = ((n - 1 - i : Nat) : Int) by omega]
  exact hs i σ H hi p
end
end

end J
namespace J
open PySem PySem.Spec PyProof.Rows L2
--plain
/-! ### methods of a family of classes, in the raising layer -/
section
open PySem PySem.Spec PyProof.Rows
namespace XL
section
variable {X : Cx} {K : PySem.W.Frag} {fam : List Str} {k : Nat} {ps : List Str} {sp : Str → Sp} {to : TE} {t : TA} {o e : Expr} {es : List Expr} {m : Str} {apos pos : Pos} {pl : Sem Bool}
theorem pe_metU (F : ∀ C ∈ fam, FnA X.prog X.w X.K X.mg (He.ma K (He.ga K C) m) k ps (sp C)) (hK : X.K = K) (cl : ∀ C ∈ fam, Cls K (He.ga K C)) (me : ∀ C ∈ fam, Meth K (He.ga K C) m (He.ma K (He.ga K C) m)) (hr : Rm k X.A) (he : PE X o to) (ha : PA X (e :: es) t)
    (hst : starEach (e :: es) X.env = (false, eval e X.env) :: starEach es X.env := by rfl) (hpl : (backTo pos (starEach es X.env)).any (·.1) = false := by rfl)
    (ht : eval (.Call (.Attribute o m apos) (e :: es) [] pos) X.env = (do
      let ov ← eval o X.env; standAt apos.atName
      let (f, first) ← holding [ov] (getMethod ov m pl); callWith pos f first (backTo pos (starEach (e :: es) X.env)) (backToKw pos (keywordEach [] X.env))) := by rfl) : PE X (.Call (.Attribute o m apos) (e :: es) [] pos) (tMetU K fam m sp to t) :=
  PE.ex fun C hC => pe_met (F C hC) hK (cl C hC) (me C hC) hr he ha hst hpl ht
theorem pe_metU0 (F : ∀ C ∈ fam, FnA X.prog X.w X.K X.mg (He.ma K (He.ga K C) m) k ps (sp C)) (hK : X.K = K) (cl : ∀ C ∈ fam, Cls K (He.ga K C)) (me : ∀ C ∈ fam, Meth K (He.ga K C) m (He.ma K (He.ga K C) m)) (hr : Rm k X.A) (he : PE X o to)
    (ht : eval (.Call (.Attribute o m apos) [] [] pos) X.env = (do
      let ov ← eval o X.env; standAt apos.atName
      let (f, first) ← holding [ov] (getMethod ov m pl); callWith pos f first (backTo pos (starEach [] X.env)) (backToKw pos (keywordEach [] X.env))) := by rfl) : PE X (.Call (.Attribute o m apos) [] [] pos) (tMetU K fam m sp to tNil) :=
  PE.ex fun C hC => pe_met0 (F C hC) hK (cl C hC) (me C hC) hr he ht
end
end XL
end

end J
namespace J
open PySem PySem.Spec PyProof.Rows L2
local macro_rules | `(tactic| walk_at "cls") => `(tactic| first
  | with_reducible exact Facts.cl_Step
  | with_reducible exact Facts.cl_Get
  | with_reducible exact Facts.cl_Ask
  | with_reducible exact Facts.cl_Cell
  | with_reducible exact Facts.cl_Two
  | with_reducible exact Facts.cl_Put
  | with_reducible exact Facts.cl_Tell
  | with_reducible exact Facts.cl_Store)
local macro_rules | `(tactic| walk_at "na") => `(tactic| first
  | with_reducible exact Facts.na_Get_to
  | with_reducible exact Facts.na_Get_sel
  | with_reducible exact Facts.na_Ask_to
  | with_reducible exact Facts.na_Ask_sel
  | with_reducible exact Facts.na_Cell_to
  | with_reducible exact Facts.na_Cell_source
  | with_reducible exact Facts.na_Two_to
  | with_reducible exact Facts.na_Two_op
  | with_reducible exact Facts.na_Two_one
  | with_reducible exact Facts.na_Two_other
  | with_reducible exact Facts.na_Put_sel
  | with_reducible exact Facts.na_Put_source
  | with_reducible exact Facts.na_Tell_sel
  | with_reducible exact Facts.na_Tell_source
  | with_reducible exact Facts.na_Store_at
  | with_reducible exact Facts.na_Store_source)
local macro_rules | `(tactic| walk_at "ty") => `(tactic| first
  | with_reducible exact ty_int
  | with_reducible exact ty_bl
  | with_reducible exact ty_str
  | with_reducible exact ty_non
  | ((with_reducible refine' ty_lst ?vv); (case vv => walk_at "tr"))
  | ((with_reducible refine' ty_sqT ?vv); (case vv => walk_at "tr"))
  | ((with_reducible refine' ty_dic ?vv); (case vv => walk_at "tr")))
local macro_rules | `(tactic| walk_at "ix") => `(tactic| first | exact at0 | exact at1 | exact at2 | assumption)
local macro_rules | `(tactic| walk_at "size") => `(tactic| first
  | assumption
  | (show _ < sizeLine; rw [sizeLine_eq]; (try simp only [List.length_cons, List.length_nil, List.length_append, List.length_map]); omega)
  | (show _ ≤ sizeLine; rw [sizeLine_eq]; (try simp only [List.length_cons, List.length_nil, List.length_append, List.length_map]); omega))
local macro_rules | `(tactic| walk_at "side") => `(tactic| first
  | assumption
  | ((with_reducible refine cdw ?_ ?_) <;> omega)
  | omega
  | (exact ⟨by omega, by omega⟩)
  | (exact Or.inl ⟨by omega, by omega⟩)
  | (exact Or.inr ⟨by omega, by omega⟩)
  | decide
  | (simp only [List.length_cons, List.length_nil, List.length_append, List.length_map]; omega)
  | (show _ ≤ _; decide))
local macro_rules | `(tactic| walk_at "as") => `(tactic| with_reducible assumption)
local macro_rules | `(tactic| walk_at "tr") => `(tactic| first
  | with_reducible assumption
  | with_reducible exact upd_same
  | ((with_reducible refine' SqL.of ?hh); (case hh => walk_at "as"))
  | ((with_reducible refine' SqT.of ?hh); (case hh => walk_at "as"))
  | ((with_reducible refine' Same.stm ?ee ?gg); (case ee => walk_at "as"); (case gg => walk_at "tr"))
  | ((with_reducible refine' Same.sqT ?ee ?gg); (case ee => walk_at "as"); (case gg => walk_at "tr"))
  | ((with_reducible refine' Same.sqL ?ee ?gg); (case ee => walk_at "as"); (case gg => walk_at "tr"))
  | ((with_reducible refine' Same.at ?ee ?gg); (case ee => walk_at "as"); (case gg => walk_at "tr"))
  | ((with_reducible refine' But.stm ?ee ?ff ?gg); (case ee => walk_at "as"); (case ff => walk_at "ne"); (case gg => walk_at "tr"))
  | ((with_reducible refine' But.tup ?ee ?ff ?gg); (case ee => walk_at "as"); (case ff => walk_at "tr1"); (case gg => walk_at "tr"))
  | ((with_reducible refine' But.sqT ?ee ?ff ?gg); (case ee => walk_at "as"); (case ff => walk_at "tr1"); (case gg => walk_at "tr"))
  | ((with_reducible refine' But.tupL ?ee ?ff ?gg); (case ee => walk_at "as"); (case ff => walk_at "tr1"); (case gg => walk_at "tr"))
  | ((with_reducible refine' But.sqTL ?ee ?ff ?gg); (case ee => walk_at "as"); (case ff => walk_at "tr1"); (case gg => walk_at "tr"))
  | ((with_reducible refine' But.sqL ?ee ?ff ?gg); (case ee => walk_at "as"); (case ff => walk_at "ne"); (case gg => walk_at "tr"))
  | ((with_reducible refine' But.at ?ee ?ff ?gg); (case ee => walk_at "as"); (case ff => walk_at "ne"); (case gg => walk_at "tr")))
local macro_rules | `(tactic| walk_at "ts") => `(tactic| first
  | with_reducible assumption
  | with_reducible exact TS.refl _
  | ((with_reducible refine' TS.trans ?gg (TS.of ?ee)); (case ee => walk_at "as"); (case gg => walk_at "ts"))
  | ((with_reducible refine' TS.trans ?gg (TS.butS ?ee ?ff)); (case ee => walk_at "as"); (case ff => walk_at "tr1"); (case gg => walk_at "ts"))
  | ((with_reducible refine' TS.trans ?gg (TS.butL ?ee ?ff)); (case ee => walk_at "as"); (case ff => walk_at "tr1"); (case gg => walk_at "ts"))
  | ((with_reducible refine' TS.trans ?gg (TS.butI ?ee ?ff)); (case ee => walk_at "as"); (case ff => walk_at "tr1"); (case gg => walk_at "ts")))
local macro_rules | `(tactic| walk_at "sm") => `(tactic| first
  | with_reducible assumption
  | with_reducible exact Same.refl _
  | ((with_reducible refine' Same.trans ?gg ?ee); (case ee => walk_at "as"); (case gg => walk_at "sm"))
  | ((with_reducible refine' But.new ?gg ?nn ?ee); (case ee => walk_at "as"); (case nn => walk_at "fr"); (case gg => walk_at "sm")))
local macro_rules | `(tactic| walk_at "fr") => `(tactic| first
  | with_reducible assumption
  | ((with_reducible refine' Same.back ?ee ?nn); (case nn => walk_at "as"); (case ee => walk_at "sm"))
  | ((with_reducible refine' But.back ?ee ?ff ?nn); (case nn => walk_at "as"); (case ff => walk_at "ne0"); (case ee => walk_at "bu")))
local macro_rules | `(tactic| walk_at "bu") => `(tactic| first
  | with_reducible assumption
  | with_reducible exact But.refl _ _
  | ((with_reducible refine' But.trans ?gg ?ee); (case ee => walk_at "as"); (case gg => walk_at "bu"))
  | ((with_reducible refine' But.trans ?gg (But.of ?ee)); (case ee => walk_at "as"); (case gg => walk_at "bu"))
  | ((with_reducible refine' But.new2 ?gg ?nn ?ee); (case ee => walk_at "as"); (case nn => walk_at "frB"); (case gg => walk_at "bu")))
local macro_rules | `(tactic| walk_at "frB") => `(tactic| first
  | with_reducible assumption
  | ((with_reducible refine' Same.back ?ee ?nn); (case nn => walk_at "as"); (case ee => walk_at "sm"))
  | ((with_reducible refine' But.back' ?ee ?ff ?nn); (case nn => walk_at "as"); (case ee => walk_at "bu"); (case ff => walk_at "tr1")))
local macro_rules | `(tactic| walk_at "tr1") => `(tactic| first
  | with_reducible assumption
  | ((with_reducible refine' Same.stm ?ee ?gg); (case ee => walk_at "as"); (case gg => walk_at "tr1"))
  | ((with_reducible refine' Same.at ?ee ?gg); (case ee => walk_at "as"); (case gg => walk_at "tr1"))
  | ((with_reducible refine' But.at ?ee ?ff ?gg); (case ee => walk_at "as"); (case ff => walk_at "ne0"); (case gg => walk_at "tr1"))
  | ((with_reducible refine' But.stm ?ee ?ff ?gg); (case ee => walk_at "as"); (case ff => walk_at "ne0"); (case gg => walk_at "tr1")))
local macro_rules | `(tactic| walk_at "ne0") => `(tactic| first
  | with_reducible assumption
  | (with_reducible apply Ne.symm; with_reducible assumption))
local macro_rules | `(tactic| walk_at "ne") => `(tactic| first
  | with_reducible assumption
  | (with_reducible apply Ne.symm; with_reducible assumption)
  | ((with_reducible refine' stm_ne ?hh ?nn); (case nn => walk_at "as"); (case hh => walk_at "tr1"))
  | ((with_reducible refine' ne_of_none ?hh ?nn); (case nn => walk_at "as"); (case hh => walk_at "tr1"))
  | ((with_reducible apply Ne.symm); (with_reducible refine' ne_of_none ?hh ?nn); (case nn => walk_at "as"); (case hh => walk_at "tr1")))
local macro_rules | `(tactic| walk_at "v") => `(tactic| first
  | with_reducible refine w_seq ?_
  | ((with_reducible refine' w_var ?vv ?_); (case vv => exact rfl))
  | with_reducible refine w_c ?_
  | with_reducible refine w_op ?_
  | with_reducible refine w_asg ?_
  | with_reducible refine w_gName ?_
  | with_reducible refine w_ret ?_
  | with_reducible refine w_ifS ?_
  | with_reducible refine w_drop ?_
  | with_reducible refine w_next ?_
  | with_reducible refine w_cons ?_
  | with_reducible refine w_nil ?_
  | with_reducible refine w_call ?_
  | with_reducible refine w_cb ?_
  | with_reducible refine w_rI0 ?_
  | with_reducible refine w_addI ?_
  | with_reducible refine w_eqI ?_
  | with_reducible refine w_neI ?_
  | with_reducible refine w_eqS ?_
  | with_reducible refine w_neS ?_
  | with_reducible refine w_eqB ?_
  | with_reducible refine w_neB ?_
  | with_reducible refine w_chain ?_
  | with_reducible refine w_test ?_
  | with_reducible refine w_tB ?_
  | with_reducible refine w_bl ?_
  | ((with_reducible refine' w_mulI ?vv ?_); (case vv => walk_at "side"))
  | ((with_reducible refine' w_rI ?vv ?_); (case vv => walk_at "side"))
  | with_reducible refine w_int1 ?_
  | with_reducible refine w_int1b ?_
  | with_reducible refine w_tup ?_
  | with_reducible refine w_lst ?_
  | with_reducible refine w_un ?_
  | with_reducible refine w_rU ?_
  | with_reducible refine w_not ?_
  | with_reducible refine w_notV ?_
  | with_reducible refine w_ifE ?_
  | with_reducible refine w_nT ?_
  | with_reducible refine w_nF ?_
  | with_reducible refine iteT ?_
  | with_reducible refine iteF ?_
  | ((with_reducible refine' w_ixT ?vv ?ww ?_); (case vv => walk_at "tr"); (case ww => walk_at "ix"))
  | ((with_reducible refine' w_ixL ?vv ?ww ?_); (case vv => walk_at "tr"); (case ww => walk_at "ix"))
  | with_reducible refine w_gSub ?_
  | ((with_reducible refine' w_setL ?vv ?ww ?_); (case vv => walk_at "tr"); (case ww => first | rfl | decide | assumption))
  | ((with_reducible refine' w_lenL ?vv ?_); (case vv => walk_at "tr"))
  | ((with_reducible refine' w_lenT ?vv ?_); (case vv => walk_at "tr"))
  | with_reducible refine w_max2 ?_
  | with_reducible refine w_max3 ?_
  | with_reducible refine w_din ?_
  | with_reducible refine w_dnotin ?_
  | with_reducible refine w_dput ?_
  | with_reducible refine w_min2 ?_
  | with_reducible refine w_bm ?_
  | with_reducible refine w_bm0 ?_
  | ((with_reducible refine' w_tyL ?vv ?_); (case vv => walk_at "tr"))
  | ((with_reducible refine' w_append ?vv ?ww ?_); (case vv => walk_at "tr"); (case ww => walk_at "size"))
  | ((with_reducible refine' w_size ?vv ?_); (case vv => walk_at "size"))
  | with_reducible refine w_forL ?_
  | with_reducible refine w_forT ?_
  | with_reducible refine w_forR1 ?_
  | with_reducible refine w_forR2 ?_
  | with_reducible refine w_lcL ?_
  | with_reducible refine w_lcT ?_
  | with_reducible refine w_lcR1 ?_
  | with_reducible refine w_yes ?_
  | with_reducible refine w_sl ?_
  | with_reducible refine w_noPart ?_
  | with_reducible refine w_part ?_
  | with_reducible refine w_int ?_
  | ((with_reducible refine' w_slL ?vv ?_); (case vv => walk_at "tr"))
  | ((with_reducible refine' w_seqL ?vv ?ww ?_); (case vv => walk_at "tr"); (case ww => rfl))
  | ((with_reducible refine' w_seqT ?vv ?ww ?_); (case vv => walk_at "tr"); (case ww => rfl))
  | with_reducible refine w_gNil ?_
  | with_reducible refine w_gCons ?_
  | with_reducible refine w_forZ ?_
  | with_reducible refine w_forM ?_
  | with_reducible refine w_forE ?_
  | with_reducible refine w_forV ?_
  | with_reducible refine w_lcZ ?_
  | with_reducible refine w_lcE ?_
  | ((with_reducible refine' w_isi (b := true) ?vv ?ww ?_); (case vv => walk_at "ty"); (case ww => decide +kernel))
  | ((with_reducible refine' w_isi (b := false) ?vv ?ww ?_); (case vv => walk_at "ty"); (case ww => decide +kernel))
  | with_reducible refine w_revL ?_
  | with_reducible refine w_pairN ?_
  | with_reducible refine w_pairC ?_
  | with_reducible refine w_dget ?_
  | with_reducible refine w_met ?_
  | ((with_reducible refine' w_metAt ?vv ?ww ?_); (case vv => walk_at "tr"); (case ww => rfl))
  | with_reducible refine w_mkI ?_
  | with_reducible refine w_fld ?_
  | ((with_reducible refine' w_fldAt ?vv ?cc ?nn ?ww ?_); (case vv => walk_at "tr"); (case cc => walk_at "cls"); (case nn => walk_at "na"); (case ww => rfl))
  | with_reducible refine w_sfld ?_
  | ((with_reducible refine' w_sfldAt ?vv ?cc ?nn ?ll ?ee ?_); (case vv => walk_at "tr"); (case cc => walk_at "cls"); (case nn => walk_at "na"); (case ll => simp); (case ee => rfl))
  | ((with_reducible refine' w_tupL ?vv ?_); (case vv => walk_at "tr"))
  | ((with_reducible refine' w_tupT ?vv ?_); (case vv => walk_at "tr"))
  | ((with_reducible refine' w_listL ?vv ?_); (case vv => walk_at "tr"))
  | ((with_reducible refine' w_listT ?vv ?_); (case vv => walk_at "tr"))
  | with_reducible refine w_tyS ?_
  | with_reducible refine w_lcZM ?_
  | with_reducible refine w_js ?_
  | with_reducible refine w_jsN ?_
  | ((with_reducible refine' w_jsP ?vv ?_); (case vv => walk_at "size"))
  | with_reducible refine w_fmt ?_
  | with_reducible refine w_forRR ?_
  | with_reducible refine w_retN ?_
  | with_reducible refine w_break ?_
  | with_reducible refine w_cont ?_)
local macro_rules | `(tactic| walk_at "w") => `(tactic| first
  | walk_at "v"
  | with_reducible refine w_or ?_
  | with_reducible refine w_and ?_
  | with_reducible refine w_andV ?_
  | with_reducible refine w_orV ?_)
local macro_rules | `(tactic| walk_at "wd") => `(tactic| first
  | walk_at "w"
  | ((with_reducible refine' w_decT ?vv ?_); (case vv => decide +kernel))
  | ((with_reducible refine' w_decF ?vv ?_); (case vv => decide +kernel)))
local macro_rules | `(tactic| walk_at "tz") => `(tactic| (intro S z; (repeat walk_at "w"); exact z))
local macro_rules | `(tactic| walk_at "wf") => `(tactic| first
  | walk_at "wd"
  | ((with_reducible refine' w_decF ?vv ?_); (case vv => with_reducible assumption)))
/-! ### zip of lists and tuples in any mix (t: a tuple) -/
def SqX (t : Bool) (K : PySem.W.Frag) (H : Hp) (a : Addr) (xs : List V) : Prop := match t with
  | true => SqT K H a xs
  | false => SqL K H a xs
def ItX (t : Bool) (h : Heap) (it l : Addr) (i : Nat) : Prop := match t with
  | true => h.IsTupleIter it l i
  | false => h.IsListIter it l i
def SeqX (t : Bool) (h : Heap) (l : Addr) (xs : Array Value) : Prop := match t with
  | true => h.IsTuple l xs
  | false => h.IsList l xs
theorem drawsX {prog : Program} {w : World} {A : Around} (t : Bool) (hh : A.handled = none) (it l : Addr) (hne : l ≠ it) (items : Array Value) :
    PySem.Draws prog w A it [it, l] items.size (fun i v => items[i]? = some v) (fun i h => ItX t h it l i ∧ SeqX t h l items) := by
  cases t with
  | true => exact PySem.Draws.tuple hh it l hne items
  | false => exact PySem.Draws.list hh it l hne items
def itO (t : Bool) (l : Addr) : Obj := match t with
  | true => { cls := .type "tuple_iterator", data := .fields #[.ref l, .int 0 0] }
  | false => { cls := .type "list_iterator", data := .fields #[.ref l, .int 0 0] }
theorem beginsX (t : Bool) (l : Addr) (items : Array Value) : PySem.Begins (.ref l) (itO t l) fun h => SeqX t h l items := by
  cases t with
  | true => exact PySem.begins_tuple l items
  | false => exact PySem.begins_list l items
theorem itX_new (t : Bool) {h : Heap} {it l : Addr} (e : h.get? it = some (itO t l)) : ItX t h it l 0 := by
  cases t with
  | true => exact ⟨_, e, rfl, rfl⟩
  | false => exact ⟨_, e, rfl, rfl⟩
theorem itX_at (t : Bool) {h h' : Heap} {it l : Addr} {i : Nat} (x : ItX t h it l i) (k : ∀ o, h.get? it = some o → h'.get? it = some o) : ItX t h' it l i := by
  cases t with
  | true => exact PySem.Heap.IsTupleIter.at x k
  | false => exact PySem.Heap.IsListIter.at x k
theorem itX_obj (t : Bool) {h : Heap} {it l : Addr} {i : Nat} (x : ItX t h it l i) : ∃ o, h.get? it = some o ∧ ∀ v, o.data ≠ .cell v := by
  cases t with
  | true => obtain ⟨o, e, _, d⟩ := x; exact ⟨o, e, fun v q => by rw [d] at q; cases q⟩
  | false => obtain ⟨o, e, _, d⟩ := x; exact ⟨o, e, fun v q => by rw [d] at q; cases q⟩
section
variable {X : Cx} {pins : List (Addr × Obj)} {σ : L2.St} {H : Hp} {s : Shared}
theorem inv_seqX (I : Inv X pins σ H s) (t : Bool) {a : Addr} {xs : List V} (h : SqX t X.K H a xs) : ∃ its : List Value, Vals xs its ∧ SeqX t s.heap a its.toArray ∧ a < s.heap.objs.size := by
  cases t with
  | true =>
    obtain ⟨its, rv, p, _⟩ := I.tuple h
    obtain ⟨o, ho, _⟩ := id p
    exact ⟨its, rv, p, Heap.lt_size ho⟩
  | false =>
    obtain ⟨its, rv, p, _⟩ := I.list h
    exact ⟨its, rv, p.isList, p.lt⟩
theorem inv_injX (I : Inv X pins σ H s) (t : Bool) {a : Addr} {xs ys : List V} (h : SqX t X.K H a xs) (g : SqX t X.K H a ys) : xs = ys := by
  cases t with
  | true => exact I.tuple_inj h g
  | false => exact I.list_inj h g
end
def ItzM (t u : Bool) (K : PySem.W.Frag) (a b : Addr) : It :=
  ⟨fun i H => ∃ (xs ys : List V) (x y : V), SqX t K H a xs ∧ SqX u K H b ys ∧ xs[i]? = some x ∧ ys[i]? = some y,
    fun i H v H' => ∃ T x y, v = .ref T ∧ H T = none ∧ H' = upd H T (.tup [x, y]) ∧ (∀ xs, SqX t K H a xs → xs[i]? = some x) ∧ ∀ ys, SqX u K H b ys → ys[i]? = some y,
    fun i H => ∃ xs ys : List V, SqX t K H a xs ∧ SqX u K H b ys ∧ i ≤ xs.length ∧ i ≤ ys.length ∧ (xs.length ≤ i ∨ ys.length ≤ i)⟩
theorem sepX {z TI TO i1 i2 l1 l2 : Addr} (D : ZipApart z TI TO i1 i2 l1 l2) : PySem.ZipSep2 z TI TO i1 i2 [i1, l1] [i2, l2] where
  TIz := D.TIz
  TOz := D.TOz
  TITO := D.TITO
  TIi1 := D.TIi1
  mem1 := by simp
  zf1 := by
    have a := D.i1z
    have b := D.l1z
    simp only [List.mem_cons, List.not_mem_nil, or_false, not_or]
    exact ⟨a.symm, b.symm⟩
  Tf1 := by
    simp only [List.mem_cons, List.not_mem_nil, or_false, not_or]
    exact ⟨D.TOi1, D.l1TO.symm⟩
  TIi2 := D.TIi2
  mem2 := by simp
  zf2 := by
    simp only [List.mem_cons, List.not_mem_nil, or_false, not_or]
    exact ⟨D.i2z.symm, D.l2z.symm⟩
  Tf2 := by
    simp only [List.mem_cons, List.not_mem_nil, or_false, not_or]
    exact ⟨D.TOi2, D.l2TO.symm⟩
  sep1_2 := by
    simp only [List.mem_cons, List.not_mem_nil, or_false, not_or]
    exact ⟨D.i12, D.l2i1.symm⟩
  sep2_1 := by
    simp only [List.mem_cons, List.not_mem_nil, or_false, not_or]
    exact ⟨D.i12.symm, D.l1i2.symm⟩
theorem turn_zipM {P : Program} {w : World} {K : PySem.W.Frag} {elts : List Expr} {kk : Nat} {tpos : Pos} {a b z TI TO i1 i2 : Addr} (t u : Bool) (D : ZipApart z TI TO i1 i2 a b) :
    Turn P w K (.Tuple elts kk tpos) (ItzM t u K a b) [z, TI, TO, i1, i2] z (fun i h => IsZip h z TI TO .none ∧ IsPair h TI (.ref i1) (.ref i2) ∧ (∃ x y, IsPair h TO x y) ∧ ItX t h i1 a i ∧ ItX u h i2 b i) where
  mem := by simp
  obj := fun i h st c hc => by
    obtain ⟨hz, hTI, ⟨x, y, hTO⟩, h1, h2⟩ := st
    have e' : c = z ∨ c = TI ∨ c = TO ∨ c = i1 ∨ c = i2 := by simpa using hc
    rcases e' with q | q | q | q | q
    · rw [q]; exact ⟨_, hz, fun v q => nomatch q⟩
    · rw [q]; exact ⟨_, hTI, fun v q => nomatch q⟩
    · rw [q]; exact ⟨_, hTO, fun v q => nomatch q⟩
    · rw [q]; exact itX_obj t h1
    · rw [q]; exact itX_obj u h2
  keep := fun i h h' st k => by
    obtain ⟨hz, hTI, ⟨x, y, hTO⟩, h1, h2⟩ := st
    exact ⟨k z (by simp) _ hz, k TI (by simp) _ hTI, ⟨x, y, k TO (by simp) _ hTO⟩, itX_at t h1 fun o q => k i1 (by simp) o q, itX_at u h2 fun o q => k i2 (by simp) o q⟩
  item := by
    intro X hP hw hK hc i pins s σ H E I hf st hg
    subst hP hw hK
    obtain ⟨hz, hTI, ⟨x0, y0, hTO⟩, h1, h2⟩ := st
    obtain ⟨xs, ys, x, y, hqx, hqy, hx, hy⟩ := hg
    obtain ⟨its, rv, p, lt1⟩ := inv_seqX I t hqx
    obtain ⟨its2, rv2, p2, lt2⟩ := inv_seqX I u hqy
    obtain ⟨v1, hu, ru⟩ := rv.get hx
    obtain ⟨v2, hu2, ru2⟩ := rv2.get hy
    have hzl : z < s.heap.objs.size := Heap.lt_size hz
    have hh : X.A.in1.handled = none := I.ok.hd hc
    have D1 := drawsX (prog := X.prog) (w := X.w) t hh i1 a D.l1i1 its.toArray
    have D2 := drawsX (prog := X.prog) (w := X.w) u hh i2 b D.l2i2 its2.toArray
    have n1 : i < its.toArray.size := by rw [List.size_toArray]; exact (List.getElem?_eq_some_iff.mp hu).1
    have n2 : i < its2.toArray.size := by rw [List.size_toArray]; exact (List.getElem?_eq_some_iff.mp hu2).1
    refine PySem.wpAny_pyNext_zipD2_item (sepX D) D1 D2 hz hTI hTO ⟨h1, p⟩ ⟨h2, p2⟩ n1 n2 fun w1 w2 h' tk g1 g2 z' TO' h1' h2' hT hsz hk => ?_
    have e1 : w1 = v1 := by
      have := g1.symm.trans (by simpa using hu : its.toArray[i]? = some v1)
      exact Option.some.inj this
    have e2 : w2 = v2 := by
      have := g2.symm.trans (by simpa using hu2 : its2.toArray[i]? = some v2)
      exact Option.some.inj this
    subst e1 e2
    refine ⟨_, rfl, wpAny_letOwnedTupleGo_zip (s := { s with heap := h', toks := tk }) z' fun h'' z'' sb => ?_⟩
    have hT2 : h''.get? s.heap.objs.size = some { cls := .type "tuple", data := .seq #[w1, w2] } := (sb.2 _ (Nat.ne_of_gt hzl)).trans hT
    have new : ObjOk X.prog X.w (upd H s.heap.objs.size (.tup [x, y])) h'' s.heap.objs.size (.tup [x, y]) :=
      ⟨by show 2 ≤ sizeLine; decide, [w1, w2], .cons ru (.cons ru2 .nil), ⟨_, hT2, rfl, _, rfl⟩⟩
    have I1 : Inv X pins σ (upd H s.heap.objs.size (.tup [x, y])) { s with heap := h'', toks := tk } :=
      I.turnedNew (t' := tk) (ch := [z, TI, TO, i1, i2]) (fun c o hb q => (sb.2 c (fun q' => hb (by simp [q']))).trans (hk c o (fun q' => hb (by simp [q'])) (fun q' => hb (by simp [q'])) (fun q' => hb (by simp [q'])) (fun q' => hb (by simp [q'])) q)) hf (Nat.le_refl _) new
    refine ⟨.ref s.heap.objs.size, _, I1, rfl, ⟨_, x, y, rfl, I.hok.fresh (Nat.le_refl _), rfl, fun l hl => by rw [inv_injX I t hl hqx]; exact hx, fun l hl => by rw [inv_injX I u hl hqy]; exact hy⟩, ⟨z'', ?_, ⟨w1, w2, ?_⟩, ?_, ?_⟩, fun c hcm => ?_⟩
    · exact (sb.2 _ D.TIz).trans (hk _ _ D.TIz D.TITO D.TIi1 D.TIi2 hTI)
    · exact (sb.2 _ D.TOz).trans TO'
    · exact itX_at t h1'.1 fun o q => (sb.2 _ D.i1z).trans q
    · exact itX_at u h2'.1 fun o q => (sb.2 _ D.i2z).trans q
    · have hlt : c < s.heap.objs.size := by
        have e' : c = z ∨ c = TI ∨ c = TO ∨ c = i1 ∨ c = i2 := by simpa using hcm
        rcases e' with q | q | q | q | q
        · rw [q]; exact hzl
        · rw [q]; exact Heap.lt_size hTI
        · rw [q]; exact Heap.lt_size hTO
        · rw [q]; obtain ⟨_, e1, _⟩ := itX_obj t h1; exact Heap.lt_size e1
        · rw [q]; obtain ⟨_, e2, _⟩ := itX_obj u h2; exact Heap.lt_size e2
      rw [upd_ne (Nat.ne_of_lt hlt)]
      exact (hf c hcm).1
  done := by
    intro X hP hw hK hc i pins s σ H E I hf st hg
    subst hP hw hK
    obtain ⟨hz, hTI, ⟨x0, y0, hTO⟩, h1, h2⟩ := st
    obtain ⟨xs, ys, hqx, hqy, le1, le2, hend⟩ := hg
    obtain ⟨its, rv, p, lt1⟩ := inv_seqX I t hqx
    obtain ⟨its2, rv2, p2, lt2⟩ := inv_seqX I u hqy
    have l1 := rv.length
    have l2 := rv2.length
    have hh : X.A.in1.handled = none := I.ok.hd hc
    have D1 := drawsX (prog := X.prog) (w := X.w) t hh i1 a D.l1i1 its.toArray
    have D2 := drawsX (prog := X.prog) (w := X.w) u hh i2 b D.l2i2 its2.toArray
    refine PySem.wpAny_pyNext_zipD2_end (sepX D) D1 D2 hz hTI hTO ⟨h1, p⟩ ⟨h2, p2⟩ (by rw [List.size_toArray]; omega) (by rw [List.size_toArray]; omega) (by rw [List.size_toArray, List.size_toArray]; omega) fun h' tk hk => ⟨rfl, I.turnedL (t' := tk) (ch := [z, TI, TO, i1, i2]) (fun c o hb q =>
      hk c o (fun q' => hb (by simp [q'])) (fun q' => hb (by simp [q'])) (fun q' => hb (by simp [q'])) (fun q' => hb (by simp [q'])) q) hf⟩
  self := fun A i s Q E st h => wpAny_pyIter_zip st.1 h
def iZipM (t u : Bool) (K : PySem.W.Frag) (ta : TA) : TI := fun σ H R => ta σ H fun vs H1 => ∃ a b xs ys, vs = [.ref a, .ref b] ∧ SqX t K H1 a xs ∧ SqX u K H1 b ys ∧ R (ItzM t u K a b) H1
theorem pi_zipM {X : Cx} {K : PySem.W.Frag} {e e2 : Expr} {ta : TA} {p pos tpos : Pos} {elts : List Expr} {kk : Nat} (t u : Bool) (hK : X.K = K) (hg : Gl X "zip") (hm : X.mg "zip" = none) (ha : PA X [e, e2] ta)
    (hs : starEach [e, e2] X.env = (false, eval e X.env) :: starEach [e2] X.env := by rfl) (hpl : (backTo pos (starEach [e2] X.env)).any (·.1) = false := by rfl) :
    PI X (.Tuple elts kk tpos) (.Call (.Name "zip" p) [e, e2] [] pos) (iZipM t u K ta) := by
  subst hK
  refine ⟨fun pins s σ H R I h => ?_⟩
  refine Call_ (ld_blt I hg hm PyProof.Rows.boot_zip (PyProof.Rows.callWith_type1 (thn (ha.run pos pins s σ H _ I h) fun us s1 ⟨vs, H1, I1, r1, q1⟩ => ?_) hs hpl))
  obtain ⟨a, b, xs, ys, ex, hqx, hqy, q⟩ := q1
  subst ex
  cases r1 with
  | cons r rr =>
    cases rr with
    | cons r' rr =>
      cases rr
      cases r
      cases r'
      have fresh5 : ∀ c, c ∈ [s1.heap.objs.size + 4, s1.heap.objs.size + 2, s1.heap.objs.size + 3, s1.heap.objs.size, s1.heap.objs.size + 1] → FpOk X pins H1 c := fun c hcm => by
        have e' : c = s1.heap.objs.size + 4 ∨ c = s1.heap.objs.size + 2 ∨ c = s1.heap.objs.size + 3 ∨ c = s1.heap.objs.size ∨ c = s1.heap.objs.size + 1 := by simpa using hcm
        have hle : s1.heap.objs.size ≤ c := by
          rcases e' with z | z | z | z | z
          · rw [z]; exact Nat.le_add_right _ _
          · rw [z]; exact Nat.le_add_right _ _
          · rw [z]; exact Nat.le_add_right _ _
          · rw [z]; exact Nat.le_refl _
          · rw [z]; exact Nat.le_add_right _ _
        exact I1.fpOk hle (I1.hok.fresh hle)
      obtain ⟨its, rv, p1, lt1⟩ := inv_seqX I1 t hqx
      obtain ⟨its2, rv2, p2, lt2⟩ := inv_seqX I1 u hqy
      refine PySem.zip_begins2 (beginsX t a its.toArray) (beginsX u b its2.toArray) p1 p2 fun h' hz hTI hTO h1 h2 hsz hk => wpAny_pyIter_zip hz ?_
      have I2 : Inv X pins σ H1 { s1 with heap := h' } := I1.kept (t' := s1.toks) hk
      exact ⟨s1.heap.objs.size + 4, [s1.heap.objs.size + 4, s1.heap.objs.size + 2, s1.heap.objs.size + 3, s1.heap.objs.size, s1.heap.objs.size + 1], _, _, H1, rfl, I2, turn_zipM t u (PySem.W.ktu_apart s1.heap.objs.size a b lt1 lt2), ⟨hz, hTI, ⟨_, _, hTO⟩, itX_new t h1, itX_new u h2⟩, fresh5, q⟩
section
variable {K : PySem.W.Frag} {σ : L2.St} {H : Hp} {a b : Addr} {xs ys : List V} {g : TG} {tb : L2.TS} {nx : L2.St → Hp → Prop} {rt : VK} {bk ct : L2.St → Hp → Prop} {ta : TA} {t u : Bool}
theorem w_forM (k : ta σ H fun vs H1 => ∃ a b xs ys, vs = [.ref a, .ref b] ∧ SqX t K H1 a xs ∧ SqX u K H1 b ys ∧ WFor (ItzM t u K a b) g tb nx rt σ H1) : tFor (iZipM t u K ta) g tb ⟨nx, rt, bk, ct⟩ σ H := k
theorem walk_zipM {n : Nat} (hn : n = min xs.length ys.length) : Walk (ItzM t u K a b) n (fun H => SqX t K H a xs ∧ SqX u K H b ys) (YPair (fun i => xs[i]?) (fun i => ys[i]?)) := by
  subst hn
  refine ⟨fun i _ hi q => ?_, fun _ q => ⟨xs, ys, q.1, q.2, by omega⟩, fun i H v H' _ q y => ?_⟩
  · have h1 : i < xs.length := by omega
    have h2 : i < ys.length := by omega
    exact ⟨xs, ys, xs[i], ys[i], q.1, q.2, by simp [h1], by simp [h2]⟩
  · obtain ⟨T, x, z, h1, h2, h3, h4, h5⟩ := y
    exact ⟨T, x, z, h1, h2, h3, h4 xs q.1, h5 ys q.2⟩
theorem fl_zipM (Pv : Nat → L2.St → Hp → Prop) (hx : SqX t K H a xs) (hy : SqX u K H b ys) (h0 : Pv 0 σ H) (hG : ∀ i σ H, i ≤ min xs.length ys.length → Pv i σ H → SqX t K H a xs ∧ SqX u K H b ys)
    (hs : ∀ i x y T σ H H', xs[i]? = some x → ys[i]? = some y → Pv i σ H → H T = none → Same H H' → H' T = some (.tup [x, y]) → g (.ref T) σ H' fun σ2 H2 => tb ⟨Pv (i + 1), rt, nx, Pv (i + 1)⟩ σ2 H2) (hd : ∀ σ H, Pv (min xs.length ys.length) σ H → nx σ H) :
    ∃ p q us ws, [V.ref a, .ref b] = [.ref p, .ref q] ∧ SqX t K H p us ∧ SqX u K H q ws ∧ WFor (ItzM t u K p q) g tb nx rt σ H :=
  ⟨a, b, xs, ys, rfl, hx, hy, wfor_it (walk_zipM rfl) Pv h0 hG (fun i v σ H H' hi p ⟨T, x, y, e, nT, e2, h1, h2⟩ => by subst e e2; exact hs i x y T σ H _ h1 h2 p nT (Same.one nT) upd_same) hd⟩
end

end J
namespace J
open PySem PySem.Spec PyProof.Rows L2
local macro_rules | `(tactic| walk_at "cls") => `(tactic| first
  | with_reducible exact Facts.cl_Step
  | with_reducible exact Facts.cl_Get
  | with_reducible exact Facts.cl_Ask
  | with_reducible exact Facts.cl_Cell
  | with_reducible exact Facts.cl_Two
  | with_reducible exact Facts.cl_Put
  | with_reducible exact Facts.cl_Tell
  | with_reducible exact Facts.cl_Store)
local macro_rules | `(tactic| walk_at "na") => `(tactic| first
  | with_reducible exact Facts.na_Get_to
  | with_reducible exact Facts.na_Get_sel
  | with_reducible exact Facts.na_Ask_to
  | with_reducible exact Facts.na_Ask_sel
  | with_reducible exact Facts.na_Cell_to
  | with_reducible exact Facts.na_Cell_source
  | with_reducible exact Facts.na_Two_to
  | with_reducible exact Facts.na_Two_op
  | with_reducible exact Facts.na_Two_one
  | with_reducible exact Facts.na_Two_other
  | with_reducible exact Facts.na_Put_sel
  | with_reducible exact Facts.na_Put_source
  | with_reducible exact Facts.na_Tell_sel
  | with_reducible exact Facts.na_Tell_source
  | with_reducible exact Facts.na_Store_at
  | with_reducible exact Facts.na_Store_source)
local macro_rules | `(tactic| walk_at "ty") => `(tactic| first
  | with_reducible exact ty_int
  | with_reducible exact ty_bl
  | with_reducible exact ty_str
  | with_reducible exact ty_non
  | ((with_reducible refine' ty_lst ?vv); (case vv => walk_at "tr"))
  | ((with_reducible refine' ty_sqT ?vv); (case vv => walk_at "tr"))
  | ((with_reducible refine' ty_dic ?vv); (case vv => walk_at "tr")))
local macro_rules | `(tactic| walk_at "ix") => `(tactic| first | exact at0 | exact at1 | exact at2 | assumption)
local macro_rules | `(tactic| walk_at "size") => `(tactic| first
  | assumption
  | (show _ < sizeLine; rw [sizeLine_eq]; (try simp only [List.length_cons, List.length_nil, List.length_append, List.length_map]); omega)
  | (show _ ≤ sizeLine; rw [sizeLine_eq]; (try simp only [List.length_cons, List.length_nil, List.length_append, List.length_map]); omega))
local macro_rules | `(tactic| walk_at "side") => `(tactic| first
  | assumption
  | ((with_reducible refine cdw ?_ ?_) <;> omega)
  | omega
  | (exact ⟨by omega, by omega⟩)
  | (exact Or.inl ⟨by omega, by omega⟩)
  | (exact Or.inr ⟨by omega, by omega⟩)
  | decide
  | (simp only [List.length_cons, List.length_nil, List.length_append, List.length_map]; omega)
  | (show _ ≤ _; decide))
local macro_rules | `(tactic| walk_at "as") => `(tactic| with_reducible assumption)
local macro_rules | `(tactic| walk_at "tr") => `(tactic| first
  | with_reducible assumption
  | with_reducible exact upd_same
  | ((with_reducible refine' SqL.of ?hh); (case hh => walk_at "as"))
  | ((with_reducible refine' SqT.of ?hh); (case hh => walk_at "as"))
  | ((with_reducible refine' Same.stm ?ee ?gg); (case ee => walk_at "as"); (case gg => walk_at "tr"))
  | ((with_reducible refine' Same.sqT ?ee ?gg); (case ee => walk_at "as"); (case gg => walk_at "tr"))
  | ((with_reducible refine' Same.sqL ?ee ?gg); (case ee => walk_at "as"); (case gg => walk_at "tr"))
  | ((with_reducible refine' Same.at ?ee ?gg); (case ee => walk_at "as"); (case gg => walk_at "tr"))
  | ((with_reducible refine' But.stm ?ee ?ff ?gg); (case ee => walk_at "as"); (case ff => walk_at "ne"); (case gg => walk_at "tr"))
  | ((with_reducible refine' But.tup ?ee ?ff ?gg); (case ee => walk_at "as"); (case ff => walk_at "tr1"); (case gg => walk_at "tr"))
  | ((with_reducible refine' But.sqT ?ee ?ff ?gg); (case ee => walk_at "as"); (case ff => walk_at "tr1"); (case gg => walk_at "tr"))
  | ((with_reducible refine' But.tupL ?ee ?ff ?gg); (case ee => walk_at "as"); (case ff => walk_at "tr1"); (case gg => walk_at "tr"))
  | ((with_reducible refine' But.sqTL ?ee ?ff ?gg); (case ee => walk_at "as"); (case ff => walk_at "tr1"); (case gg => walk_at "tr"))
  | ((with_reducible refine' But.sqL ?ee ?ff ?gg); (case ee => walk_at "as"); (case ff => walk_at "ne"); (case gg => walk_at "tr"))
  | ((with_reducible refine' But.at ?ee ?ff ?gg); (case ee => walk_at "as"); (case ff => walk_at "ne"); (case gg => walk_at "tr")))
local macro_rules | `(tactic| walk_at "ts") => `(tactic| first
  | with_reducible assumption
  | with_reducible exact TS.refl _
  | ((with_reducible refine' TS.trans ?gg (TS.of ?ee)); (case ee => walk_at "as"); (case gg => walk_at "ts"))
  | ((with_reducible refine' TS.trans ?gg (TS.butS ?ee ?ff)); (case ee => walk_at "as"); (case ff => walk_at "tr1"); (case gg => walk_at "ts"))
  | ((with_reducible refine' TS.trans ?gg (TS.butL ?ee ?ff)); (case ee => walk_at "as"); (case ff => walk_at "tr1"); (case gg => walk_at "ts"))
  | ((with_reducible refine' TS.trans ?gg (TS.butI ?ee ?ff)); (case ee => walk_at "as"); (case ff => walk_at "tr1"); (case gg => walk_at "ts")))
local macro_rules | `(tactic| walk_at "sm") => `(tactic| first
  | with_reducible assumption
  | with_reducible exact Same.refl _
  | ((with_reducible refine' Same.trans ?gg ?ee); (case ee => walk_at "as"); (case gg => walk_at "sm"))
  | ((with_reducible refine' But.new ?gg ?nn ?ee); (case ee => walk_at "as"); (case nn => walk_at "fr"); (case gg => walk_at "sm")))
local macro_rules | `(tactic| walk_at "fr") => `(tactic| first
  | with_reducible assumption
  | ((with_reducible refine' Same.back ?ee ?nn); (case nn => walk_at "as"); (case ee => walk_at "sm"))
  | ((with_reducible refine' But.back ?ee ?ff ?nn); (case nn => walk_at "as"); (case ff => walk_at "ne0"); (case ee => walk_at "bu")))
local macro_rules | `(tactic| walk_at "bu") => `(tactic| first
  | with_reducible assumption
  | with_reducible exact But.refl _ _
  | ((with_reducible refine' But.trans ?gg ?ee); (case ee => walk_at "as"); (case gg => walk_at "bu"))
  | ((with_reducible refine' But.trans ?gg (But.of ?ee)); (case ee => walk_at "as"); (case gg => walk_at "bu"))
  | ((with_reducible refine' But.new2 ?gg ?nn ?ee); (case ee => walk_at "as"); (case nn => walk_at "frB"); (case gg => walk_at "bu")))
local macro_rules | `(tactic| walk_at "frB") => `(tactic| first
  | with_reducible assumption
  | ((with_reducible refine' Same.back ?ee ?nn); (case nn => walk_at "as"); (case ee => walk_at "sm"))
  | ((with_reducible refine' But.back' ?ee ?ff ?nn); (case nn => walk_at "as"); (case ee => walk_at "bu"); (case ff => walk_at "tr1")))
local macro_rules | `(tactic| walk_at "tr1") => `(tactic| first
  | with_reducible assumption
  | ((with_reducible refine' Same.stm ?ee ?gg); (case ee => walk_at "as"); (case gg => walk_at "tr1"))
  | ((with_reducible refine' Same.at ?ee ?gg); (case ee => walk_at "as"); (case gg => walk_at "tr1"))
  | ((with_reducible refine' But.at ?ee ?ff ?gg); (case ee => walk_at "as"); (case ff => walk_at "ne0"); (case gg => walk_at "tr1"))
  | ((with_reducible refine' But.stm ?ee ?ff ?gg); (case ee => walk_at "as"); (case ff => walk_at "ne0"); (case gg => walk_at "tr1")))
local macro_rules | `(tactic| walk_at "ne0") => `(tactic| first
  | with_reducible assumption
  | (with_reducible apply Ne.symm; with_reducible assumption))
local macro_rules | `(tactic| walk_at "ne") => `(tactic| first
  | with_reducible assumption
  | (with_reducible apply Ne.symm; with_reducible assumption)
  | ((with_reducible refine' stm_ne ?hh ?nn); (case nn => walk_at "as"); (case hh => walk_at "tr1"))
  | ((with_reducible refine' ne_of_none ?hh ?nn); (case nn => walk_at "as"); (case hh => walk_at "tr1"))
  | ((with_reducible apply Ne.symm); (with_reducible refine' ne_of_none ?hh ?nn); (case nn => walk_at "as"); (case hh => walk_at "tr1")))
local macro_rules | `(tactic| walk_at "v") => `(tactic| first
  | with_reducible refine w_seq ?_
  | ((with_reducible refine' w_var ?vv ?_); (case vv => exact rfl))
  | with_reducible refine w_c ?_
  | with_reducible refine w_op ?_
  | with_reducible refine w_asg ?_
  | with_reducible refine w_gName ?_
  | with_reducible refine w_ret ?_
  | with_reducible refine w_ifS ?_
  | with_reducible refine w_drop ?_
  | with_reducible refine w_next ?_
  | with_reducible refine w_cons ?_
  | with_reducible refine w_nil ?_
  | with_reducible refine w_call ?_
  | with_reducible refine w_cb ?_
  | with_reducible refine w_rI0 ?_
  | with_reducible refine w_addI ?_
  | with_reducible refine w_eqI ?_
  | with_reducible refine w_neI ?_
  | with_reducible refine w_eqS ?_
  | with_reducible refine w_neS ?_
  | with_reducible refine w_eqB ?_
  | with_reducible refine w_neB ?_
  | with_reducible refine w_chain ?_
  | with_reducible refine w_test ?_
  | with_reducible refine w_tB ?_
  | with_reducible refine w_bl ?_
  | ((with_reducible refine' w_mulI ?vv ?_); (case vv => walk_at "side"))
  | ((with_reducible refine' w_rI ?vv ?_); (case vv => walk_at "side"))
  | with_reducible refine w_int1 ?_
  | with_reducible refine w_int1b ?_
  | with_reducible refine w_tup ?_
  | with_reducible refine w_lst ?_
  | with_reducible refine w_un ?_
  | with_reducible refine w_rU ?_
  | with_reducible refine w_not ?_
  | with_reducible refine w_notV ?_
  | with_reducible refine w_ifE ?_
  | with_reducible refine w_nT ?_
  | with_reducible refine w_nF ?_
  | with_reducible refine iteT ?_
  | with_reducible refine iteF ?_
  | ((with_reducible refine' w_ixT ?vv ?ww ?_); (case vv => walk_at "tr"); (case ww => walk_at "ix"))
  | ((with_reducible refine' w_ixL ?vv ?ww ?_); (case vv => walk_at "tr"); (case ww => walk_at "ix"))
  | with_reducible refine w_gSub ?_
  | ((with_reducible refine' w_setL ?vv ?ww ?_); (case vv => walk_at "tr"); (case ww => first | rfl | decide | assumption))
  | ((with_reducible refine' w_lenL ?vv ?_); (case vv => walk_at "tr"))
  | ((with_reducible refine' w_lenT ?vv ?_); (case vv => walk_at "tr"))
  | with_reducible refine w_max2 ?_
  | with_reducible refine w_max3 ?_
  | with_reducible refine w_din ?_
  | with_reducible refine w_dnotin ?_
  | with_reducible refine w_dput ?_
  | with_reducible refine w_min2 ?_
  | with_reducible refine w_bm ?_
  | with_reducible refine w_bm0 ?_
  | ((with_reducible refine' w_tyL ?vv ?_); (case vv => walk_at "tr"))
  | ((with_reducible refine' w_append ?vv ?ww ?_); (case vv => walk_at "tr"); (case ww => walk_at "size"))
  | ((with_reducible refine' w_size ?vv ?_); (case vv => walk_at "size"))
  | with_reducible refine w_forL ?_
  | with_reducible refine w_forT ?_
  | with_reducible refine w_forR1 ?_
  | with_reducible refine w_forR2 ?_
  | with_reducible refine w_lcL ?_
  | with_reducible refine w_lcT ?_
  | with_reducible refine w_lcR1 ?_
  | with_reducible refine w_yes ?_
  | with_reducible refine w_sl ?_
  | with_reducible refine w_noPart ?_
  | with_reducible refine w_part ?_
  | with_reducible refine w_int ?_
  | ((with_reducible refine' w_slL ?vv ?_); (case vv => walk_at "tr"))
  | ((with_reducible refine' w_seqL ?vv ?ww ?_); (case vv => walk_at "tr"); (case ww => rfl))
  | ((with_reducible refine' w_seqT ?vv ?ww ?_); (case vv => walk_at "tr"); (case ww => rfl))
  | with_reducible refine w_gNil ?_
  | with_reducible refine w_gCons ?_
  | with_reducible refine w_forZ ?_
  | with_reducible refine w_forM ?_
  | with_reducible refine w_forE ?_
  | with_reducible refine w_forV ?_
  | with_reducible refine w_lcZ ?_
  | with_reducible refine w_lcE ?_
  | ((with_reducible refine' w_isi (b := true) ?vv ?ww ?_); (case vv => walk_at "ty"); (case ww => decide +kernel))
  | ((with_reducible refine' w_isi (b := false) ?vv ?ww ?_); (case vv => walk_at "ty"); (case ww => decide +kernel))
  | with_reducible refine w_revL ?_
  | with_reducible refine w_pairN ?_
  | with_reducible refine w_pairC ?_
  | with_reducible refine w_dget ?_
  | with_reducible refine w_met ?_
  | ((with_reducible refine' w_metAt ?vv ?ww ?_); (case vv => walk_at "tr"); (case ww => rfl))
  | with_reducible refine w_mkI ?_
  | with_reducible refine w_fld ?_
  | ((with_reducible refine' w_fldAt ?vv ?cc ?nn ?ww ?_); (case vv => walk_at "tr"); (case cc => walk_at "cls"); (case nn => walk_at "na"); (case ww => rfl))
  | with_reducible refine w_sfld ?_
  | ((with_reducible refine' w_sfldAt ?vv ?cc ?nn ?ll ?ee ?_); (case vv => walk_at "tr"); (case cc => walk_at "cls"); (case nn => walk_at "na"); (case ll => simp); (case ee => rfl))
  | ((with_reducible refine' w_tupL ?vv ?_); (case vv => walk_at "tr"))
  | ((with_reducible refine' w_tupT ?vv ?_); (case vv => walk_at "tr"))
  | ((with_reducible refine' w_listL ?vv ?_); (case vv => walk_at "tr"))
  | ((with_reducible refine' w_listT ?vv ?_); (case vv => walk_at "tr"))
  | with_reducible refine w_tyS ?_
  | with_reducible refine w_lcZM ?_
  | with_reducible refine w_js ?_
  | with_reducible refine w_jsN ?_
  | ((with_reducible refine' w_jsP ?vv ?_); (case vv => walk_at "size"))
  | with_reducible refine w_fmt ?_
  | with_reducible refine w_forRR ?_
  | with_reducible refine w_retN ?_
  | with_reducible refine w_break ?_
  | with_reducible refine w_cont ?_)
local macro_rules | `(tactic| walk_at "w") => `(tactic| first
  | walk_at "v"
  | with_reducible refine w_or ?_
  | with_reducible refine w_and ?_
  | with_reducible refine w_andV ?_
  | with_reducible refine w_orV ?_)
local macro_rules | `(tactic| walk_at "wd") => `(tactic| first
  | walk_at "w"
  | ((with_reducible refine' w_decT ?vv ?_); (case vv => decide +kernel))
  | ((with_reducible refine' w_decF ?vv ?_); (case vv => decide +kernel)))
local macro_rules | `(tactic| walk_at "tz") => `(tactic| (intro S z; (repeat walk_at "w"); exact z))
local macro_rules | `(tactic| walk_at "wf") => `(tactic| first
  | walk_at "wd"
  | ((with_reducible refine' w_decF ?vv ?_); (case vv => with_reducible assumption)))
section
variable {X : Cx} {K : PySem.W.Frag} {H : Hp} {Q : VK}
/-- max, min of a list of ints; max of three -/
def rMaxO (K : PySem.W.Frag) : List V → Hp → VK → Prop := fun vs H Q => ∃ (a : Addr) (ns : List Int), vs = [V.ref a] ∧ SqL K H a (ns.map V.int) ∧ 0 < ns.length ∧ ∀ m, m ∈ ns → (∀ y, y ∈ ns → y ≤ m) → Q (.int m) H
theorem call_maxL (hK : X.K = K) (hc : X.calm = true) : CallR X (.builtin "max") (rMaxO K) := by subst hK; exact cr_max hc
theorem w_maxL {a : Addr} {ns : List Int} (h : SqL K H a (ns.map V.int)) (hl : 0 < ns.length) (k : ∀ m, m ∈ ns → (∀ y, y ∈ ns → y ≤ m) → Q (.int m) H) : rMaxO K [.ref a] H Q := ⟨a, ns, rfl, h, hl, k⟩
def rMax3 : List V → Hp → VK → Prop := fun xs H Q => ∃ i j k : Int, xs = [.int i, .int j, .int k] ∧ Q (.int (max (max i j) k)) H
theorem lt3 (i j : Int) : (if decide (j > i) = true then V.int j else .int i) = .int (max i j) := by
  by_cases h : j > i
  · rw [decide_eq_true h, if_pos rfl]; exact congrArg V.int (by omega)
  · rw [decide_eq_false h, if_neg Bool.false_ne_true]; exact congrArg V.int (by omega)
theorem call_max3A (hc : X.calm = true) : CallR X (.builtin "max") rMax3 := fun pins s σ H xs us Q I r h => by
  obtain ⟨i, j, k, rfl, q⟩ := h
  refine call_max3Nu hc pins s σ H _ us Q I r ⟨.int i, .int j, .int k, .int (max (max i j) k), rfl, ?_, q⟩
  have m2 : ∀ i j : Int, nuMax2 (.int i) (.int j) = some (.int (max i j)) := fun i j => by
    show some _ = _
    exact congrArg some (lt3 i j)
  show (nuMax2 (.int i) (.int j)).bind _ = _
  rw [m2]
  exact m2 _ _
theorem w_max3 {i j k : Int} (q : Q (.int (max (max i j) k)) H) : rMax3 [.int i, .int j, .int k] H Q := ⟨i, j, k, rfl, q⟩
/-- list.index -/
theorem mt_indexA (hK : X.K = K) : MtR X "list.index" (rIndex K) := by subst hK; exact mt_index
theorem w_indexI {a : Addr} {ns : List Int} {k : Int} {j : Nat} (h : SqL K H a (ns.map V.int)) (e : ns[j]? = some k) (no : ∀ m, m < j → ns[m]? ≠ some k) (q : Q (.int (j : Nat)) H) : rIndex K (.ref a) [.int k] H Q :=
  ⟨a, ns.map V.int, .int k, j, .int k, rfl, rfl, h, rfl, by rw [List.all_eq_true]; intro x hx; obtain ⟨_, _, rfl⟩ := List.mem_map.mp hx; rfl, by rw [List.getElem?_map, e]; rfl, by simp [eqV], fun m z hm hz => by
    rw [List.getElem?_map] at hz
    cases h2 : ns[m]? with
    | none => rw [h2] at hz; cases hz
    | some y =>
      rw [h2] at hz
      cases Option.some.inj hz
      have : y ≠ k := fun z => no m hm (by rw [h2, z])
      simp [eqV, this], q⟩
/-- list(range(n)) -/
def rRng1 : List V → Hp → VK → Prop := fun vs H Q => ∃ j : Int, vs = [V.int j] ∧ NewO (.rng 0 j) H Q
theorem call_rng1 : CallR X (.type "range") rRng1 := by
  intro pins s σ H vs us Q I r h
  obtain ⟨j, rfl, q⟩ := h
  obtain ⟨u, rfl, ru⟩ := vals1 r
  obtain ⟨t, rfl⟩ := ru
  refine call_range_1 ⟨.ref s.heap.objs.size, upd H s.heap.objs.size (.rng 0 j), I.laid (t' := s.toks + 1 + 1) (fun b o e => Heap.get?_push_of_some _ e) (Nat.le_refl _) ?_, rfl, q _ (I.hok.fresh (Nat.le_refl _))⟩
  exact ⟨s.toks, t, s.toks + 1, Heap.get?_push_size _ rfl⟩
def rListRng : List V → Hp → VK → Prop := fun vs H Q => ∃ (a : Addr) (j : Int), vs = [V.ref a] ∧ H a = some (.rng 0 j) ∧ 0 ≤ j ∧ j ≤ 1000 ∧ NewO (.lst ((List.range j.toNat).map fun i : Nat => V.int (i : Int))) H Q
theorem vals_ixR : ∀ {xs : List V} {us : List Value}, xs.length = us.length → (∀ (j : Nat) (x : V) (u : Value), xs[j]? = some x → us[j]? = some u → RelV x u) → Vals xs us
  | [], [], _, _ => .nil
  | [], _ :: _, h, _ => by simp at h
  | _ :: _, [], h, _ => by simp at h
  | x :: xs, u :: us, h, f => .cons (f 0 x u rfl rfl) (vals_ixR (by simpa using h) fun j y w h1 h2 => f (j + 1) y w (by simpa using h1) (by simpa using h2))
theorem vals_items {acc : Array Value} {n : Nat} (h : ItemsOf (fun i v => ∃ t, v = Value.int (0 + (i : Int) * 1) t) acc n) : Vals ((List.range n).map fun i : Nat => V.int (i : Int)) acc.toList := by
  refine vals_ixR (by rw [List.length_map, List.length_range, Array.length_toList]; exact h.1.symm) fun j x u hx hu => ?_
  rw [List.getElem?_map] at hx
  cases hr : (List.range n)[j]? with
  | none => rw [hr] at hx; cases hx
  | some i =>
    rw [hr] at hx
    obtain ⟨hl, he⟩ := List.getElem?_eq_some_iff.mp hr
    rw [List.getElem_range] at he
    subst he
    rw [List.length_range] at hl
    cases Option.some.inj hx
    rw [Array.getElem?_toList] at hu
    obtain ⟨t, rfl⟩ := h.2 j u hu
    exact ⟨t, by rw [Int.zero_add, Int.mul_one]⟩
theorem call_listRng (hc : X.calm = true) : CallR X (.type "list") rListRng := by
  intro pins s σ H vs us Q I r h
  obtain ⟨a, j, rfl, ha, h0, h1, q⟩ := h
  obtain ⟨u, rfl, ru⟩ := vals1 r
  obtain rfl : u = Value.ref a := ru
  obtain ⟨t, u, v, hr⟩ := I.hok a _ ha
  refine call_list_range (n := j.toNat) (I.ok.hd hc) hr ?_ ?_ (by omega) fun h' tk acc' c' hk hS hi => ?_
  · exact PySem.small_one (by decide) (by decide) (by omega) (by omega)
  · rw [PySem.rangeSize_one]
    by_cases z : 0 < j
    · rw [if_pos z]; omega
    · rw [if_neg z]; omega
  · refine ⟨.ref s.heap.objs.size, upd H s.heap.objs.size (.lst _), I.laid (t' := tk) hk (Nat.le_refl _) ⟨?_, acc'.toList, c', vals_items hi, by simpa using hS⟩, rfl, q _ (I.hok.fresh (Nat.le_refl _))⟩
    rw [List.length_map, List.length_range, sizeLine_eq]
    omega
theorem w_rng1 {j : Int} (k : NewO (.rng 0 j) H Q) : rRng1 [.int j] H Q := ⟨j, rfl, k⟩
theorem w_listRng {a : Addr} {j : Int} (h : H a = some (.rng 0 j)) (h0 : 0 ≤ j) (h1 : j ≤ 1000) (k : NewO (.lst ((List.range j.toNat).map fun i : Nat => V.int (i : Int))) H Q) : rListRng [.ref a] H Q := ⟨a, j, rfl, h, h0, h1, k⟩
/-- list.remove -/
theorem w_remove {a : Addr} {ns : List Int} {k : Int} {j : Nat} (h : H a = some (.lst (ns.map V.int))) (e : ns[j]? = some k) (no : ∀ m, m < j → ns[m]? ≠ some k) (q : ChgO a (.lst ((ns.eraseIdx j).map V.int)) H (Q .non)) : rRemI (.ref a) [.int k] H Q := ⟨a, ns, k, j, rfl, rfl, h, e, no, q⟩
end
section
variable {K : PySem.W.Frag} {H : Hp} {Q : VK} {σ : L2.St} {ty td tv : TE}
theorem w_din (k : ty σ H fun y H1 => td σ H1 fun x H2 => ∃ a o, x = .ref a ∧ DGet H2 a y o ∧ Q (.bl o.isSome) H2) : tDIn ty td σ H Q := k
theorem w_dnotin (k : ty σ H fun y H1 => td σ H1 fun x H2 => ∃ a o, x = .ref a ∧ DGet H2 a y o ∧ Q (.bl (!o.isSome)) H2) : tDNotIn ty td σ H Q := k
theorem w_dput {D : L2.Ends} (k : tv σ H fun v H1 => td σ H1 fun x H2 => ty σ H2 fun y H3 => ∃ a H4, x = .ref a ∧ DPut H3 a y v H4 ∧ D.nx σ H4) : sDPut td ty tv D σ H := k
end
/-- a comprehension within one -/
theorem lookup_rel {env : Env} : ∀ {names : List (Str × NameKind)} {x : Str}, (names.lookup x = some .cell ∨ names.lookup x = some .free) →
    ((names.map fun (n, k) => if (k == NameKind.free && env.scope.kind == .function && env.kindOf n == some .cell) then (n, NameKind.cell) else (n, k)).lookup x = some .cell ∨
     (names.map fun (n, k) => if (k == NameKind.free && env.scope.kind == .function && env.kindOf n == some .cell) then (n, NameKind.cell) else (n, k)).lookup x = some .free)
  | [], x, h => by simp at h
  | (n, k) :: r, x, h => by
    have ih := @lookup_rel env r x
    show List.lookup x ((if (k == NameKind.free && env.scope.kind == .function && env.kindOf n == some .cell) = true then (n, NameKind.cell) else (n, k)) :: _) = _ ∨ List.lookup x ((if (k == NameKind.free && env.scope.kind == .function && env.kindOf n == some .cell) = true then (n, NameKind.cell) else (n, k)) :: _) = _
    cases hx : x == n with
    | true =>
      simp only [List.lookup_cons, hx] at h
      by_cases hc : (k == NameKind.free && env.scope.kind == .function && env.kindOf n == some .cell) = true
      · rw [if_pos hc]; simp only [List.lookup_cons, hx]; exact .inl trivial
      · rw [if_neg hc]; simp only [List.lookup_cons, hx]; exact h
    | false =>
      simp only [List.lookup_cons, hx] at h
      by_cases hc : (k == NameKind.free && env.scope.kind == .function && env.kindOf n == some .cell) = true
      · rw [if_pos hc]; simp only [List.lookup_cons, hx]; exact ih h
      · rw [if_neg hc]; simp only [List.lookup_cons, hx]; exact ih h
theorem blkOk_rel {N : List Str} {sc0 scope : Scope} {env : Env} {own : List (Str × Nat)} (h : blkC N sc0 scope own = true) : BlkOk N (relabel sc0 env) scope own := by
  have b := blkOk_by h
  exact ⟨b.kind, b.uniq, b.ix, fun y hy e => lookup_rel (b.free y hy e), b.own⟩

end J
namespace J
open PySem PySem.Spec PyProof.Rows L2
local macro_rules | `(tactic| walk_at "cls") => `(tactic| first
  | with_reducible exact Facts.cl_Step
  | with_reducible exact Facts.cl_Get
  | with_reducible exact Facts.cl_Ask
  | with_reducible exact Facts.cl_Cell
  | with_reducible exact Facts.cl_Two
  | with_reducible exact Facts.cl_Put
  | with_reducible exact Facts.cl_Tell
  | with_reducible exact Facts.cl_Store)
local macro_rules | `(tactic| walk_at "na") => `(tactic| first
  | with_reducible exact Facts.na_Get_to
  | with_reducible exact Facts.na_Get_sel
  | with_reducible exact Facts.na_Ask_to
  | with_reducible exact Facts.na_Ask_sel
  | with_reducible exact Facts.na_Cell_to
  | with_reducible exact Facts.na_Cell_source
  | with_reducible exact Facts.na_Two_to
  | with_reducible exact Facts.na_Two_op
  | with_reducible exact Facts.na_Two_one
  | with_reducible exact Facts.na_Two_other
  | with_reducible exact Facts.na_Put_sel
  | with_reducible exact Facts.na_Put_source
  | with_reducible exact Facts.na_Tell_sel
  | with_reducible exact Facts.na_Tell_source
  | with_reducible exact Facts.na_Store_at
  | with_reducible exact Facts.na_Store_source)
local macro_rules | `(tactic| walk_at "ty") => `(tactic| first
  | with_reducible exact ty_int
  | with_reducible exact ty_bl
  | with_reducible exact ty_str
  | with_reducible exact ty_non
  | ((with_reducible refine' ty_lst ?vv); (case vv => walk_at "tr"))
  | ((with_reducible refine' ty_sqT ?vv); (case vv => walk_at "tr"))
  | ((with_reducible refine' ty_dic ?vv); (case vv => walk_at "tr")))
local macro_rules | `(tactic| walk_at "ix") => `(tactic| first | exact at0 | exact at1 | exact at2 | assumption)
local macro_rules | `(tactic| walk_at "size") => `(tactic| first
  | assumption
  | (show _ < sizeLine; rw [sizeLine_eq]; (try simp only [List.length_cons, List.length_nil, List.length_append, List.length_map]); omega)
  | (show _ ≤ sizeLine; rw [sizeLine_eq]; (try simp only [List.length_cons, List.length_nil, List.length_append, List.length_map]); omega))
local macro_rules | `(tactic| walk_at "side") => `(tactic| first
  | assumption
  | ((with_reducible refine cdw ?_ ?_) <;> omega)
  | omega
  | (exact ⟨by omega, by omega⟩)
  | (exact Or.inl ⟨by omega, by omega⟩)
  | (exact Or.inr ⟨by omega, by omega⟩)
  | decide
  | (simp only [List.length_cons, List.length_nil, List.length_append, List.length_map]; omega)
  | (show _ ≤ _; decide))
local macro_rules | `(tactic| walk_at "as") => `(tactic| with_reducible assumption)
local macro_rules | `(tactic| walk_at "tr") => `(tactic| first
  | with_reducible assumption
  | with_reducible exact upd_same
  | ((with_reducible refine' SqL.of ?hh); (case hh => walk_at "as"))
  | ((with_reducible refine' SqT.of ?hh); (case hh => walk_at "as"))
  | ((with_reducible refine' Same.stm ?ee ?gg); (case ee => walk_at "as"); (case gg => walk_at "tr"))
  | ((with_reducible refine' Same.sqT ?ee ?gg); (case ee => walk_at "as"); (case gg => walk_at "tr"))
  | ((with_reducible refine' Same.sqL ?ee ?gg); (case ee => walk_at "as"); (case gg => walk_at "tr"))
  | ((with_reducible refine' Same.at ?ee ?gg); (case ee => walk_at "as"); (case gg => walk_at "tr"))
  | ((with_reducible refine' But.stm ?ee ?ff ?gg); (case ee => walk_at "as"); (case ff => walk_at "ne"); (case gg => walk_at "tr"))
  | ((with_reducible refine' But.tup ?ee ?ff ?gg); (case ee => walk_at "as"); (case ff => walk_at "tr1"); (case gg => walk_at "tr"))
  | ((with_reducible refine' But.sqT ?ee ?ff ?gg); (case ee => walk_at "as"); (case ff => walk_at "tr1"); (case gg => walk_at "tr"))
  | ((with_reducible refine' But.tupL ?ee ?ff ?gg); (case ee => walk_at "as"); (case ff => walk_at "tr1"); (case gg => walk_at "tr"))
  | ((with_reducible refine' But.sqTL ?ee ?ff ?gg); (case ee => walk_at "as"); (case ff => walk_at "tr1"); (case gg => walk_at "tr"))
  | ((with_reducible refine' But.sqL ?ee ?ff ?gg); (case ee => walk_at "as"); (case ff => walk_at "ne"); (case gg => walk_at "tr"))
  | ((with_reducible refine' But.at ?ee ?ff ?gg); (case ee => walk_at "as"); (case ff => walk_at "ne"); (case gg => walk_at "tr")))
local macro_rules | `(tactic| walk_at "ts") => `(tactic| first
  | with_reducible assumption
  | with_reducible exact TS.refl _
  | ((with_reducible refine' TS.trans ?gg (TS.of ?ee)); (case ee => walk_at "as"); (case gg => walk_at "ts"))
  | ((with_reducible refine' TS.trans ?gg (TS.butS ?ee ?ff)); (case ee => walk_at "as"); (case ff => walk_at "tr1"); (case gg => walk_at "ts"))
  | ((with_reducible refine' TS.trans ?gg (TS.butL ?ee ?ff)); (case ee => walk_at "as"); (case ff => walk_at "tr1"); (case gg => walk_at "ts"))
  | ((with_reducible refine' TS.trans ?gg (TS.butI ?ee ?ff)); (case ee => walk_at "as"); (case ff => walk_at "tr1"); (case gg => walk_at "ts")))
local macro_rules | `(tactic| walk_at "sm") => `(tactic| first
  | with_reducible assumption
  | with_reducible exact Same.refl _
  | ((with_reducible refine' Same.trans ?gg ?ee); (case ee => walk_at "as"); (case gg => walk_at "sm"))
  | ((with_reducible refine' But.new ?gg ?nn ?ee); (case ee => walk_at "as"); (case nn => walk_at "fr"); (case gg => walk_at "sm")))
local macro_rules | `(tactic| walk_at "fr") => `(tactic| first
  | with_reducible assumption
  | ((with_reducible refine' Same.back ?ee ?nn); (case nn => walk_at "as"); (case ee => walk_at "sm"))
  | ((with_reducible refine' But.back ?ee ?ff ?nn); (case nn => walk_at "as"); (case ff => walk_at "ne0"); (case ee => walk_at "bu")))
local macro_rules | `(tactic| walk_at "bu") => `(tactic| first
  | with_reducible assumption
  | with_reducible exact But.refl _ _
  | ((with_reducible refine' But.trans ?gg ?ee); (case ee => walk_at "as"); (case gg => walk_at "bu"))
  | ((with_reducible refine' But.trans ?gg (But.of ?ee)); (case ee => walk_at "as"); (case gg => walk_at "bu"))
  | ((with_reducible refine' But.new2 ?gg ?nn ?ee); (case ee => walk_at "as"); (case nn => walk_at "frB"); (case gg => walk_at "bu")))
local macro_rules | `(tactic| walk_at "frB") => `(tactic| first
  | with_reducible assumption
  | ((with_reducible refine' Same.back ?ee ?nn); (case nn => walk_at "as"); (case ee => walk_at "sm"))
  | ((with_reducible refine' But.back' ?ee ?ff ?nn); (case nn => walk_at "as"); (case ee => walk_at "bu"); (case ff => walk_at "tr1")))
local macro_rules | `(tactic| walk_at "tr1") => `(tactic| first
  | with_reducible assumption
  | ((with_reducible refine' Same.stm ?ee ?gg); (case ee => walk_at "as"); (case gg => walk_at "tr1"))
  | ((with_reducible refine' Same.at ?ee ?gg); (case ee => walk_at "as"); (case gg => walk_at "tr1"))
  | ((with_reducible refine' But.at ?ee ?ff ?gg); (case ee => walk_at "as"); (case ff => walk_at "ne0"); (case gg => walk_at "tr1"))
  | ((with_reducible refine' But.stm ?ee ?ff ?gg); (case ee => walk_at "as"); (case ff => walk_at "ne0"); (case gg => walk_at "tr1")))
local macro_rules | `(tactic| walk_at "ne0") => `(tactic| first
  | with_reducible assumption
  | (with_reducible apply Ne.symm; with_reducible assumption))
local macro_rules | `(tactic| walk_at "ne") => `(tactic| first
  | with_reducible assumption
  | (with_reducible apply Ne.symm; with_reducible assumption)
  | ((with_reducible refine' stm_ne ?hh ?nn); (case nn => walk_at "as"); (case hh => walk_at "tr1"))
  | ((with_reducible refine' ne_of_none ?hh ?nn); (case nn => walk_at "as"); (case hh => walk_at "tr1"))
  | ((with_reducible apply Ne.symm); (with_reducible refine' ne_of_none ?hh ?nn); (case nn => walk_at "as"); (case hh => walk_at "tr1")))
local macro_rules | `(tactic| walk_at "v") => `(tactic| first
  | with_reducible refine w_seq ?_
  | ((with_reducible refine' w_var ?vv ?_); (case vv => exact rfl))
  | with_reducible refine w_c ?_
  | with_reducible refine w_op ?_
  | with_reducible refine w_asg ?_
  | with_reducible refine w_gName ?_
  | with_reducible refine w_ret ?_
  | with_reducible refine w_ifS ?_
  | with_reducible refine w_drop ?_
  | with_reducible refine w_next ?_
  | with_reducible refine w_cons ?_
  | with_reducible refine w_nil ?_
  | with_reducible refine w_call ?_
  | with_reducible refine w_cb ?_
  | with_reducible refine w_rI0 ?_
  | with_reducible refine w_addI ?_
  | with_reducible refine w_eqI ?_
  | with_reducible refine w_neI ?_
  | with_reducible refine w_eqS ?_
  | with_reducible refine w_neS ?_
  | with_reducible refine w_eqB ?_
  | with_reducible refine w_neB ?_
  | with_reducible refine w_chain ?_
  | with_reducible refine w_test ?_
  | with_reducible refine w_tB ?_
  | with_reducible refine w_bl ?_
  | ((with_reducible refine' w_mulI ?vv ?_); (case vv => walk_at "side"))
  | ((with_reducible refine' w_rI ?vv ?_); (case vv => walk_at "side"))
  | with_reducible refine w_int1 ?_
  | with_reducible refine w_int1b ?_
  | with_reducible refine w_tup ?_
  | with_reducible refine w_lst ?_
  | with_reducible refine w_un ?_
  | with_reducible refine w_rU ?_
  | with_reducible refine w_not ?_
  | with_reducible refine w_notV ?_
  | with_reducible refine w_ifE ?_
  | with_reducible refine w_nT ?_
  | with_reducible refine w_nF ?_
  | with_reducible refine iteT ?_
  | with_reducible refine iteF ?_
  | ((with_reducible refine' w_ixT ?vv ?ww ?_); (case vv => walk_at "tr"); (case ww => walk_at "ix"))
  | ((with_reducible refine' w_ixL ?vv ?ww ?_); (case vv => walk_at "tr"); (case ww => walk_at "ix"))
  | with_reducible refine w_gSub ?_
  | ((with_reducible refine' w_setL ?vv ?ww ?_); (case vv => walk_at "tr"); (case ww => first | rfl | decide | assumption))
  | ((with_reducible refine' w_lenL ?vv ?_); (case vv => walk_at "tr"))
  | ((with_reducible refine' w_lenT ?vv ?_); (case vv => walk_at "tr"))
  | with_reducible refine w_max2 ?_
  | with_reducible refine w_max3 ?_
  | with_reducible refine w_din ?_
  | with_reducible refine w_dnotin ?_
  | with_reducible refine w_dput ?_
  | with_reducible refine w_min2 ?_
  | with_reducible refine w_bm ?_
  | with_reducible refine w_bm0 ?_
  | ((with_reducible refine' w_tyL ?vv ?_); (case vv => walk_at "tr"))
  | ((with_reducible refine' w_append ?vv ?ww ?_); (case vv => walk_at "tr"); (case ww => walk_at "size"))
  | ((with_reducible refine' w_size ?vv ?_); (case vv => walk_at "size"))
  | with_reducible refine w_forL ?_
  | with_reducible refine w_forT ?_
  | with_reducible refine w_forR1 ?_
  | with_reducible refine w_forR2 ?_
  | with_reducible refine w_lcL ?_
  | with_reducible refine w_lcT ?_
  | with_reducible refine w_lcR1 ?_
  | with_reducible refine w_yes ?_
  | with_reducible refine w_sl ?_
  | with_reducible refine w_noPart ?_
  | with_reducible refine w_part ?_
  | with_reducible refine w_int ?_
  | ((with_reducible refine' w_slL ?vv ?_); (case vv => walk_at "tr"))
  | ((with_reducible refine' w_seqL ?vv ?ww ?_); (case vv => walk_at "tr"); (case ww => rfl))
  | ((with_reducible refine' w_seqT ?vv ?ww ?_); (case vv => walk_at "tr"); (case ww => rfl))
  | with_reducible refine w_gNil ?_
  | with_reducible refine w_gCons ?_
  | with_reducible refine w_forZ ?_
  | with_reducible refine w_forM ?_
  | with_reducible refine w_forE ?_
  | with_reducible refine w_forV ?_
  | with_reducible refine w_lcZ ?_
  | with_reducible refine w_lcE ?_
  | ((with_reducible refine' w_isi (b := true) ?vv ?ww ?_); (case vv => walk_at "ty"); (case ww => decide +kernel))
  | ((with_reducible refine' w_isi (b := false) ?vv ?ww ?_); (case vv => walk_at "ty"); (case ww => decide +kernel))
  | with_reducible refine w_revL ?_
  | with_reducible refine w_pairN ?_
  | with_reducible refine w_pairC ?_
  | with_reducible refine w_dget ?_
  | with_reducible refine w_met ?_
  | ((with_reducible refine' w_metAt ?vv ?ww ?_); (case vv => walk_at "tr"); (case ww => rfl))
  | with_reducible refine w_mkI ?_
  | with_reducible refine w_fld ?_
  | ((with_reducible refine' w_fldAt ?vv ?cc ?nn ?ww ?_); (case vv => walk_at "tr"); (case cc => walk_at "cls"); (case nn => walk_at "na"); (case ww => rfl))
  | with_reducible refine w_sfld ?_
  | ((with_reducible refine' w_sfldAt ?vv ?cc ?nn ?ll ?ee ?_); (case vv => walk_at "tr"); (case cc => walk_at "cls"); (case nn => walk_at "na"); (case ll => simp); (case ee => rfl))
  | ((with_reducible refine' w_tupL ?vv ?_); (case vv => walk_at "tr"))
  | ((with_reducible refine' w_tupT ?vv ?_); (case vv => walk_at "tr"))
  | ((with_reducible refine' w_listL ?vv ?_); (case vv => walk_at "tr"))
  | ((with_reducible refine' w_listT ?vv ?_); (case vv => walk_at "tr"))
  | with_reducible refine w_tyS ?_
  | with_reducible refine w_lcZM ?_
  | with_reducible refine w_js ?_
  | with_reducible refine w_jsN ?_
  | ((with_reducible refine' w_jsP ?vv ?_); (case vv => walk_at "size"))
  | with_reducible refine w_fmt ?_
  | with_reducible refine w_forRR ?_
  | with_reducible refine w_retN ?_
  | with_reducible refine w_break ?_
  | with_reducible refine w_cont ?_)
local macro_rules | `(tactic| walk_at "w") => `(tactic| first
  | walk_at "v"
  | with_reducible refine w_or ?_
  | with_reducible refine w_and ?_
  | with_reducible refine w_andV ?_
  | with_reducible refine w_orV ?_)
local macro_rules | `(tactic| walk_at "wd") => `(tactic| first
  | walk_at "w"
  | ((with_reducible refine' w_decT ?vv ?_); (case vv => decide +kernel))
  | ((with_reducible refine' w_decF ?vv ?_); (case vv => decide +kernel)))
local macro_rules | `(tactic| walk_at "tz") => `(tactic| (intro S z; (repeat walk_at "w"); exact z))
local macro_rules | `(tactic| walk_at "wf") => `(tactic| first
  | walk_at "wd"
  | ((with_reducible refine' w_decF ?vv ?_); (case vv => with_reducible assumption)))
/-! ### texts by their signs -/
open SX
theorem S_inj_iff {a b : List Nat} : S a = S b ↔ a = b := ⟨S_inj, fun h => by rw [h]⟩
theorem cut_ab {l : List Nat} {a b : Int} (ha : 0 ≤ a) (hb : 0 ≤ b) : cutS (S l) (some a) (some b) = S ((l.drop a.toNat).take (b.toNat - a.toNat)) := by
  unfold cutS
  have e : ∀ {c : Int} {d : Nat}, 0 ≤ c → HT.sIx (S l).length d (some c) = min c.toNat l.length := fun {c d} h => by
    show (if c < 0 then (c + ((S l).length : Int)).toNat else min c.toNat (S l).length) = _
    rw [if_neg (by omega), S_len]
  rw [e ha, e hb]
  congr 1
  show ((l.drop _).take _).toArray = _
  congr 1
  by_cases h : a.toNat ≤ l.length
  · rw [Nat.min_eq_left h]
    by_cases h2 : b.toNat ≤ l.length
    · rw [Nat.min_eq_left h2]
    · rw [Nat.min_eq_right (by omega), List.take_of_length_le (by rw [List.length_drop]; omega), List.take_of_length_le (by rw [List.length_drop]; omega)]
  · have e1 : l.drop a.toNat = [] := List.drop_of_length_le (by omega)
    have e2 : min a.toNat l.length = l.length := Nat.min_eq_right (by omega)
    rw [e1, e2, List.drop_length, List.take_nil, List.take_nil]
theorem cut_b {l : List Nat} {b : Int} (hb : 0 ≤ b) : cutS (S l) none (some b) = S (l.take b.toNat) := by
  unfold cutS
  have e : HT.sIx (S l).length (S l).length (some b) = min b.toNat l.length := by
    show (if b < 0 then (b + ((S l).length : Int)).toNat else min b.toNat (S l).length) = _
    rw [if_neg (by omega), S_len]
  rw [e, HT.sIx_none]
  congr 1
  show ((l.drop 0).take _).toArray = _
  rw [List.drop_zero, Nat.sub_zero]
  congr 1
  by_cases h2 : b.toNat ≤ l.length
  · rw [Nat.min_eq_left h2]
  · rw [Nat.min_eq_right (by omega), List.take_of_length_le (Nat.le_refl _), List.take_of_length_le (by omega)]
theorem in_strs (x : Str) (ys : List Str) : inV (.str x) (ys.map V.str) = decide (x ∈ ys) := by
  induction ys with
  | nil => rfl
  | cons y ys ih =>
    rw [List.map_cons]
    unfold inV at ih ⊢
    rw [List.any_cons, ih]
    show (y == x || decide (x ∈ ys)) = _
    by_cases h : y = x
    · subst h; simp
    · have : (y == x) = false := by
        cases e : y == x with
        | false => rfl
        | true => exact (h (eq_of_beq e)).elim
      rw [this, Bool.false_or]
      have h' : ¬ x = y := fun z => h z.symm
      simp [h']
theorem flat_strs (ys : List Str) : (ys.map V.str).all flatV = true := by
  induction ys with
  | nil => rfl
  | cons y ys ih => rw [List.map_cons, List.all_cons, ih]; rfl
section
variable {K : PySem.W.Frag} {σ : L2.St} {H : Hp} {Q : VK} {nx : L2.St → Hp → Prop} {rt : VK} {bk ct : L2.St → Hp → Prop} {t u : L2.TS} {tt tu : TT}
theorem w_inSL {p : Addr} {x : Str} {ys : List Str} (h : SqL K H p (ys.map V.str)) (k : Q (.bl (decide (x ∈ ys))) H) : rInA K false (.str x) (.ref p) H Q := w_inL h rfl (flat_strs ys) (by rw [in_strs]; exact k)
theorem w_inST {p : Addr} {x : Str} {ys : List Str} (h : SqT K H p (ys.map V.str)) (k : Q (.bl (decide (x ∈ ys))) H) : rInA K false (.str x) (.ref p) H Q := w_inT h rfl (flat_strs ys) (by rw [in_strs]; exact k)
theorem w_in1 {c : Nat} {y : Str} (k : Q (.bl (decide (c ∈ TL.tl y))) H) : rInA K false (.str (S [c])) (.str y) H Q := .inr ⟨_, _, rfl, rfl, by
  rw [show (!(Builtin.Str.occurrences y (S [c]) 0 y.length 1).isEmpty) = decide (c ∈ TL.tl y) from StrLaws.found_one y c]
  exact k⟩
theorem w_ni1 {c : Nat} {y : Str} (k : Q (.bl (!decide (c ∈ TL.tl y))) H) : rInA K true (.str (S [c])) (.str y) H Q := .inr ⟨_, _, rfl, rfl, by
  rw [show (!(Builtin.Str.occurrences y (S [c]) 0 y.length 1).isEmpty) = decide (c ∈ TL.tl y) from StrLaws.found_one y c]
  exact k⟩
theorem w_ixC {l : List Nat} {c : Nat} {n : Int} (h : l.length ≤ sizeLine) (h0 : 0 ≤ n) (ha : l[n.toNat]? = some c) (k : Q (.str (S [c])) H) : rIx K (.str (S l)) (.int n) H Q := w_ixS (by rw [S_len]; exact h) (atI_of h0 ha) k
theorem w_slAB {l : List Nat} {a b : Int} (h : l.length ≤ sizeLine) (ha : 0 ≤ a) (hb : 0 ≤ b) (k : Q (.str (S ((l.drop a.toNat).take (b.toNat - a.toNat)))) H) : rSlAny K (.str (S l)) (some a) (some b) H Q :=
  w_slS (by rw [S_len]; exact h) (by rw [cut_ab ha hb]; exact k)
theorem w_slB {l : List Nat} {b : Int} (h : l.length ≤ sizeLine) (hb : 0 ≤ b) (k : Q (.str (S (l.take b.toNat))) H) : rSlAny K (.str (S l)) none (some b) H Q :=
  w_slS (by rw [S_len]; exact h) (by rw [cut_b hb]; exact k)
theorem w_lenC {l : List Nat} (h : l.length ≤ sizeLine) (k : Q (.int l.length) H) : rLenA K [.str (S l)] H Q := w_lenS (by rw [S_len]; exact h) (by rw [S_len]; exact k)
theorem w_addC {a b : List Nat} (h : a.length + b.length ≤ sizeLine) (k : Q (.str (S (a ++ b))) H) : rAddA K (.str (S a)) (.str (S b)) H Q := w_addS (by rw [S_len, S_len]; exact h) (by rw [S_cat]; exact k)
theorem w_eqC {a b : List Nat} (k : Q (.bl (decide (a = b))) H) : rEqA K (.str (S a)) (.str (S b)) H Q := w_eqS (by rw [show decide (S a = S b) = decide (a = b) by rw [decide_eq_decide]; exact S_inj_iff]; exact k)
theorem w_neC {a b : List Nat} (k : Q (.bl (!decide (a = b))) H) : rNeA K (.str (S a)) (.str (S b)) H Q := w_neS (by rw [show decide (S a = S b) = decide (a = b) by rw [decide_eq_decide]; exact S_inj_iff]; exact k)
theorem w_extend {l b : Addr} {xs zs : List V} (h1 : H l = some (.lst xs)) (h2 : H b = some (.lst zs)) (h : xs.length + zs.length ≤ sizeLine) (k : ChgO l (.lst (xs ++ zs)) H (Q .non)) : rExtend (.ref l) [.ref b] H Q := ⟨l, b, xs, zs, rfl, rfl, h1, h2, h, k⟩
def rJoin (K : PySem.W.Frag) : V → List V → Hp → VK → Prop := fun x xs H Q => ∃ a p, ∃ ys : List Str, x = .str a ∧ xs = [.ref p] ∧ (SqL K H p (ys.map V.str) ∨ SqT K H p (ys.map V.str)) ∧ (ys.map (·.length)).sum + ys.length * a.length ≤ 16777216 ∧ Q (.str (Txt.join a ys)) H
theorem mt_joinA {X : Cx} {K : PySem.W.Frag} (hK : X.K = K) : MtR X "str.join" (rJoin K) := by
  subst hK
  exact mt_join
theorem w_replC {to : TE} {y z : Str} (k : to σ H fun v H1 => ∃ x, v = .str x ∧ x.length + (x.length + 1) * z.length ≤ 16777216 ∧ Q (.str (Txt.replace x y z)) H1) : CwR.tReplC to y z σ H Q := k
theorem w_replS {R : V → Prop} {y z : Str} {l : List Nat} (h : l.length + (l.length + 1) * z.length ≤ 16777216) (k : R (.str (Txt.replace (S l) y z))) : ∃ x, V.str (S l) = .str x ∧ x.length + (x.length + 1) * z.length ≤ 16777216 ∧ R (.str (Txt.replace x y z)) := ⟨S l, rfl, by rw [S_len]; exact h, k⟩
theorem sum_flat (ys : List (List Nat)) : (ys.map (·.length)).sum = ys.flatten.length := by
  rw [List.length_flatten]
theorem w_joinL {p : Addr} {a : List Nat} {ys : List (List Nat)} (h : SqL K H p ((ys.map S).map V.str)) (hz : ys.flatten.length + ys.length * a.length ≤ 16777216) (k : Q (.str (S (TL.joinL a ys))) H) : rJoin K (.str (S a)) [.ref p] H Q :=
  ⟨S a, p, ys.map S, rfl, rfl, .inl h, by rw [lens, List.length_map, sum_flat, S_len]; exact hz, by rw [join_S]; exact k⟩
theorem joinL_nil (ys : List (List Nat)) : TL.joinL [] ys = ys.flatten := by
  induction ys with
  | nil => rfl
  | cons y ys ih =>
    cases ys with
    | nil => simp [TL.joinL]
    | cons z ys => rw [TL.joinL, ih]; rfl
/-- a list of texts -/
def TV (ts : List (List Nat)) : List V := (ts.map S).map V.str
theorem TV_app (a b : List (List Nat)) : TV (a ++ b) = TV a ++ TV b := by unfold TV; rw [List.map_append, List.map_append]
theorem TV_len (a : List (List Nat)) : (TV a).length = a.length := by unfold TV; rw [List.length_map, List.length_map]
/-- while: the word with its measure -/
theorem w_while (Pv : Nat → L2.St → Hp → Prop) (m : Nat) (h0 : Pv m σ H) (hs : ∀ m σ H, Pv m σ H → tt σ H fun b H1 => if b = true then ∃ N : L2.St → Hp → Prop, (∀ σ' H', N σ' H' → ∃ m', m' < m ∧ Pv m' σ' H') ∧ t ⟨N, rt, nx, N⟩ σ H1 else nx σ H1) :
    tWhile tt t ⟨nx, rt, bk, ct⟩ σ H := ⟨Pv, ⟨m, h0⟩, hs⟩
theorem w_whB {m : Nat} {Pv : Nat → L2.St → Hp → Prop} (k : t ⟨fun σ' H' => ∃ m', m' < m ∧ Pv m' σ' H', rt, nx, fun σ' H' => ∃ m', m' < m ∧ Pv m' σ' H'⟩ σ H) : ∃ N : L2.St → Hp → Prop, (∀ σ' H', N σ' H' → ∃ m', m' < m ∧ Pv m' σ' H') ∧ t ⟨N, rt, nx, N⟩ σ H :=
  ⟨_, fun _ _ z => z, k⟩
end
/-! ### replace of written texts: a token is out -/
def PEp (X : Cx) (e : Expr) (t : TE) : Prop :=
  ∀ (pins : List (Addr × Obj)) (s : Shared) (σ : L2.St) (H : Hp) (Q : VK), Inv X pins σ H s → t σ H Q → wpAny (model X.prog X.w) X.A (eval e X.env) (fun v s' => 1 ≤ s'.toks ∧ EP X pins σ Q v s') X.xe s
section
variable {X : Cx} {K : PySem.W.Frag} {o e a b : Expr} {es : List Expr} {to ta' tb : TE} {t : TA} {T : String} {id : String} {name : Str} {apos cpos pos : Pos} {r : V → List V → Hp → VK → Prop}
theorem pet_bmo (pa : PlainAttrs T) (slot : Slot T name id) (hty : typeOf (.builtin id) = pure (.type "method_descriptor")) (hm : MtR X id r) (ho : PET X o to) (ha : PA X (e :: es) t) (hK : X.K = K)
    (hbase : attributeBase o name X.env (eval o X.env) = eval o X.env := by rfl)
    (hfew : ((backTo cpos (starEach (e :: es) X.env)).all (fun x => !x.1) && (backToKw cpos (keywordEach [] X.env)).all (fun x => x.1.isSome)
      && decide ((e :: es).length + ([] : List Keyword).length + (if ([] : List Keyword).isEmpty then 0 else 1) < 30)) = true := by rfl)
    (hline : (apos.endLine == cpos.line) = true := by rfl) (hs : starEach (e :: es) X.env = (false, eval e X.env) :: starEach es X.env := by rfl) (hplain : (backTo cpos (starEach es X.env)).any (·.1) = false := by rfl) :
    PET X (.Call (.Attribute o name apos) (e :: es) [] cpos) (tBM K T r to t) := by
  subst hK
  intro pins s σ H Q h0 I h
  refine wpAny_Call_method_late hbase hfew hline rfl (thn (ho pins s σ H _ h0 I h) fun v s1 ⟨x, H1, I1, r1, ty, q1⟩ => ?_)
  obtain ⟨h1, h2⟩ := tyV_is I1 r1 ty
  refine ⟨T, id, pa, slot, hty, h1, h2, ?_⟩
  have hA := ha.run cpos pins s1 σ H1 _ I1 q1
  rw [hs] at hA ⊢
  refine Calls.callWith_builtin (by show (false || (backTo cpos (starEach es X.env)).any (·.1)) = false; rw [hplain] <;> rfl) (Calls.evalArgs_plain ?_)
  exact thn hA fun us s2 ⟨vs, H2, I2, r2, q2⟩ => hm pins s2 σ H2 x vs v us Q I2 r1 r2 q2
theorem pet_bma (pa : PlainAttrs T) (slot : Slot T name id) (hty : typeOf (.builtin id) = pure (.type "method_descriptor")) (hm : MtR X id r) (ho : PE X o to) (ha : PAT X (e :: es) t) (hK : X.K = K)
    (hbase : attributeBase o name X.env (eval o X.env) = eval o X.env := by rfl)
    (hfew : ((backTo cpos (starEach (e :: es) X.env)).all (fun x => !x.1) && (backToKw cpos (keywordEach [] X.env)).all (fun x => x.1.isSome)
      && decide ((e :: es).length + ([] : List Keyword).length + (if ([] : List Keyword).isEmpty then 0 else 1) < 30)) = true := by rfl)
    (hline : (apos.endLine == cpos.line) = true := by rfl) (hs : starEach (e :: es) X.env = (false, eval e X.env) :: starEach es X.env := by rfl) (hplain : (backTo cpos (starEach es X.env)).any (·.1) = false := by rfl) :
    PET X (.Call (.Attribute o name apos) (e :: es) [] cpos) (tBM K T r to t) := by
  subst hK
  intro pins s σ H Q h0 I h
  refine wpAny_Call_method_late hbase hfew hline rfl (wpAny_mono (PySem.wpAny_toks (ho.run pins s σ H _ I h)) (fun v s1 q => ?_) fun _ _ z => z.2)
  obtain ⟨hk, x, H1, I1, r1, ty, q1⟩ := q
  obtain ⟨h1, h2⟩ := tyV_is I1 r1 ty
  refine ⟨T, id, pa, slot, hty, h1, h2, ?_⟩
  have hA := ha cpos pins s1 σ H1 _ (Nat.le_trans h0 hk) I1 q1
  rw [hs] at hA ⊢
  refine Calls.callWith_builtin (by show (false || (backTo cpos (starEach es X.env)).any (·.1)) = false; rw [hplain] <;> rfl) (Calls.evalArgs_plain ?_)
  exact thn hA fun us s2 ⟨vs, H2, I2, r2, q2⟩ => hm pins s2 σ H2 x vs v us Q I2 r1 r2 q2
theorem pep_bm {z : Str} {j : Nat} {p : Pos} (pa : PlainAttrs T) (slot : Slot T name id) (hty : typeOf (.builtin id) = pure (.type "method_descriptor")) (hm : MtR X id r) (ha : PA X (e :: es) t) (hK : X.K = K)
    (hbase : attributeBase (.Constant (.str z) j p) name X.env (eval (.Constant (.str z) j p) X.env) = eval (.Constant (.str z) j p) X.env := by rfl)
    (hfew : ((backTo cpos (starEach (e :: es) X.env)).all (fun x => !x.1) && (backToKw cpos (keywordEach [] X.env)).all (fun x => x.1.isSome)
      && decide ((e :: es).length + ([] : List Keyword).length + (if ([] : List Keyword).isEmpty then 0 else 1) < 30)) = true := by rfl)
    (hline : (apos.endLine == cpos.line) = true := by rfl) (hs : starEach (e :: es) X.env = (false, eval e X.env) :: starEach es X.env := by rfl) (hplain : (backTo cpos (starEach es X.env)).any (·.1) = false := by rfl) :
    PEp X (.Call (.Attribute (.Constant (.str z) j p) name apos) (e :: es) [] cpos) (tBM K T r (tC (.str z)) t) := by
  subst hK
  intro pins s σ H Q I h
  obtain ⟨ty, q1⟩ : tyV X.K T (.str z) H ∧ t σ H fun xs H2 => r (.str z) xs H2 Q := h
  refine wpAny_Call_method_late hbase hfew hline rfl (Calls.Constant_str ?_)
  have I1 := I.tok (s.toks + 1)
  obtain ⟨h1, h2⟩ := tyV_is (x := .str z) (v := .str z s.toks) I1 ⟨_, rfl⟩ ty
  refine ⟨T, id, pa, slot, hty, h1, h2, ?_⟩
  have hA := ha.run cpos pins _ σ H _ I1 q1
  rw [hs] at hA ⊢
  refine Calls.callWith_builtin (by show (false || (backTo cpos (starEach es X.env)).any (·.1)) = false; rw [hplain] <;> rfl) (Calls.evalArgs_plain ?_)
  refine wpAny_mono (PySem.wpAny_toks hA) (fun us s2 q => ?_) fun _ _ z => z.2
  obtain ⟨hk, vs, H2, I2, r2, q2⟩ := q
  refine wpAny_mono (PySem.wpAny_toks (hm pins s2 σ H2 (.str z) vs _ us Q I2 ⟨_, rfl⟩ r2 q2)) (fun v s3 q => ⟨?_, q.2⟩) fun _ _ z => z.2
  have hk' : s.toks + 1 ≤ s2.toks := hk
  exact Nat.le_trans (by omega) (Nat.le_trans hk' q.1)
theorem pe_cmpT {op : CmpOp} {r : R2} (ho : OpR X (compareOp op) r) (ha : PEp X a ta') (hb : PET X b tb) (hm : behindInMarks op b = false) : PE X (.Compare a [op] [b] pos) (tOp r ta' tb) := by
  refine ⟨fun pins s σ H Q I h => ?_⟩
  refine wpAny_Compare1 (thn (ha pins s σ H _ I h) fun v s1 ⟨hk, x, H1, I1, r1, q1⟩ => ?_) hm
  exact thn (hb pins s1 σ H1 _ hk I1 q1) fun u s2 ⟨y, H2, I2, r2, q2⟩ => ho pins s2 σ H2 x y v u Q I2 r1 r2 q2
end
/-! ### the signs of a text -/
def chV (z : Str) : List V := z.cps.toList.map fun c => V.str ⟨#[c]⟩
theorem vals_ix : ∀ {xs : List V} {us : List Value}, xs.length = us.length → (∀ (j : Nat) (x : V) (u : Value), xs[j]? = some x → us[j]? = some u → RelV x u) → Vals xs us
  | [], [], _, _ => .nil
  | [], _ :: _, h, _ => by simp at h
  | _ :: _, [], h, _ => by simp at h
  | x :: xs, u :: us, h, f => .cons (f 0 x u rfl rfl) (vals_ix (by simpa using h) fun j y w h1 h2 => f (j + 1) y w (by simpa using h1) (by simpa using h2))
theorem vals_ch {z : Str} {acc : Array Value} (h : ItemsOf (SignAt z) acc z.cps.size) : Vals (chV z) acc.toList := by
  refine vals_ix (by unfold chV; rw [List.length_map, Array.length_toList, Array.length_toList]; exact h.1.symm) fun j x u hx hu => ?_
  rw [Array.getElem?_toList] at hu
  obtain ⟨c, t, e1, rfl⟩ := h.2 j u hu
  unfold chV at hx
  rw [List.getElem?_map, Array.getElem?_toList, e1] at hx
  cases Option.some.inj hx
  exact ⟨t, rfl⟩
theorem chV_len (z : Str) : (chV z).length = z.length := by unfold chV; rw [List.length_map]; rfl
def rListTxt : List V → Hp → VK → Prop := fun xs H Q => ∃ z, xs = [.str z] ∧ z.length ≤ sizeLine ∧ NewO (.lst (chV z)) H Q
def rTupTxt : List V → Hp → VK → Prop := fun xs H Q => ∃ z, xs = [.str z] ∧ z.length ≤ sizeLine ∧ NewO (.tup (chV z)) H Q
theorem call_list_txt {X : Cx} (hc : X.calm = true) : CallR X (.type "list") rListTxt := by
  intro pins s σ H xs us Q I r h
  obtain ⟨z, rfl, hz, q⟩ := h
  obtain ⟨u, rfl, rx⟩ := vals1 r
  obtain ⟨t, rfl⟩ := rx
  refine PySem.call_list_str (I.ok.hd hc) z t (fun h' tk acc c' hk e' hi => ?_) hz
  refine ⟨.ref s.heap.objs.size, upd H s.heap.objs.size (.lst (chV z)), I.laid hk (Nat.le_refl _) (show ObjOk X.prog X.w _ _ _ (.lst (chV z)) from ⟨?_, acc.toList, c', vals_ch hi, ?_⟩), rfl, q _ (I.hok.fresh (Nat.le_refl _))⟩
  · rw [chV_len]; exact hz
  · rw [Array.toArray_toList]; exact e'
theorem call_tup_txt {X : Cx} (hc : X.calm = true) : CallR X (.type "tuple") rTupTxt := by
  intro pins s σ H xs us Q I r h
  obtain ⟨z, rfl, hz, q⟩ := h
  obtain ⟨u, rfl, rx⟩ := vals1 r
  obtain ⟨t, rfl⟩ := rx
  refine PySem.call_tuple_str (I.ok.hd hc) z t (fun h' tk acc hk hi => ?_) hz
  have I2 : Inv X pins σ H { s with heap := h', toks := tk } := I.kept hk
  refine ⟨.ref h'.objs.size, upd H h'.objs.size (.tup (chV z)), I2.laid (t' := tk) (fun c o e => Heap.get?_push_of_some _ e) (Nat.le_refl _) (show ObjOk X.prog X.w _ _ _ (.tup (chV z)) from ⟨?_, acc.toList, vals_ch hi, ?_⟩), rfl, q _ (I2.hok.fresh (Nat.le_refl _))⟩
  · rw [chV_len]; exact hz
  · rw [Array.toArray_toList]; exact IsTup.new _ _
section
variable {K : PySem.W.Frag} {σ : L2.St} {H : Hp} {Q : VK} {nx : L2.St → Hp → Prop} {rt : VK} {bk ct : L2.St → Hp → Prop} {te : TE} {g : TG} {tb : L2.TS} {tt : TT} {j : Nat} {vs : List Nat}
theorem w_listTxt {z : Str} (h : z.length ≤ sizeLine) (k : NewO (.lst (chV z)) H Q) : rListTxt [.str z] H Q := ⟨z, rfl, h, k⟩
theorem w_tupTxt {z : Str} (h : z.length ≤ sizeLine) (k : NewO (.tup (chV z)) H Q) : rTupTxt [.str z] H Q := ⟨z, rfl, h, k⟩
theorem w_forS (k : te σ H fun v H1 => ∃ z, v = .str z ∧ WFor (Its z) g tb nx rt σ H1) : tFor (iStr te) g tb ⟨nx, rt, bk, ct⟩ σ H := k
theorem w_lcS {tl : TE} (k : tl σ H fun v H1 => ∃ z, v = .str z ∧ ∀ D, H1 D = none → WLc (Its z) g tt te vs σ D H1 Q) : tLc (iStr tl) g tt te vs σ H Q := k
/-- sign by sign -/
theorem fl_str (l : List Nat) (Pv : Nat → L2.St → Hp → Prop) (h0 : Pv 0 σ H) (hs : ∀ i c σ H, l[i]? = some c → Pv i σ H → g (.str (S [c])) σ H fun σ2 H2 => tb ⟨Pv (i + 1), rt, nx, Pv (i + 1)⟩ σ2 H2) (hd : ∀ σ H, Pv l.length σ H → nx σ H) :
    ∃ z, V.str (S l) = .str z ∧ WFor (Its z) g tb nx rt σ H :=
  ⟨S l, rfl, wfor_it walk_str Pv h0 (fun _ _ _ _ _ => trivial) (fun i v σ H H' hi p ⟨e, c, h1, h2⟩ => by
    subst e h2
    exact hs i c σ _ (by rw [← List.getElem?_toArray]; exact h1) p) hd⟩
end
/-! ### order of texts -/
def rLtS : R2 := fun x y H Q => ∃ i j, x = .str i ∧ y = .str j ∧ Q (.bl (decide (i.cps.toList < j.cps.toList))) H
def rLeS : R2 := fun x y H Q => ∃ i j, x = .str i ∧ y = .str j ∧ Q (.bl (!decide (j.cps.toList < i.cps.toList))) H
theorem op_ltSA {X : Cx} : OpR X (compareOp .Lt) rLtS := op_lt_str
theorem op_leSA {X : Cx} : OpR X (compareOp .LtE) rLeS := op_le_str
theorem lt1 (a b : Nat) : decide ([a] < [b]) = decide (a < b) := by
  rw [decide_eq_decide]
  constructor
  · intro h
    rw [List.cons_lt_cons_iff] at h
    rcases h with h | ⟨_, h⟩
    · exact h
    · exact (List.not_lt_nil _ h).elim
  · intro h
    exact List.cons_lt_cons_iff.mpr (.inl h)
theorem w_le1 {a b : Nat} {H : Hp} {Q : VK} (k : Q (.bl (decide (a ≤ b))) H) : rLeS (.str (S [a])) (.str (S [b])) H Q := ⟨_, _, rfl, rfl, by
  show Q (.bl (!decide ([b] < [a]))) H
  rw [lt1, show (!decide (b < a)) = decide (a ≤ b) by by_cases h : a ≤ b <;> simp [h] <;> omega]
  exact k⟩

end J
namespace J
open PySem PySem.Spec PyProof.Rows L2
--plain
/-! ### a comprehension over zip of lists and tuples in any mix -/
section
open PySem PySem.Spec PyProof.Rows
variable {K : PySem.W.Frag} {σ : L2.St} {H : Hp} {Q : VK} {a b : Addr} {xs ys : List V} {g : TG} {tt : TT} {te : TE} {ta : TA} {t u : Bool} {vs : List Nat}
theorem w_lcZM (k : ta σ H fun ws H1 => ∃ a b xs ys, ws = [.ref a, .ref b] ∧ SqX t K H1 a xs ∧ SqX u K H1 b ys ∧ ∀ D, H1 D = none → WLc (ItzM t u K a b) g tt te vs σ D H1 Q) : tLc (iZipM t u K ta) g tt te vs σ H Q := k
theorem lc_zipM {i0 j0 : Nat} (hij : i0 ≠ j0) (Pv : Addr → Nat → List V → Hp → Prop) (hx : SqX t K H a xs) (hy : SqX u K H b ys) (h0 : ∀ D H', H D = none → Same H H' → H' D = some (.lst []) → Pv D 0 [] H')
    (hG : ∀ D, H D = none → ∀ i zs H', i ≤ min xs.length ys.length → H' D = some (.lst zs) → Pv D i zs H' → SqX t K H' a xs ∧ SqX u K H' b ys)
    (hs : ∀ D, H D = none → ∀ i x y zs H0 H', xs[i]? = some x → ys[i]? = some y → zs.length ≤ i → H0 D = some (.lst zs) → Pv D i zs H0 → Same H0 H' → tt (((wipe σ [i0, j0]).set i0 (some x)).set j0 (some y)) H' fun b H3 => if b = true then te (((wipe σ [i0, j0]).set i0 (some x)).set j0 (some y)) H3 fun y H4 => LcEnd D (Pv D) i y H4 else LcSkip D (Pv D) i H3)
    (hd : ∀ D, H D = none → ∀ zs H', zs.length ≤ min xs.length ys.length → H' D = some (.lst zs) → Pv D (min xs.length ys.length) zs H' → Q (.ref D) H') :
    ∃ p q us ws, [V.ref a, .ref b] = [.ref p, .ref q] ∧ SqX t K H p us ∧ SqX u K H q ws ∧ ∀ D, H D = none → WLc (ItzM t u K p q) (gSeq K 2 (gCons (gName i0) (gCons (gName j0) gNil))) tt te [i0, j0] σ D H Q :=
  ⟨a, b, xs, ys, rfl, hx, hy, wlc_it (walk_zipM rfl) Pv h0 hG (fun D hD i v zs H0 H' hi hl e p ⟨T, x, y, ev, nT, e2, h1, h2⟩ => by
    subst ev e2
    exact w_seqT (SqT.of upd_same) rfl (w_gCons (w_gName (w_gCons (w_gName (w_gNil ⟨wipe2 _ _ _ _ _ hij, hs D hD i x y zs H0 _ h1 h2 hl e p (Same.one nT)⟩)))))) hd⟩
end

end J
namespace J
open PySem PySem.Spec PyProof.Rows L2
--plain
/-! ### dicts with nested tuples as keys, things as values: d.setdefault(k, x) -/
section
open PySem PySem.Spec PyProof.Rows
namespace NDX
mutual
def keyD : PyData → NestedKey
  | .none => .none
  | .bool b => .num (if b = true then 1 else 0)
  | .int i => .num i
  | .str x => .text x
  | .list ds => .tup (keyAll ds)
  | .tuple ds => .tup (keyAll ds)
  | .dict _ => .none
def keyAll : List PyData → List NestedKey
  | [] => []
  | d :: ds => keyD d :: keyAll ds
end
section
variable {X : Cx} {pins : List (Addr × Obj)} {σ : L2.St} {H : Hp} {s : Shared}
mutual
theorem nest_of (I : Inv X pins σ H s) : ∀ (d : PyData) (v : V) (u : Value), tupD d = true → Dp X.K H v d → RelV v u → NestedIs s.heap (keyD d) u
  | .none, _, _, _, h, r => by
    cases h
    cases r
    exact .none
  | .bool b, _, _, _, h, r => by
    cases h
    cases r
    exact .bool rfl
  | .int i, _, _, _, h, r => by
    cases h
    obtain ⟨t, rfl⟩ := r
    exact .int i t
  | .str x, _, _, _, h, r => by
    cases h
    obtain ⟨t, rfl⟩ := r
    exact .text x t
  | .list ds, _, _, t, _, _ => by simp [tupD] at t
  | .tuple ds, _, _, t, h, r => by
    cases h with
    | tup hs ha =>
      cases r
      obtain ⟨its, rv, ⟨o, ho, hc, n, hd⟩, _⟩ := I.tuple hs
      exact .tup ho hc hd (nest_all I ds _ its (by simpa [tupD] using t) ha rv)
  | .dict _, _, _, t, _, _ => by simp [tupD] at t
theorem nest_all (I : Inv X pins σ H s) : ∀ (ds : List PyData) (vs : List V) (us : List Value), tupAll ds = true → DpAll X.K H vs ds → Vals vs us → NestedAll s.heap (keyAll ds) us
  | [], _, _, _, h, r => by
    cases h
    cases r
    exact .nil
  | d :: ds, _, _, t, h, r => by
    rw [tupAll, Bool.and_eq_true] at t
    cases h with
    | cons h1 h2 =>
      cases r with
      | cons r1 r2 => exact .cons (nest_of I d _ _ t.1 h1 r1) (nest_all I ds _ _ t.2 h2 r2)
end
end
/-- an entry: its key, where the key stands, where the thing stands -/
abbrev Ent := PyData × Addr × Addr
def rawE (x : Ent) : NestedKey × Addr × Value := (keyD x.1, x.2.1, .ref x.2.2)
def RawN (P : Program) (w : World) (a : Addr) (xs : List Ent) (h : Heap) : Prop := (a == sysModules) = false ∧
  ∃ o es ep, h.get? a = some o ∧ o.ExactDict ∧ o.data = .dict es ep ∧ es.toList = (xs.map rawE).map (entryOfKey (nestedKind P w)) ∧ ((xs.map rawE).map (·.1)).Nodup
def NDO (P : Program) (w : World) (a : Addr) (xs : List Ent) : HO := .ext (RawN P w a xs)
/-- at a stands such a dict -/
def NDAt (P : Program) (w : World) (H : Hp) (a : Addr) (xs : List Ent) : Prop := H a = some (NDO P w a xs) ∨ (xs = [] ∧ H a = some (.dK []))
/-- a key -/
def KeyAt (K : PySem.W.Frag) (H : Hp) (d : PyData) (b : Addr) : Prop := Dp K H (.ref b) d ∧ tupD d = true ∧ (keyD d).depth ≤ 8
theorem rawN_new {P : Program} {w : World} {H : Hp} {h : Heap} {a : Addr} {xs : List Ent} (R : RawN P w a xs h) : ObjOk P w H h a (NDO P w a xs) := by
  have ⟨_, o, _, _, ho, _⟩ := R
  exact ⟨R, ⟨o, ho⟩, fun h1 h2 p k => by
    obtain ⟨m, o, es, ep, ho, r⟩ := p
    exact ⟨m, o, es, ep, k o ho, r⟩⟩
section
variable {X : Cx} {pins : List (Addr × Obj)} {σ : L2.St} {H : Hp} {s : Shared} {a : Addr} {xs : List Ent}
theorem raw_of (I : Inv X pins σ H s) (h : NDAt X.prog X.w H a xs) : RawN X.prog X.w a xs s.heap := by
  rcases h with h | ⟨rfl, h⟩
  · exact (I.hok a _ h).1
  · obtain ⟨_, hd, vs, rel, o, es, ep, h1, h2, h3, h4⟩ := dk_of I.hok h
    refine ⟨hd, o, es, ep, h1, h2, h3, ?_, List.nodup_nil⟩
    have : vs = [] := by
      have := rel.length
      cases vs with
      | nil => rfl
      | cons v vs => simp at this
    subst this
    have e0 : es.toList = [] := by
      have h := h4.2.1
      generalize es.toList = L at h
      cases L with
      | nil => rfl
      | cons a L => exact nomatch h
    rw [e0]; rfl
theorem nd_mut (h : NDAt X.prog X.w H a xs) : Mut (H a) := by
  rcases h with h | ⟨_, h⟩ <;> (rw [h]; exact True.intro)
end
/-- made.setdefault(k, x): x is a thing -/
def tDSetN (P : Program) (w : World) (K : PySem.W.Frag) (td ty tx : TE) : TE := fun σ H Q => td σ H fun x H1 => ∃ a, x = .ref a ∧ (∃ xs, NDAt P w H1 a xs) ∧ ty σ H1 fun y H2 => tx σ H2 fun z H3 => ∃ (xs : List Ent) (d : PyData) (b p : Addr), NDAt P w H3 a xs ∧ y = .ref b ∧ z = .ref p ∧ xs.length < 1000 ∧
  (∀ e ∈ xs, KeyAt K H3 e.1 e.2.1) ∧ KeyAt K H3 d b ∧ (∀ e ∈ xs, keyD e.1 = keyD d → Q (.ref e.2.2) H3) ∧ ((∀ e ∈ xs, keyD e.1 ≠ keyD d) → Q (.ref p) (upd H3 a (NDO P w a (xs ++ [(d, b, p)]))))
section
variable {X : Cx} {o e f : Expr} {td ty tx : TE} {apos cpos : Pos}
theorem w_dsetN {P : Program} {w : World} {K : PySem.W.Frag} {td ty tx : TE} {σ : L2.St} {H : Hp} {Q : VK} (k : td σ H fun x H1 => ∃ a, x = .ref a ∧ (∃ xs, NDAt P w H1 a xs) ∧ ty σ H1 fun y H2 => tx σ H2 fun z H3 => ∃ (xs : List Ent) (d : PyData) (b p : Addr), NDAt P w H3 a xs ∧ y = .ref b ∧ z = .ref p ∧ xs.length < 1000 ∧
  (∀ e ∈ xs, KeyAt K H3 e.1 e.2.1) ∧ KeyAt K H3 d b ∧ (∀ e ∈ xs, keyD e.1 = keyD d → Q (.ref e.2.2) H3) ∧ ((∀ e ∈ xs, keyD e.1 ≠ keyD d) → Q (.ref p) (upd H3 a (NDO P w a (xs ++ [(d, b, p)]))))) : tDSetN P w K td ty tx σ H Q := k
def iOr (i j : TI) : TI := fun σ H R => i σ H R ∨ j σ H R
theorem PI.or {tg : Expr} {i j : TI} (h : PI X tg e i) (h' : PI X tg e j) : PI X tg e (iOr i j) := ⟨fun pins s σ H R I q => by
  rcases q with q | q
  · exact h.run pins s σ H R I q
  · exact h'.run pins s σ H R I q⟩
theorem w_lcO {i j : TI} {g : TG} {tt : TT} {te : TE} {vs : List Nat} {σ : L2.St} {H : Hp} {Q : VK} (k : tLc i g tt te vs σ H Q ∨ tLc j g tt te vs σ H Q) : tLc (iOr i j) g tt te vs σ H Q := k
theorem w_lcLT {K : PySem.W.Frag} {tl : TE} {tt : TT} {te : TE} {j : Nat} {σ : L2.St} {H : Hp} {Q : VK} {a : Addr} (xs : List V) (hv : ∀ R : VK, R (.ref a) H → tl σ H R) (Pv : Addr → Nat → List V → Hp → Prop) (hS : SqL K H a xs ∨ SqT K H a xs) (h0 : ∀ D H', H D = none → Same H H' → H' D = some (.lst []) → Pv D 0 [] H')
    (hsm : ∀ D i ys H', Pv D i ys H' → Same H H')
    (hs : ∀ D, H D = none → ∀ i x ys H', xs[i]? = some x → ys.length ≤ i → H' D = some (.lst ys) → Pv D i ys H' → tt ((wipe σ [j]).set j (some x)) H' fun b H3 => if b = true then te ((wipe σ [j]).set j (some x)) H3 fun y H4 => LcEnd D (Pv D) i y H4 else LcSkip D (Pv D) i H3)
    (hd : ∀ D, H D = none → ∀ ys H', ys.length ≤ xs.length → H' D = some (.lst ys) → Pv D xs.length ys H' → Q (.ref D) H') : tLc (iOr (iList K tl) (iTup K tl)) (gName j) tt te [j] σ H Q :=
  w_lcO (hS.elim (fun h => .inl (w_lcL (hv _ (lc_L xs Pv h h0 (fun D _ i ys H' _ _ p => (hsm D i ys H' p).sqL h) hs hd)))) (fun h => .inr (w_lcT (hv _ (lc_T xs Pv h h0 (fun D _ i ys H' _ _ p => (hsm D i ys H' p).sqT h) hs hd)))))
theorem pe_dsetN {P : Program} {w : World} {K : PySem.W.Frag} (hP : X.prog = P) (hw : X.w = w) (hK : X.K = K) (hu : X.A.units + 64 < cLine) (ho : PE X o td) (he : PE X e ty) (hf : PE X f tx) (m : M2 X o "setdefault" apos e f cpos) : PE X (.Call (.Attribute o "setdefault" apos) [e, f] [] cpos) (tDSetN P w K td ty tx) := by
  subst hP hw hK
  refine ⟨fun pins s σ H Q I h => ?_⟩
  refine wpAny_Call_method m.base m.few m.line PySem.F.plainAttrs_dict PySem.F.slot_dict_setdefault PySem.F.type_dict_setdefault (thn (ho.run pins s σ H _ I h) fun u s1 ⟨x, H1, I1, rx, a, ex, ⟨xs1, d1⟩, q1⟩ => ?_)
  subst ex
  obtain rfl : u = Value.ref a := rx
  obtain ⟨hm1, ob, es, ep, g1, g2, g3, _⟩ := raw_of I1 d1
  refine ⟨⟨ob, g1, g2.1⟩, fun b q => ?_, ?_⟩
  · cases q
    exact ⟨ob, g1, g2.2.1⟩
  rw [m.trees]
  refine Calls.callWith_builtin rfl (Calls.evalArgs_plain (Calls.spliced_cons (thn (he.run pins s1 σ H1 _ I1 q1) fun iv s2 ⟨y, H2, I2, ry, q2⟩ =>
    Calls.spliced_cons (thn (hf.run pins s2 σ H2 _ I2 q2) fun fv s3 ⟨z, H3, I3, rz, xs, d, b, p, hd, ey, ez, hl, hk, hkd, q3, q4⟩ => Calls.spliced_nil ?_))))
  subst ey ez
  obtain rfl : iv = Value.ref b := ry
  obtain rfl : fv = Value.ref p := rz
  obtain ⟨hm, ob3, es3, ep3, k1, k2, k3, k4, k5⟩ := raw_of I3 hd
  have keys : ∀ d b, KeyAt X.K H3 d b → (nestedKind X.prog X.w).is s3.heap (keyD d) b := fun d b h => ⟨nest_of I3 d _ _ h.2.1 h.1 rfl, h.2.2⟩
  have hx : s3.heap.DictOfH (nestedKind X.prog X.w) a (xs.map rawE) := ⟨ob3, es3, ep3, k1, k2, k3, k4, fun x hx => by
    obtain ⟨e, he, rfl⟩ := List.mem_map.mp hx
    exact keys _ _ (hk e he), k5⟩
  refine call_setdefault_heap (knd := nestedKind X.prog X.w) (show X.A.units + 1 + 8 < cLine by omega) (keys d b hkd) hm hx (fun q hq => ?_) (fun hn h' hm' hs => ?_) (by rw [List.length_map, sizeLine_eq]; omega)
  · unfold atKey at hq
    obtain ⟨y, hy, rfl⟩ := Option.map_eq_some_iff.mp hq
    have hm2 := List.mem_of_find?_eq_some hy
    have hc := List.find?_some hy
    obtain ⟨e, he, rfl⟩ := List.mem_map.mp hm2
    exact ⟨.ref e.2.2, H3, I3.tok _, rfl, q3 e he (of_decide_eq_true hc)⟩
  · have hno : ∀ e ∈ xs, keyD e.1 ≠ keyD d := fun e he hc => by
      unfold atKey at hn
      rw [Option.map_eq_none_iff, List.find?_eq_none] at hn
      exact hn (rawE e) (List.mem_map.mpr ⟨e, he, rfl⟩) (decide_eq_true hc)
    rw [storedH_new hn] at hm'
    obtain ⟨o2, es2, ep2, j1, j2, j3, j4, _, j5⟩ := hm'
    have e2 : xs.map rawE ++ [(keyD d, b, Value.ref p)] = (xs ++ [(d, b, p)]).map rawE := by rw [List.map_append]; rfl
    rw [e2] at j4 j5
    exact ⟨.ref p, _, d_write I3 (nd_mut hd) hs ⟨o2, j1⟩ (rawN_new ⟨hm, o2, es2, ep2, j1, j2, j3, j4, j5⟩), rfl, q4 hno⟩
end
end NDX
end

end J
namespace J
open PySem PySem.Spec PyProof.Rows L2
--plain
/-! ### max(ints, default=x) -/
section
open PySem PySem.W PySem.Spec PyProof.Rows
namespace MXD
theorem fold_max (n : Int) : ∀ ms : List Int, ms.foldl max n ∈ n :: ms ∧ ∀ y ∈ n :: ms, y ≤ ms.foldl max n
  | [] => ⟨List.mem_cons_self, fun y h => by rw [List.mem_singleton.mp h]; exact Int.le_refl _⟩
  | m :: ms => by
    rw [List.foldl_cons]
    obtain ⟨h1, h2⟩ := fold_max (max n m) ms
    constructor
    · rcases List.mem_cons.mp h1 with h | h
      · rw [h]
        by_cases c : n ≤ m
        · rw [Int.max_eq_right c]; exact List.mem_cons_of_mem _ List.mem_cons_self
        · rw [Int.max_eq_left (by omega)]; exact List.mem_cons_self
      · exact List.mem_cons_of_mem _ (List.mem_cons_of_mem _ h)
    · intro y hy
      have hm := h2 _ List.mem_cons_self
      rcases List.mem_cons.mp hy with rfl | hy
      · omega
      · rcases List.mem_cons.mp hy with rfl | hy
        · omega
        · exact h2 y (List.mem_cons_of_mem _ hy)
def rMaxDf (K : PySem.W.Frag) : List V → List V → Hp → VK → Prop := fun vs zs H Q => ∃ (a : Addr) (ns : List Int) (j : Int), vs = [V.ref a] ∧ zs = [V.int j] ∧ SqL K H a (ns.map V.int) ∧
  (ns = [] → Q (.int j) H) ∧ ∀ m, m ∈ ns → (∀ y ∈ ns, y ≤ m) → Q (.int m) H
theorem w_maxDf {K : PySem.W.Frag} {t tk : TA} {σ : L2.St} {H : Hp} {Q : VK} (k : t σ H fun vs H1 => tk σ H1 fun zs H2 => rMaxDf K vs zs H2 Q) : tCKw (rMaxDf K) t tk σ H Q := k
theorem alike_ints (ns : List Int) : AlikeAll (ns.map PyData.int) := by
  constructor
  · intro x hx y hy
    obtain ⟨i, _, rfl⟩ := List.mem_map.mp hx
    obtain ⟨j, _, rfl⟩ := List.mem_map.mp hy
    rfl
  · intro x hx
    obtain ⟨i, _, rfl⟩ := List.mem_map.mp hx
    exact fun h => nomatch h
theorem cr_maxDf {X : Cx} {K : PySem.W.Frag} (hK : X.K = K) (hc : X.calm = true) (hu : X.A.units + 64 < cLine) : CallRK X (.builtin "max") [Str.ofString "default"] (rMaxDf K) := by
  subst hK
  intro pins s σ H xs zs us ws Q I rx rz h
  obtain ⟨a, ns, j, rfl, rfl, hs, q0, q⟩ := h
  obtain ⟨its, rv, hl, _⟩ := I.list hs
  rw [Vals.ref1 rx]
  cases rz with
  | cons r1 r2 =>
    cases r2
    obtain ⟨t, rfl⟩ := r1
    obtain ⟨as, hr⟩ := Dp.readsAll I (ns.map PyData.int) _ its (dpAll_ints ns) rv
    refine max_list_default (I.ok.hd hc) hl.isList (by simpa using hr) (alike_ints ns) (by rw [depthAll_ints]; omega) (fun e h' tk hk => ?_) (fun y ys i v h' tk bs e hi r hk => ?_)
    · exact ⟨.int j, H, I.kept hk, ⟨_, rfl⟩, q0 (List.map_eq_nil_iff.mp e)⟩
    · cases ns with
      | nil => cases e
      | cons n ms =>
        rw [List.map_cons] at e
        injection e with e1 e2
        subst e1 e2
        rw [maxD_ints] at r
        obtain ⟨g1, g2⟩ := fold_max n ms
        generalize ms.foldl max n = M at r g1 g2
        cases r
        exact ⟨.int M, H, I.kept hk, ⟨_, rfl⟩, q M g1 g2⟩
end MXD
end

end J
namespace J
open PySem PySem.Spec PyProof.Rows L2
--plain
/-! ### steps as data -/
inductive Src where
  | inn (n : Nat)
  | num (n : Nat)
  | fld (n : Nat)
def Src.tag : Src → Str
  | .inn _ => "in"
  | .num _ => "number"
  | .fld _ => "field"
def Src.n : Src → Nat
  | .inn n => n
  | .num n => n
  | .fld n => n
def Src.d (s : Src) : PyData := .tuple [.str s.tag, .int (s.n : Nat)]
def Src.inn? : Src → Option Nat
  | .inn n => some n
  | _ => none
structure Sel where
  byF : Bool
  n : Nat
def Sel.tag (s : Sel) : Str := if s.byF then "by" else "is"
def Sel.d (s : Sel) : PyData := .tuple [.str s.tag, .int (s.n : Nat)]
inductive Stp where
  | get (a0 : Nat) (a1 : Sel)
  | ask (a0 : Nat) (a1 : Sel)
  | cell (a0 : Nat) (a1 : Src)
  | two (a0 : Nat) (a1 : Str) (a2 : Src) (a3 : Src)
  | put (a0 : Sel) (a1 : Src)
  | tell (a0 : Sel) (a1 : Src)
  | store (a0 : Src) (a1 : Src)
def Stp.cls : Stp → Str
  | .get a0 a1 => "Get"
  | .ask a0 a1 => "Ask"
  | .cell a0 a1 => "Cell"
  | .two a0 a1 a2 a3 => "Two"
  | .put a0 a1 => "Put"
  | .tell a0 a1 => "Tell"
  | .store a0 a1 => "Store"
def Stp.tag : Stp → Str
  | .get a0 a1 => "get"
  | .ask a0 a1 => "ask"
  | .cell a0 a1 => "cell"
  | .two a0 a1 a2 a3 => "two"
  | .put a0 a1 => "put"
  | .tell a0 a1 => "tell"
  | .store a0 a1 => "store"
def Stp.fs : Stp → List Str
  | .get a0 a1 => ["to", "sel"]
  | .ask a0 a1 => ["to", "sel"]
  | .cell a0 a1 => ["to", "source"]
  | .two a0 a1 a2 a3 => ["to", "op", "one", "other"]
  | .put a0 a1 => ["sel", "source"]
  | .tell a0 a1 => ["sel", "source"]
  | .store a0 a1 => ["at", "source"]
def Stp.args : Stp → List PyData
  | .get a0 a1 => [.int ((a0 : Nat) : Int), a1.d]
  | .ask a0 a1 => [.int ((a0 : Nat) : Int), a1.d]
  | .cell a0 a1 => [.int ((a0 : Nat) : Int), a1.d]
  | .two a0 a1 a2 a3 => [.int ((a0 : Nat) : Int), .str a1, a2.d, a3.d]
  | .put a0 a1 => [a0.d, a1.d]
  | .tell a0 a1 => [a0.d, a1.d]
  | .store a0 a1 => [a0.d, a1.d]
def Stp.srcs : Stp → List Src
  | .get a0 a1 => []
  | .ask a0 a1 => []
  | .cell a0 a1 => [a1]
  | .two a0 a1 a2 a3 => [a2, a3]
  | .put a0 a1 => [a1]
  | .tell a0 a1 => [a1]
  | .store a0 a1 => [a0, a1]
def Stp.sels : Stp → List Sel
  | .get a0 a1 => [a1]
  | .ask a0 a1 => [a1]
  | .cell a0 a1 => []
  | .two a0 a1 a2 a3 => []
  | .put a0 a1 => [a0]
  | .tell a0 a1 => [a0]
  | .store a0 a1 => []
def Stp.chg : Stp → List Nat
  | .get a0 a1 => [a0]
  | .ask a0 a1 => [a0]
  | .cell a0 a1 => [a0]
  | .two a0 a1 a2 a3 => [a0]
  | .put a0 a1 => []
  | .tell a0 a1 => []
  | .store a0 a1 => []
def Stp.way : Stp → Bool
  | .get a0 a1 => true
  | .ask a0 a1 => true
  | .cell a0 a1 => true
  | .two a0 a1 a2 a3 => false
  | .put a0 a1 => true
  | .tell a0 a1 => true
  | .store a0 a1 => true
def Stp.d (s : Stp) : PyData := .tuple (.str s.tag :: s.args)
/-- a place's text: an inner place, the way in -/
def rn (n : Nat) : Str := ("r" : Str) ++ (toString ((n : Nat) : Int) : Str)
def pn : Option Nat → Str
  | none => "way"
  | some n => rn n
def Stp.rd (s : Stp) : List (Option Nat) := (s.srcs.filterMap Src.inn?).map some ++ if s.way then [none] else []
def Stp.wr (s : Stp) : List (Option Nat) := s.chg.map some ++ if s.way then [none] else []
/-- what can stand -/
def opsL : List Str := ["+", "-", "&", "|", "^", "<<", ">>", "<", "="]
def Src.ok : Src → Prop
  | .inn n => n ≤ 7
  | .num n => n ≤ 16777215
  | .fld n => n ≤ 2
def Sel.ok (s : Sel) : Prop := s.n ≤ if s.byF then 2 else 3
def Stp.ok (s : Stp) : Prop := (∀ c ∈ s.srcs, c.ok) ∧ (∀ l ∈ s.sels, l.ok) ∧ (∀ n ∈ s.chg, n ≤ 7) ∧ ∀ a0 a1 a2 a3, s = .two a0 a1 a2 a3 → a1 ∈ opsL
theorem Stp.rd_ok {s : Stp} (h : s.ok) : ∀ n, some n ∈ s.rd → n ≤ 7 := fun n hn => by
  unfold Stp.rd at hn
  rcases List.mem_append.mp hn with g | g
  · obtain ⟨m, hm, e⟩ := List.mem_map.mp g
    cases e
    obtain ⟨c, hc, e⟩ := List.mem_filterMap.mp hm
    have := h.1 c hc
    cases c <;> cases e
    exact this
  · split at g <;> simp at g
theorem Stp.wr_ok {s : Stp} (h : s.ok) : ∀ n, some n ∈ s.wr → n ≤ 7 := fun n hn => by
  unfold Stp.wr at hn
  rcases List.mem_append.mp hn with g | g
  · obtain ⟨m, hm, e⟩ := List.mem_map.mp g
    cases e
    exact h.2.2.1 _ hm
  · split at g <;> simp at g
theorem srcs_len (s : Stp) : s.srcs.length ≤ 2 := by cases s <;> simp [Stp.srcs]
theorem chg_len (s : Stp) : s.chg.length ≤ 1 := by cases s <;> simp [Stp.chg]
theorem rd_len (s : Stp) : s.rd.length ≤ 3 := by
  unfold Stp.rd
  have := List.length_filterMap_le Src.inn? s.srcs
  have := srcs_len s
  rw [List.length_append, List.length_map]
  split <;> simp <;> omega
theorem wr_len (s : Stp) : s.wr.length ≤ 2 := by
  unfold Stp.wr
  have := chg_len s
  rw [List.length_append, List.length_map]
  split <;> simp <;> omega
theorem src_tup (c : Src) : tupD c.d = true := by unfold Src.d; simp [tupD, tupAll]
theorem sel_tup (l : Sel) : tupD l.d = true := by unfold Sel.d; simp [tupD, tupAll]
theorem srcs_tup : ∀ (cs : List Src), tupAll (cs.map Src.d) = true
  | [] => rfl
  | c :: cs => by rw [List.map_cons, tupAll, src_tup, srcs_tup cs]; rfl
theorem args_tup (s : Stp) : tupAll s.args = true := by
  cases s <;> simp [Stp.args, tupAll, tupD, src_tup, sel_tup]
theorem stp_tup (s : Stp) : tupD s.d = true := by
  unfold Stp.d
  rw [tupD, tupAll, args_tup]; simp [tupD]
/-- the step s as the object at p, of the class C -/
def StepAt (K : PySem.W.Frag) (H : Hp) (p : Addr) (C : Str) (s : Stp) : Prop := s.cls = C ∧ ∃ dx as, H p = some (.ins (He.ga K C) dx (s.fs.zip as)) ∧ DpAll K H as s.args
theorem StepAt.ts {K : PySem.W.Frag} {H H' : Hp} {p : Addr} {C : Str} {s : Stp} (h : StepAt K H p C s) (e : TS H H') (k : ∀ o, H p = some o → H' p = some o) : StepAt K H' p C s := by
  obtain ⟨hc, dx, as, hp, ha⟩ := h
  exact ⟨hc, dx, as, k _ hp, dpAll_ts e _ _ (args_tup s) ha⟩
theorem StepAt.sm {K : PySem.W.Frag} {H H' : Hp} {p : Addr} {C : Str} {s : Stp} (h : StepAt K H p C s) (e : Same H H') : StepAt K H' p C s := h.ts (TS.of e) fun _ => e _ _
theorem StepAt.at {K : PySem.W.Frag} {H : Hp} {p : Addr} {C : Str} {s : Stp} (h : StepAt K H p C s) : ∃ dx as, H p = some (.ins (He.ga K C) dx (s.fs.zip as)) := by
  obtain ⟨_, dx, as, hp, _⟩ := h
  exact ⟨dx, as, hp⟩
def stpF : List Str := ["to", "sel", "source", "op", "one", "other", "at"]
theorem zip_no {m : Str} : ∀ (fs : List Str) (as : List V), m ∉ fs → (fs.zip as).lookup m = none
  | [], _, _ => rfl
  | f :: fs, [], _ => rfl
  | f :: fs, a :: as, h => by
    have e : (m == f) = false := by
      rw [beq_eq_false_iff_ne]
      exact fun z => h (by rw [z]; exact List.mem_cons_self)
    rw [List.zip_cons_cons, List.lookup, e]
    exact zip_no fs as fun z => h (List.mem_cons_of_mem _ z)
theorem stp_no {m : Str} (hm : m ∉ stpF) (s : Stp) (as : List V) : (s.fs.zip as).lookup m = none := by
  refine zip_no _ _ fun z => hm ?_
  cases s <;> simp only [Stp.fs, List.mem_cons, List.not_mem_nil, or_false] at z <;> (rcases z with rfl | rfl | rfl | rfl) <;> decide +kernel
theorem dpa_2 {K : PySem.W.Frag} {H : Hp} {u0 u1 : V} {d0 d1 : PyData} (h : DpAll K H [u0, u1] [d0, d1]) : Dp K H u0 d0 ∧ Dp K H u1 d1 := by
  cases h with | cons h0 h => cases h with | cons h1 h => exact ⟨h0, h1⟩
theorem dpa_4 {K : PySem.W.Frag} {H : Hp} {u0 u1 u2 u3 : V} {d0 d1 d2 d3 : PyData} (h : DpAll K H [u0, u1, u2, u3] [d0, d1, d2, d3]) : Dp K H u0 d0 ∧ Dp K H u1 d1 ∧ Dp K H u2 d2 ∧ Dp K H u3 d3 := by
  cases h with | cons h0 h => cases h with | cons h1 h => cases h with | cons h2 h => cases h with | cons h3 h => exact ⟨h0, h1, h2, h3⟩
theorem stp_Get {K : PySem.W.Frag} {H : Hp} {p : Addr} {s : Stp} (h : StepAt K H p "Get" s) : ∃ a0 a1 dx u0 u1, s = .get a0 a1 ∧ H p = some (.ins (He.ga K "Get") dx [("to", u0), ("sel", u1)]) ∧ u0 = .int ((a0 : Nat) : Int) ∧ Dp K H u1 a1.d := by
  obtain ⟨hc, dx, as, hp, ha⟩ := h
  cases s with
  | get a0 a1 =>
    have l := dpa_len ha
    match as, l, hp, ha with
    | [u0, u1], _, hp, ha =>
      obtain ⟨h0, h1⟩ := dpa_2 ha
      exact ⟨a0, a1, dx, u0, u1, rfl, hp, dp_int h0, h1⟩
  | ask a0 a1 => exact absurd hc (by show ("Ask" : Str) ≠ "Get"; decide +kernel)
  | cell a0 a1 => exact absurd hc (by show ("Cell" : Str) ≠ "Get"; decide +kernel)
  | two a0 a1 a2 a3 => exact absurd hc (by show ("Two" : Str) ≠ "Get"; decide +kernel)
  | put a0 a1 => exact absurd hc (by show ("Put" : Str) ≠ "Get"; decide +kernel)
  | tell a0 a1 => exact absurd hc (by show ("Tell" : Str) ≠ "Get"; decide +kernel)
  | store a0 a1 => exact absurd hc (by show ("Store" : Str) ≠ "Get"; decide +kernel)
theorem stp_Ask {K : PySem.W.Frag} {H : Hp} {p : Addr} {s : Stp} (h : StepAt K H p "Ask" s) : ∃ a0 a1 dx u0 u1, s = .ask a0 a1 ∧ H p = some (.ins (He.ga K "Ask") dx [("to", u0), ("sel", u1)]) ∧ u0 = .int ((a0 : Nat) : Int) ∧ Dp K H u1 a1.d := by
  obtain ⟨hc, dx, as, hp, ha⟩ := h
  cases s with
  | get a0 a1 => exact absurd hc (by show ("Get" : Str) ≠ "Ask"; decide +kernel)
  | ask a0 a1 =>
    have l := dpa_len ha
    match as, l, hp, ha with
    | [u0, u1], _, hp, ha =>
      obtain ⟨h0, h1⟩ := dpa_2 ha
      exact ⟨a0, a1, dx, u0, u1, rfl, hp, dp_int h0, h1⟩
  | cell a0 a1 => exact absurd hc (by show ("Cell" : Str) ≠ "Ask"; decide +kernel)
  | two a0 a1 a2 a3 => exact absurd hc (by show ("Two" : Str) ≠ "Ask"; decide +kernel)
  | put a0 a1 => exact absurd hc (by show ("Put" : Str) ≠ "Ask"; decide +kernel)
  | tell a0 a1 => exact absurd hc (by show ("Tell" : Str) ≠ "Ask"; decide +kernel)
  | store a0 a1 => exact absurd hc (by show ("Store" : Str) ≠ "Ask"; decide +kernel)
theorem stp_Cell {K : PySem.W.Frag} {H : Hp} {p : Addr} {s : Stp} (h : StepAt K H p "Cell" s) : ∃ a0 a1 dx u0 u1, s = .cell a0 a1 ∧ H p = some (.ins (He.ga K "Cell") dx [("to", u0), ("source", u1)]) ∧ u0 = .int ((a0 : Nat) : Int) ∧ Dp K H u1 a1.d := by
  obtain ⟨hc, dx, as, hp, ha⟩ := h
  cases s with
  | get a0 a1 => exact absurd hc (by show ("Get" : Str) ≠ "Cell"; decide +kernel)
  | ask a0 a1 => exact absurd hc (by show ("Ask" : Str) ≠ "Cell"; decide +kernel)
  | cell a0 a1 =>
    have l := dpa_len ha
    match as, l, hp, ha with
    | [u0, u1], _, hp, ha =>
      obtain ⟨h0, h1⟩ := dpa_2 ha
      exact ⟨a0, a1, dx, u0, u1, rfl, hp, dp_int h0, h1⟩
  | two a0 a1 a2 a3 => exact absurd hc (by show ("Two" : Str) ≠ "Cell"; decide +kernel)
  | put a0 a1 => exact absurd hc (by show ("Put" : Str) ≠ "Cell"; decide +kernel)
  | tell a0 a1 => exact absurd hc (by show ("Tell" : Str) ≠ "Cell"; decide +kernel)
  | store a0 a1 => exact absurd hc (by show ("Store" : Str) ≠ "Cell"; decide +kernel)
theorem stp_Two {K : PySem.W.Frag} {H : Hp} {p : Addr} {s : Stp} (h : StepAt K H p "Two" s) : ∃ a0 a1 a2 a3 dx u0 u1 u2 u3, s = .two a0 a1 a2 a3 ∧ H p = some (.ins (He.ga K "Two") dx [("to", u0), ("op", u1), ("one", u2), ("other", u3)]) ∧ u0 = .int ((a0 : Nat) : Int) ∧ u1 = .str a1 ∧ Dp K H u2 a2.d ∧ Dp K H u3 a3.d := by
  obtain ⟨hc, dx, as, hp, ha⟩ := h
  cases s with
  | get a0 a1 => exact absurd hc (by show ("Get" : Str) ≠ "Two"; decide +kernel)
  | ask a0 a1 => exact absurd hc (by show ("Ask" : Str) ≠ "Two"; decide +kernel)
  | cell a0 a1 => exact absurd hc (by show ("Cell" : Str) ≠ "Two"; decide +kernel)
  | two a0 a1 a2 a3 =>
    have l := dpa_len ha
    match as, l, hp, ha with
    | [u0, u1, u2, u3], _, hp, ha =>
      obtain ⟨h0, h1, h2, h3⟩ := dpa_4 ha
      exact ⟨a0, a1, a2, a3, dx, u0, u1, u2, u3, rfl, hp, dp_int h0, dp_str h1, h2, h3⟩
  | put a0 a1 => exact absurd hc (by show ("Put" : Str) ≠ "Two"; decide +kernel)
  | tell a0 a1 => exact absurd hc (by show ("Tell" : Str) ≠ "Two"; decide +kernel)
  | store a0 a1 => exact absurd hc (by show ("Store" : Str) ≠ "Two"; decide +kernel)
theorem stp_Put {K : PySem.W.Frag} {H : Hp} {p : Addr} {s : Stp} (h : StepAt K H p "Put" s) : ∃ a0 a1 dx u0 u1, s = .put a0 a1 ∧ H p = some (.ins (He.ga K "Put") dx [("sel", u0), ("source", u1)]) ∧ Dp K H u0 a0.d ∧ Dp K H u1 a1.d := by
  obtain ⟨hc, dx, as, hp, ha⟩ := h
  cases s with
  | get a0 a1 => exact absurd hc (by show ("Get" : Str) ≠ "Put"; decide +kernel)
  | ask a0 a1 => exact absurd hc (by show ("Ask" : Str) ≠ "Put"; decide +kernel)
  | cell a0 a1 => exact absurd hc (by show ("Cell" : Str) ≠ "Put"; decide +kernel)
  | two a0 a1 a2 a3 => exact absurd hc (by show ("Two" : Str) ≠ "Put"; decide +kernel)
  | put a0 a1 =>
    have l := dpa_len ha
    match as, l, hp, ha with
    | [u0, u1], _, hp, ha =>
      obtain ⟨h0, h1⟩ := dpa_2 ha
      exact ⟨a0, a1, dx, u0, u1, rfl, hp, h0, h1⟩
  | tell a0 a1 => exact absurd hc (by show ("Tell" : Str) ≠ "Put"; decide +kernel)
  | store a0 a1 => exact absurd hc (by show ("Store" : Str) ≠ "Put"; decide +kernel)
theorem stp_Tell {K : PySem.W.Frag} {H : Hp} {p : Addr} {s : Stp} (h : StepAt K H p "Tell" s) : ∃ a0 a1 dx u0 u1, s = .tell a0 a1 ∧ H p = some (.ins (He.ga K "Tell") dx [("sel", u0), ("source", u1)]) ∧ Dp K H u0 a0.d ∧ Dp K H u1 a1.d := by
  obtain ⟨hc, dx, as, hp, ha⟩ := h
  cases s with
  | get a0 a1 => exact absurd hc (by show ("Get" : Str) ≠ "Tell"; decide +kernel)
  | ask a0 a1 => exact absurd hc (by show ("Ask" : Str) ≠ "Tell"; decide +kernel)
  | cell a0 a1 => exact absurd hc (by show ("Cell" : Str) ≠ "Tell"; decide +kernel)
  | two a0 a1 a2 a3 => exact absurd hc (by show ("Two" : Str) ≠ "Tell"; decide +kernel)
  | put a0 a1 => exact absurd hc (by show ("Put" : Str) ≠ "Tell"; decide +kernel)
  | tell a0 a1 =>
    have l := dpa_len ha
    match as, l, hp, ha with
    | [u0, u1], _, hp, ha =>
      obtain ⟨h0, h1⟩ := dpa_2 ha
      exact ⟨a0, a1, dx, u0, u1, rfl, hp, h0, h1⟩
  | store a0 a1 => exact absurd hc (by show ("Store" : Str) ≠ "Tell"; decide +kernel)
theorem stp_Store {K : PySem.W.Frag} {H : Hp} {p : Addr} {s : Stp} (h : StepAt K H p "Store" s) : ∃ a0 a1 dx u0 u1, s = .store a0 a1 ∧ H p = some (.ins (He.ga K "Store") dx [("at", u0), ("source", u1)]) ∧ Dp K H u0 a0.d ∧ Dp K H u1 a1.d := by
  obtain ⟨hc, dx, as, hp, ha⟩ := h
  cases s with
  | get a0 a1 => exact absurd hc (by show ("Get" : Str) ≠ "Store"; decide +kernel)
  | ask a0 a1 => exact absurd hc (by show ("Ask" : Str) ≠ "Store"; decide +kernel)
  | cell a0 a1 => exact absurd hc (by show ("Cell" : Str) ≠ "Store"; decide +kernel)
  | two a0 a1 a2 a3 => exact absurd hc (by show ("Two" : Str) ≠ "Store"; decide +kernel)
  | put a0 a1 => exact absurd hc (by show ("Put" : Str) ≠ "Store"; decide +kernel)
  | tell a0 a1 => exact absurd hc (by show ("Tell" : Str) ≠ "Store"; decide +kernel)
  | store a0 a1 =>
    have l := dpa_len ha
    match as, l, hp, ha with
    | [u0, u1], _, hp, ha =>
      obtain ⟨h0, h1⟩ := dpa_2 ha
      exact ⟨a0, a1, dx, u0, u1, rfl, hp, h0, h1⟩
theorem tp_1 {K : PySem.W.Frag} {H : Hp} {v : V} {s : Str} {d : PyData} (h : Dp K H v (.tuple [.str s, d])) : ∃ p u, v = .ref p ∧ SqT K H p [.str s, u] ∧ Dp K H u d := by
  obtain ⟨p, us, rfl, hp, hus⟩ := dp_tup h
  have l := dpa_len hus
  match us, l, hp, hus with
  | [u0, u1], _, hp, hus =>
    obtain ⟨h0, h1⟩ := dpa_2 hus
    obtain rfl := dp_str h0
    exact ⟨p, u1, rfl, hp, h1⟩
theorem tp_n {K : PySem.W.Frag} {H : Hp} {v : V} {s : Str} {ds : List PyData} (h : Dp K H v (.tuple (.str s :: ds))) : ∃ p us, v = .ref p ∧ SqT K H p (.str s :: us) ∧ DpAll K H us ds := by
  obtain ⟨p, us, rfl, hp, hus⟩ := dp_tup h
  cases hus with
  | cons h0 h => 
    obtain rfl := dp_str h0
    exact ⟨p, _, rfl, hp, h⟩
def Stp.sorts : Stp → List Str
  | .get a0 a1 => ["inner", "sel"]
  | .ask a0 a1 => ["inner", "sel"]
  | .cell a0 a1 => ["inner", "source"]
  | .two a0 a1 a2 a3 => ["inner", "op", "source", "source"]
  | .put a0 a1 => ["sel", "source"]
  | .tell a0 a1 => ["sel", "source"]
  | .store a0 a1 => ["source", "source"]

end J
namespace J
open PySem PySem.Spec PyProof.Rows L2
local macro_rules | `(tactic| walk_at "cls") => `(tactic| first
  | with_reducible exact Facts.cl_Step
  | with_reducible exact Facts.cl_Get
  | with_reducible exact Facts.cl_Ask
  | with_reducible exact Facts.cl_Cell
  | with_reducible exact Facts.cl_Two
  | with_reducible exact Facts.cl_Put
  | with_reducible exact Facts.cl_Tell
  | with_reducible exact Facts.cl_Store)
local macro_rules | `(tactic| walk_at "na") => `(tactic| first
  | with_reducible exact Facts.na_Get_to
  | with_reducible exact Facts.na_Get_sel
  | with_reducible exact Facts.na_Ask_to
  | with_reducible exact Facts.na_Ask_sel
  | with_reducible exact Facts.na_Cell_to
  | with_reducible exact Facts.na_Cell_source
  | with_reducible exact Facts.na_Two_to
  | with_reducible exact Facts.na_Two_op
  | with_reducible exact Facts.na_Two_one
  | with_reducible exact Facts.na_Two_other
  | with_reducible exact Facts.na_Put_sel
  | with_reducible exact Facts.na_Put_source
  | with_reducible exact Facts.na_Tell_sel
  | with_reducible exact Facts.na_Tell_source
  | with_reducible exact Facts.na_Store_at
  | with_reducible exact Facts.na_Store_source)
local macro_rules | `(tactic| walk_at "ty") => `(tactic| first
  | with_reducible exact ty_int
  | with_reducible exact ty_bl
  | with_reducible exact ty_str
  | with_reducible exact ty_non
  | ((with_reducible refine' ty_lst ?vv); (case vv => walk_at "tr"))
  | ((with_reducible refine' ty_sqT ?vv); (case vv => walk_at "tr"))
  | ((with_reducible refine' ty_dic ?vv); (case vv => walk_at "tr")))
local macro_rules | `(tactic| walk_at "ix") => `(tactic| first | exact at0 | exact at1 | exact at2 | assumption)
local macro_rules | `(tactic| walk_at "size") => `(tactic| first
  | assumption
  | (show _ < sizeLine; rw [sizeLine_eq]; (try simp only [List.length_cons, List.length_nil, List.length_append, List.length_map]); omega)
  | (show _ ≤ sizeLine; rw [sizeLine_eq]; (try simp only [List.length_cons, List.length_nil, List.length_append, List.length_map]); omega))
local macro_rules | `(tactic| walk_at "side") => `(tactic| first
  | assumption
  | ((with_reducible refine cdw ?_ ?_) <;> omega)
  | omega
  | (exact ⟨by omega, by omega⟩)
  | (exact Or.inl ⟨by omega, by omega⟩)
  | (exact Or.inr ⟨by omega, by omega⟩)
  | decide
  | (simp only [List.length_cons, List.length_nil, List.length_append, List.length_map]; omega)
  | (show _ ≤ _; decide))
local macro_rules | `(tactic| walk_at "as") => `(tactic| with_reducible assumption)
local macro_rules | `(tactic| walk_at "tr") => `(tactic| first
  | with_reducible assumption
  | with_reducible exact upd_same
  | ((with_reducible refine' SqL.of ?hh); (case hh => walk_at "as"))
  | ((with_reducible refine' SqT.of ?hh); (case hh => walk_at "as"))
  | ((with_reducible refine' Same.stm ?ee ?gg); (case ee => walk_at "as"); (case gg => walk_at "tr"))
  | ((with_reducible refine' Same.sqT ?ee ?gg); (case ee => walk_at "as"); (case gg => walk_at "tr"))
  | ((with_reducible refine' Same.sqL ?ee ?gg); (case ee => walk_at "as"); (case gg => walk_at "tr"))
  | ((with_reducible refine' Same.at ?ee ?gg); (case ee => walk_at "as"); (case gg => walk_at "tr"))
  | ((with_reducible refine' But.stm ?ee ?ff ?gg); (case ee => walk_at "as"); (case ff => walk_at "ne"); (case gg => walk_at "tr"))
  | ((with_reducible refine' But.tup ?ee ?ff ?gg); (case ee => walk_at "as"); (case ff => walk_at "tr1"); (case gg => walk_at "tr"))
  | ((with_reducible refine' But.sqT ?ee ?ff ?gg); (case ee => walk_at "as"); (case ff => walk_at "tr1"); (case gg => walk_at "tr"))
  | ((with_reducible refine' But.tupL ?ee ?ff ?gg); (case ee => walk_at "as"); (case ff => walk_at "tr1"); (case gg => walk_at "tr"))
  | ((with_reducible refine' But.sqTL ?ee ?ff ?gg); (case ee => walk_at "as"); (case ff => walk_at "tr1"); (case gg => walk_at "tr"))
  | ((with_reducible refine' But.sqL ?ee ?ff ?gg); (case ee => walk_at "as"); (case ff => walk_at "ne"); (case gg => walk_at "tr"))
  | ((with_reducible refine' But.at ?ee ?ff ?gg); (case ee => walk_at "as"); (case ff => walk_at "ne"); (case gg => walk_at "tr")))
local macro_rules | `(tactic| walk_at "ts") => `(tactic| first
  | with_reducible assumption
  | with_reducible exact TS.refl _
  | ((with_reducible refine' TS.trans ?gg (TS.of ?ee)); (case ee => walk_at "as"); (case gg => walk_at "ts"))
  | ((with_reducible refine' TS.trans ?gg (TS.butS ?ee ?ff)); (case ee => walk_at "as"); (case ff => walk_at "tr1"); (case gg => walk_at "ts"))
  | ((with_reducible refine' TS.trans ?gg (TS.butL ?ee ?ff)); (case ee => walk_at "as"); (case ff => walk_at "tr1"); (case gg => walk_at "ts"))
  | ((with_reducible refine' TS.trans ?gg (TS.butI ?ee ?ff)); (case ee => walk_at "as"); (case ff => walk_at "tr1"); (case gg => walk_at "ts")))
local macro_rules | `(tactic| walk_at "sm") => `(tactic| first
  | with_reducible assumption
  | with_reducible exact Same.refl _
  | ((with_reducible refine' Same.trans ?gg ?ee); (case ee => walk_at "as"); (case gg => walk_at "sm"))
  | ((with_reducible refine' But.new ?gg ?nn ?ee); (case ee => walk_at "as"); (case nn => walk_at "fr"); (case gg => walk_at "sm")))
local macro_rules | `(tactic| walk_at "fr") => `(tactic| first
  | with_reducible assumption
  | ((with_reducible refine' Same.back ?ee ?nn); (case nn => walk_at "as"); (case ee => walk_at "sm"))
  | ((with_reducible refine' But.back ?ee ?ff ?nn); (case nn => walk_at "as"); (case ff => walk_at "ne0"); (case ee => walk_at "bu")))
local macro_rules | `(tactic| walk_at "bu") => `(tactic| first
  | with_reducible assumption
  | with_reducible exact But.refl _ _
  | ((with_reducible refine' But.trans ?gg ?ee); (case ee => walk_at "as"); (case gg => walk_at "bu"))
  | ((with_reducible refine' But.trans ?gg (But.of ?ee)); (case ee => walk_at "as"); (case gg => walk_at "bu"))
  | ((with_reducible refine' But.new2 ?gg ?nn ?ee); (case ee => walk_at "as"); (case nn => walk_at "frB"); (case gg => walk_at "bu")))
local macro_rules | `(tactic| walk_at "frB") => `(tactic| first
  | with_reducible assumption
  | ((with_reducible refine' Same.back ?ee ?nn); (case nn => walk_at "as"); (case ee => walk_at "sm"))
  | ((with_reducible refine' But.back' ?ee ?ff ?nn); (case nn => walk_at "as"); (case ee => walk_at "bu"); (case ff => walk_at "tr1")))
local macro_rules | `(tactic| walk_at "tr1") => `(tactic| first
  | with_reducible assumption
  | ((with_reducible refine' Same.stm ?ee ?gg); (case ee => walk_at "as"); (case gg => walk_at "tr1"))
  | ((with_reducible refine' Same.at ?ee ?gg); (case ee => walk_at "as"); (case gg => walk_at "tr1"))
  | ((with_reducible refine' But.at ?ee ?ff ?gg); (case ee => walk_at "as"); (case ff => walk_at "ne0"); (case gg => walk_at "tr1"))
  | ((with_reducible refine' But.stm ?ee ?ff ?gg); (case ee => walk_at "as"); (case ff => walk_at "ne0"); (case gg => walk_at "tr1")))
local macro_rules | `(tactic| walk_at "ne0") => `(tactic| first
  | with_reducible assumption
  | (with_reducible apply Ne.symm; with_reducible assumption))
local macro_rules | `(tactic| walk_at "ne") => `(tactic| first
  | with_reducible assumption
  | (with_reducible apply Ne.symm; with_reducible assumption)
  | ((with_reducible refine' stm_ne ?hh ?nn); (case nn => walk_at "as"); (case hh => walk_at "tr1"))
  | ((with_reducible refine' ne_of_none ?hh ?nn); (case nn => walk_at "as"); (case hh => walk_at "tr1"))
  | ((with_reducible apply Ne.symm); (with_reducible refine' ne_of_none ?hh ?nn); (case nn => walk_at "as"); (case hh => walk_at "tr1")))
local macro_rules | `(tactic| walk_at "v") => `(tactic| first
  | with_reducible refine w_seq ?_
  | ((with_reducible refine' w_var ?vv ?_); (case vv => exact rfl))
  | with_reducible refine w_c ?_
  | with_reducible refine w_op ?_
  | with_reducible refine w_asg ?_
  | with_reducible refine w_gName ?_
  | with_reducible refine w_ret ?_
  | with_reducible refine w_ifS ?_
  | with_reducible refine w_drop ?_
  | with_reducible refine w_next ?_
  | with_reducible refine w_cons ?_
  | with_reducible refine w_nil ?_
  | with_reducible refine w_call ?_
  | with_reducible refine w_cb ?_
  | with_reducible refine w_rI0 ?_
  | with_reducible refine w_addI ?_
  | with_reducible refine w_eqI ?_
  | with_reducible refine w_neI ?_
  | with_reducible refine w_eqS ?_
  | with_reducible refine w_neS ?_
  | with_reducible refine w_eqB ?_
  | with_reducible refine w_neB ?_
  | with_reducible refine w_chain ?_
  | with_reducible refine w_test ?_
  | with_reducible refine w_tB ?_
  | with_reducible refine w_bl ?_
  | ((with_reducible refine' w_mulI ?vv ?_); (case vv => walk_at "side"))
  | ((with_reducible refine' w_rI ?vv ?_); (case vv => walk_at "side"))
  | with_reducible refine w_int1 ?_
  | with_reducible refine w_int1b ?_
  | with_reducible refine w_tup ?_
  | with_reducible refine w_lst ?_
  | with_reducible refine w_un ?_
  | with_reducible refine w_rU ?_
  | with_reducible refine w_not ?_
  | with_reducible refine w_notV ?_
  | with_reducible refine w_ifE ?_
  | with_reducible refine w_nT ?_
  | with_reducible refine w_nF ?_
  | with_reducible refine iteT ?_
  | with_reducible refine iteF ?_
  | ((with_reducible refine' w_ixT ?vv ?ww ?_); (case vv => walk_at "tr"); (case ww => walk_at "ix"))
  | ((with_reducible refine' w_ixL ?vv ?ww ?_); (case vv => walk_at "tr"); (case ww => walk_at "ix"))
  | with_reducible refine w_gSub ?_
  | ((with_reducible refine' w_setL ?vv ?ww ?_); (case vv => walk_at "tr"); (case ww => first | rfl | decide | assumption))
  | ((with_reducible refine' w_lenL ?vv ?_); (case vv => walk_at "tr"))
  | ((with_reducible refine' w_lenT ?vv ?_); (case vv => walk_at "tr"))
  | with_reducible refine w_max2 ?_
  | with_reducible refine w_max3 ?_
  | with_reducible refine w_din ?_
  | with_reducible refine w_dnotin ?_
  | with_reducible refine w_dput ?_
  | with_reducible refine w_min2 ?_
  | with_reducible refine w_bm ?_
  | with_reducible refine w_bm0 ?_
  | ((with_reducible refine' w_tyL ?vv ?_); (case vv => walk_at "tr"))
  | ((with_reducible refine' w_append ?vv ?ww ?_); (case vv => walk_at "tr"); (case ww => walk_at "size"))
  | ((with_reducible refine' w_size ?vv ?_); (case vv => walk_at "size"))
  | with_reducible refine w_forL ?_
  | with_reducible refine w_forT ?_
  | with_reducible refine w_forR1 ?_
  | with_reducible refine w_forR2 ?_
  | with_reducible refine w_lcL ?_
  | with_reducible refine w_lcT ?_
  | with_reducible refine w_lcR1 ?_
  | with_reducible refine w_yes ?_
  | with_reducible refine w_sl ?_
  | with_reducible refine w_noPart ?_
  | with_reducible refine w_part ?_
  | with_reducible refine w_int ?_
  | ((with_reducible refine' w_slL ?vv ?_); (case vv => walk_at "tr"))
  | ((with_reducible refine' w_seqL ?vv ?ww ?_); (case vv => walk_at "tr"); (case ww => rfl))
  | ((with_reducible refine' w_seqT ?vv ?ww ?_); (case vv => walk_at "tr"); (case ww => rfl))
  | with_reducible refine w_gNil ?_
  | with_reducible refine w_gCons ?_
  | with_reducible refine w_forZ ?_
  | with_reducible refine w_forM ?_
  | with_reducible refine w_forE ?_
  | with_reducible refine w_forV ?_
  | with_reducible refine w_lcZ ?_
  | with_reducible refine w_lcE ?_
  | ((with_reducible refine' w_isi (b := true) ?vv ?ww ?_); (case vv => walk_at "ty"); (case ww => decide +kernel))
  | ((with_reducible refine' w_isi (b := false) ?vv ?ww ?_); (case vv => walk_at "ty"); (case ww => decide +kernel))
  | with_reducible refine w_revL ?_
  | with_reducible refine w_pairN ?_
  | with_reducible refine w_pairC ?_
  | with_reducible refine w_dget ?_
  | with_reducible refine w_met ?_
  | ((with_reducible refine' w_metAt ?vv ?ww ?_); (case vv => walk_at "tr"); (case ww => rfl))
  | with_reducible refine w_mkI ?_
  | with_reducible refine w_fld ?_
  | ((with_reducible refine' w_fldAt ?vv ?cc ?nn ?ww ?_); (case vv => walk_at "tr"); (case cc => walk_at "cls"); (case nn => walk_at "na"); (case ww => rfl))
  | with_reducible refine w_sfld ?_
  | ((with_reducible refine' w_sfldAt ?vv ?cc ?nn ?ll ?ee ?_); (case vv => walk_at "tr"); (case cc => walk_at "cls"); (case nn => walk_at "na"); (case ll => simp); (case ee => rfl))
  | ((with_reducible refine' w_tupL ?vv ?_); (case vv => walk_at "tr"))
  | ((with_reducible refine' w_tupT ?vv ?_); (case vv => walk_at "tr"))
  | ((with_reducible refine' w_listL ?vv ?_); (case vv => walk_at "tr"))
  | ((with_reducible refine' w_listT ?vv ?_); (case vv => walk_at "tr"))
  | with_reducible refine w_tyS ?_
  | with_reducible refine w_lcZM ?_
  | with_reducible refine w_js ?_
  | with_reducible refine w_jsN ?_
  | ((with_reducible refine' w_jsP ?vv ?_); (case vv => walk_at "size"))
  | with_reducible refine w_fmt ?_
  | with_reducible refine w_forRR ?_
  | with_reducible refine w_retN ?_
  | with_reducible refine w_break ?_
  | with_reducible refine w_cont ?_)
local macro_rules | `(tactic| walk_at "w") => `(tactic| first
  | walk_at "v"
  | with_reducible refine w_or ?_
  | with_reducible refine w_and ?_
  | with_reducible refine w_andV ?_
  | with_reducible refine w_orV ?_)
local macro_rules | `(tactic| walk_at "wd") => `(tactic| first
  | walk_at "w"
  | ((with_reducible refine' w_decT ?vv ?_); (case vv => decide +kernel))
  | ((with_reducible refine' w_decF ?vv ?_); (case vv => decide +kernel)))
local macro_rules | `(tactic| walk_at "tz") => `(tactic| (intro S z; (repeat walk_at "w"); exact z))
local macro_rules | `(tactic| walk_at "wf") => `(tactic| first
  | walk_at "wd"
  | ((with_reducible refine' w_decF ?vv ?_); (case vv => with_reducible assumption)))
/-! ### steps: what each class answers -/
def spSrcs (K : PySem.W.Frag) (C : Str) : Sp := fun vs H Q _ => ∃ p s, vs = [.ref p] ∧ StepAt K H p C s ∧ ∀ q H' us, H' q = some (.lst us) → DpAll K H' us (s.srcs.map Src.d) → Same H H' → H q = none → Q (.ref q) H'
def spChg (K : PySem.W.Frag) (C : Str) : Sp := fun vs H Q _ => ∃ p s, vs = [.ref p] ∧ StepAt K H p C s ∧ ∀ q H', H' q = some (.lst (s.chg.map fun n : Nat => V.int (n : Int))) → Same H H' → H q = none → Q (.ref q) H'
def spWay (K : PySem.W.Frag) (C : Str) : Sp := fun vs H Q _ => ∃ p s, vs = [.ref p] ∧ StepAt K H p C s ∧ Q (.bl s.way) H
def spRds (K : PySem.W.Frag) (C : Str) : Sp := fun vs H Q _ => ∃ p s, vs = [.ref p] ∧ StepAt K H p C s ∧ s.ok ∧ ∀ q H' ks, H' q = some (.lst (ks.map V.str)) → sortedS ks = true → ks.Nodup → (∀ k, k ∈ ks ↔ k ∈ s.rd.map pn) → ks.length < 64 → Same H H' → H q = none → Q (.ref q) H'
def spWrs (K : PySem.W.Frag) (C : Str) : Sp := fun vs H Q _ => ∃ p s, vs = [.ref p] ∧ StepAt K H p C s ∧ s.ok ∧ ∀ q H', H' q = some (.lst ((s.wr.map pn).map V.str)) → Same H H' → H q = none → Q (.ref q) H'
theorem len_Step_sources {K : PySem.W.Frag} {C : Str} {vs H Q E} (h : spSrcs K C vs H Q E) : vs.length = 1 := by obtain ⟨_, _, rfl, _⟩ := h; rfl
theorem len_Get_sources {K : PySem.W.Frag} {C : Str} {vs H Q E} (h : spSrcs K C vs H Q E) : vs.length = 1 := by obtain ⟨_, _, rfl, _⟩ := h; rfl
theorem len_Ask_sources {K : PySem.W.Frag} {C : Str} {vs H Q E} (h : spSrcs K C vs H Q E) : vs.length = 1 := by obtain ⟨_, _, rfl, _⟩ := h; rfl
theorem len_Cell_sources {K : PySem.W.Frag} {C : Str} {vs H Q E} (h : spSrcs K C vs H Q E) : vs.length = 1 := by obtain ⟨_, _, rfl, _⟩ := h; rfl
theorem len_Two_sources {K : PySem.W.Frag} {C : Str} {vs H Q E} (h : spSrcs K C vs H Q E) : vs.length = 1 := by obtain ⟨_, _, rfl, _⟩ := h; rfl
theorem len_Put_sources {K : PySem.W.Frag} {C : Str} {vs H Q E} (h : spSrcs K C vs H Q E) : vs.length = 1 := by obtain ⟨_, _, rfl, _⟩ := h; rfl
theorem len_Tell_sources {K : PySem.W.Frag} {C : Str} {vs H Q E} (h : spSrcs K C vs H Q E) : vs.length = 1 := by obtain ⟨_, _, rfl, _⟩ := h; rfl
theorem len_Store_sources {K : PySem.W.Frag} {C : Str} {vs H Q E} (h : spSrcs K C vs H Q E) : vs.length = 1 := by obtain ⟨_, _, rfl, _⟩ := h; rfl
theorem len_Step_changed_places {K : PySem.W.Frag} {C : Str} {vs H Q E} (h : spChg K C vs H Q E) : vs.length = 1 := by obtain ⟨_, _, rfl, _⟩ := h; rfl
theorem len_Get_changed_places {K : PySem.W.Frag} {C : Str} {vs H Q E} (h : spChg K C vs H Q E) : vs.length = 1 := by obtain ⟨_, _, rfl, _⟩ := h; rfl
theorem len_Ask_changed_places {K : PySem.W.Frag} {C : Str} {vs H Q E} (h : spChg K C vs H Q E) : vs.length = 1 := by obtain ⟨_, _, rfl, _⟩ := h; rfl
theorem len_Cell_changed_places {K : PySem.W.Frag} {C : Str} {vs H Q E} (h : spChg K C vs H Q E) : vs.length = 1 := by obtain ⟨_, _, rfl, _⟩ := h; rfl
theorem len_Two_changed_places {K : PySem.W.Frag} {C : Str} {vs H Q E} (h : spChg K C vs H Q E) : vs.length = 1 := by obtain ⟨_, _, rfl, _⟩ := h; rfl
theorem len_Put_changed_places {K : PySem.W.Frag} {C : Str} {vs H Q E} (h : spChg K C vs H Q E) : vs.length = 1 := by obtain ⟨_, _, rfl, _⟩ := h; rfl
theorem len_Tell_changed_places {K : PySem.W.Frag} {C : Str} {vs H Q E} (h : spChg K C vs H Q E) : vs.length = 1 := by obtain ⟨_, _, rfl, _⟩ := h; rfl
theorem len_Store_changed_places {K : PySem.W.Frag} {C : Str} {vs H Q E} (h : spChg K C vs H Q E) : vs.length = 1 := by obtain ⟨_, _, rfl, _⟩ := h; rfl
theorem len_Step_uses_way {K : PySem.W.Frag} {C : Str} {vs H Q E} (h : spWay K C vs H Q E) : vs.length = 1 := by obtain ⟨_, _, rfl, _⟩ := h; rfl
theorem len_Get_uses_way {K : PySem.W.Frag} {C : Str} {vs H Q E} (h : spWay K C vs H Q E) : vs.length = 1 := by obtain ⟨_, _, rfl, _⟩ := h; rfl
theorem len_Ask_uses_way {K : PySem.W.Frag} {C : Str} {vs H Q E} (h : spWay K C vs H Q E) : vs.length = 1 := by obtain ⟨_, _, rfl, _⟩ := h; rfl
theorem len_Cell_uses_way {K : PySem.W.Frag} {C : Str} {vs H Q E} (h : spWay K C vs H Q E) : vs.length = 1 := by obtain ⟨_, _, rfl, _⟩ := h; rfl
theorem len_Two_uses_way {K : PySem.W.Frag} {C : Str} {vs H Q E} (h : spWay K C vs H Q E) : vs.length = 1 := by obtain ⟨_, _, rfl, _⟩ := h; rfl
theorem len_Put_uses_way {K : PySem.W.Frag} {C : Str} {vs H Q E} (h : spWay K C vs H Q E) : vs.length = 1 := by obtain ⟨_, _, rfl, _⟩ := h; rfl
theorem len_Tell_uses_way {K : PySem.W.Frag} {C : Str} {vs H Q E} (h : spWay K C vs H Q E) : vs.length = 1 := by obtain ⟨_, _, rfl, _⟩ := h; rfl
theorem len_Store_uses_way {K : PySem.W.Frag} {C : Str} {vs H Q E} (h : spWay K C vs H Q E) : vs.length = 1 := by obtain ⟨_, _, rfl, _⟩ := h; rfl
theorem len_Step_reads {K : PySem.W.Frag} {C : Str} {vs H Q E} (h : spRds K C vs H Q E) : vs.length = 1 := by obtain ⟨_, _, rfl, _⟩ := h; rfl
theorem len_Step_writes {K : PySem.W.Frag} {C : Str} {vs H Q E} (h : spWrs K C vs H Q E) : vs.length = 1 := by obtain ⟨_, _, rfl, _⟩ := h; rfl
theorem no_srcs {C : Str} (hC : C ∈ (["Get", "Ask"] : List Str)) {s : Stp} (h : s.cls = C) : s.srcs = [] := by
  subst h; cases s <;> first | rfl | exact absurd hC (by simp only [Stp.cls]; decide +kernel)
theorem no_chg {C : Str} (hC : C ∈ (["Put", "Tell", "Store"] : List Str)) {s : Stp} (h : s.cls = C) : s.chg = [] := by
  subst h; cases s <;> first | rfl | exact absurd hC (by simp only [Stp.cls]; decide +kernel)
theorem all_way {C : Str} (hC : C ∈ (["Get", "Ask", "Cell", "Put", "Tell", "Store"] : List Str)) {s : Stp} (h : s.cls = C) : s.way = true := by
  subst h; cases s <;> first | rfl | exact absurd hC (by simp only [Stp.cls]; decide +kernel)
section
variable {P : Program} {w : World} {K : PySem.W.Frag} {mg : Str → Option Value}
theorem ok_Get_changed_places [c : Facts K mg] [ct : FactsT w K] {f : Addr} {fd : FuncData} (F : FunD K "changed_places" "Get.changed_places" (defArgs s_Get_changed_places) (defBody s_Get_changed_places) (defScope s_Get_changed_places) [] [] f fd) : XL.FnA P w K mg f 1 ["self"] ((spChg K "Get")) := by
  refine XL.FnA.mk' F sc_Get_changed_places (k := 0) (fun vs H Q E h => ?_) (fun _ _ _ _ _ _ us hl => match us, hl with | [_], _ => rfl) (fun base cdv A outer s H vs Q E hr h => ?_)
  · exact len_Get_changed_places h
  · have nd := sc_Get_changed_places.nd
    have hu := hu_of hr.r
    refine ⟨_, (PSs.nox (pss_one (ps_ret (pe_lst (pa_cons (pe_fldK (K := K) rfl (pv 0)) pa_nil))))), ?_⟩
    try dsimp only [cxOf, Cx.nox, Cx.wish]
    obtain ⟨p, s, rfl, hs, q⟩ := h
    obtain ⟨a0, a1, dx, u0, u1, rfl, hp, rfl, h1⟩ := stp_Get hs
    repeat walk_at "w"
    exact w_new fun t H1 n1 s1 f1 => q t H1 f1 s1 n1
theorem ok_Ask_changed_places [c : Facts K mg] [ct : FactsT w K] {f : Addr} {fd : FuncData} (F : FunD K "changed_places" "Ask.changed_places" (defArgs s_Ask_changed_places) (defBody s_Ask_changed_places) (defScope s_Ask_changed_places) [] [] f fd) : XL.FnA P w K mg f 1 ["self"] ((spChg K "Ask")) := by
  refine XL.FnA.mk' F sc_Ask_changed_places (k := 0) (fun vs H Q E h => ?_) (fun _ _ _ _ _ _ us hl => match us, hl with | [_], _ => rfl) (fun base cdv A outer s H vs Q E hr h => ?_)
  · exact len_Ask_changed_places h
  · have nd := sc_Ask_changed_places.nd
    have hu := hu_of hr.r
    refine ⟨_, (PSs.nox (pss_one (ps_ret (pe_lst (pa_cons (pe_fldK (K := K) rfl (pv 0)) pa_nil))))), ?_⟩
    try dsimp only [cxOf, Cx.nox, Cx.wish]
    obtain ⟨p, s, rfl, hs, q⟩ := h
    obtain ⟨a0, a1, dx, u0, u1, rfl, hp, rfl, h1⟩ := stp_Ask hs
    repeat walk_at "w"
    exact w_new fun t H1 n1 s1 f1 => q t H1 f1 s1 n1
theorem ok_Cell_sources [c : Facts K mg] [ct : FactsT w K] {f : Addr} {fd : FuncData} (F : FunD K "sources" "Cell.sources" (defArgs s_Cell_sources) (defBody s_Cell_sources) (defScope s_Cell_sources) [] [] f fd) : XL.FnA P w K mg f 1 ["self"] ((spSrcs K "Cell")) := by
  refine XL.FnA.mk' F sc_Cell_sources (k := 0) (fun vs H Q E h => ?_) (fun _ _ _ _ _ _ us hl => match us, hl with | [_], _ => rfl) (fun base cdv A outer s H vs Q E hr h => ?_)
  · exact len_Cell_sources h
  · have nd := sc_Cell_sources.nd
    have hu := hu_of hr.r
    refine ⟨_, (PSs.nox (pss_one (ps_ret (pe_lst (pa_cons (pe_fldK (K := K) rfl (pv 0)) pa_nil))))), ?_⟩
    try dsimp only [cxOf, Cx.nox, Cx.wish]
    obtain ⟨p, s, rfl, hs, q⟩ := h
    obtain ⟨a0, a1, dx, u0, u1, rfl, hp, rfl, h1⟩ := stp_Cell hs
    repeat walk_at "w"
    exact w_new fun t H1 n1 s1 f1 => q t H1 _ f1 (.cons (dp_ts (TS.of s1) _ _ (src_tup _) h1) .nil) s1 n1
theorem ok_Cell_changed_places [c : Facts K mg] [ct : FactsT w K] {f : Addr} {fd : FuncData} (F : FunD K "changed_places" "Cell.changed_places" (defArgs s_Cell_changed_places) (defBody s_Cell_changed_places) (defScope s_Cell_changed_places) [] [] f fd) : XL.FnA P w K mg f 1 ["self"] ((spChg K "Cell")) := by
  refine XL.FnA.mk' F sc_Cell_changed_places (k := 0) (fun vs H Q E h => ?_) (fun _ _ _ _ _ _ us hl => match us, hl with | [_], _ => rfl) (fun base cdv A outer s H vs Q E hr h => ?_)
  · exact len_Cell_changed_places h
  · have nd := sc_Cell_changed_places.nd
    have hu := hu_of hr.r
    refine ⟨_, (PSs.nox (pss_one (ps_ret (pe_lst (pa_cons (pe_fldK (K := K) rfl (pv 0)) pa_nil))))), ?_⟩
    try dsimp only [cxOf, Cx.nox, Cx.wish]
    obtain ⟨p, s, rfl, hs, q⟩ := h
    obtain ⟨a0, a1, dx, u0, u1, rfl, hp, rfl, h1⟩ := stp_Cell hs
    repeat walk_at "w"
    exact w_new fun t H1 n1 s1 f1 => q t H1 f1 s1 n1
theorem ok_Two_sources [c : Facts K mg] [ct : FactsT w K] {f : Addr} {fd : FuncData} (F : FunD K "sources" "Two.sources" (defArgs s_Two_sources) (defBody s_Two_sources) (defScope s_Two_sources) [] [] f fd) : XL.FnA P w K mg f 1 ["self"] ((spSrcs K "Two")) := by
  refine XL.FnA.mk' F sc_Two_sources (k := 0) (fun vs H Q E h => ?_) (fun _ _ _ _ _ _ us hl => match us, hl with | [_], _ => rfl) (fun base cdv A outer s H vs Q E hr h => ?_)
  · exact len_Two_sources h
  · have nd := sc_Two_sources.nd
    have hu := hu_of hr.r
    refine ⟨_, (PSs.nox (pss_one (ps_ret (pe_lst (pa_cons (pe_fldK (K := K) rfl (pv 0)) (pa_cons (pe_fldK (K := K) rfl (pv 0)) pa_nil)))))), ?_⟩
    try dsimp only [cxOf, Cx.nox, Cx.wish]
    obtain ⟨p, s, rfl, hs, q⟩ := h
    obtain ⟨a0, a1, a2, a3, dx, u0, u1, u2, u3, rfl, hp, rfl, rfl, h2, h3⟩ := stp_Two hs
    repeat walk_at "w"
    exact w_new fun t H1 n1 s1 f1 => q t H1 _ f1 (.cons (dp_ts (TS.of s1) _ _ (src_tup _) h2) (.cons (dp_ts (TS.of s1) _ _ (src_tup _) h3) .nil)) s1 n1
theorem ok_Two_changed_places [c : Facts K mg] [ct : FactsT w K] {f : Addr} {fd : FuncData} (F : FunD K "changed_places" "Two.changed_places" (defArgs s_Two_changed_places) (defBody s_Two_changed_places) (defScope s_Two_changed_places) [] [] f fd) : XL.FnA P w K mg f 1 ["self"] ((spChg K "Two")) := by
  refine XL.FnA.mk' F sc_Two_changed_places (k := 0) (fun vs H Q E h => ?_) (fun _ _ _ _ _ _ us hl => match us, hl with | [_], _ => rfl) (fun base cdv A outer s H vs Q E hr h => ?_)
  · exact len_Two_changed_places h
  · have nd := sc_Two_changed_places.nd
    have hu := hu_of hr.r
    refine ⟨_, (PSs.nox (pss_one (ps_ret (pe_lst (pa_cons (pe_fldK (K := K) rfl (pv 0)) pa_nil))))), ?_⟩
    try dsimp only [cxOf, Cx.nox, Cx.wish]
    obtain ⟨p, s, rfl, hs, q⟩ := h
    obtain ⟨a0, a1, a2, a3, dx, u0, u1, u2, u3, rfl, hp, rfl, rfl, h2, h3⟩ := stp_Two hs
    repeat walk_at "w"
    exact w_new fun t H1 n1 s1 f1 => q t H1 f1 s1 n1
theorem ok_Two_uses_way [c : Facts K mg] [ct : FactsT w K] {f : Addr} {fd : FuncData} (F : FunD K "uses_way" "Two.uses_way" (defArgs s_Two_uses_way) (defBody s_Two_uses_way) (defScope s_Two_uses_way) [] [] f fd) : XL.FnA P w K mg f 1 ["self"] ((spWay K "Two")) := by
  refine XL.FnA.mk' F sc_Two_uses_way (k := 0) (fun vs H Q E h => ?_) (fun _ _ _ _ _ _ us hl => match us, hl with | [_], _ => rfl) (fun base cdv A outer s H vs Q E hr h => ?_)
  · exact len_Two_uses_way h
  · have nd := sc_Two_uses_way.nd
    have hu := hu_of hr.r
    refine ⟨_, (PSs.nox (pss_one (ps_ret pe_bl))), ?_⟩
    try dsimp only [cxOf, Cx.nox, Cx.wish]
    obtain ⟨p, s, rfl, hs, q⟩ := h
    obtain ⟨a0, a1, a2, a3, dx, u0, u1, u2, u3, rfl, hp, rfl, rfl, h2, h3⟩ := stp_Two hs
    repeat walk_at "w"
    exact q
theorem ok_Put_sources [c : Facts K mg] [ct : FactsT w K] {f : Addr} {fd : FuncData} (F : FunD K "sources" "Put.sources" (defArgs s_Put_sources) (defBody s_Put_sources) (defScope s_Put_sources) [] [] f fd) : XL.FnA P w K mg f 1 ["self"] ((spSrcs K "Put")) := by
  refine XL.FnA.mk' F sc_Put_sources (k := 0) (fun vs H Q E h => ?_) (fun _ _ _ _ _ _ us hl => match us, hl with | [_], _ => rfl) (fun base cdv A outer s H vs Q E hr h => ?_)
  · exact len_Put_sources h
  · have nd := sc_Put_sources.nd
    have hu := hu_of hr.r
    refine ⟨_, (PSs.nox (pss_one (ps_ret (pe_lst (pa_cons (pe_fldK (K := K) rfl (pv 0)) pa_nil))))), ?_⟩
    try dsimp only [cxOf, Cx.nox, Cx.wish]
    obtain ⟨p, s, rfl, hs, q⟩ := h
    obtain ⟨a0, a1, dx, u0, u1, rfl, hp, h0, h1⟩ := stp_Put hs
    repeat walk_at "w"
    exact w_new fun t H1 n1 s1 f1 => q t H1 _ f1 (.cons (dp_ts (TS.of s1) _ _ (src_tup _) h1) .nil) s1 n1
theorem ok_Tell_sources [c : Facts K mg] [ct : FactsT w K] {f : Addr} {fd : FuncData} (F : FunD K "sources" "Tell.sources" (defArgs s_Tell_sources) (defBody s_Tell_sources) (defScope s_Tell_sources) [] [] f fd) : XL.FnA P w K mg f 1 ["self"] ((spSrcs K "Tell")) := by
  refine XL.FnA.mk' F sc_Tell_sources (k := 0) (fun vs H Q E h => ?_) (fun _ _ _ _ _ _ us hl => match us, hl with | [_], _ => rfl) (fun base cdv A outer s H vs Q E hr h => ?_)
  · exact len_Tell_sources h
  · have nd := sc_Tell_sources.nd
    have hu := hu_of hr.r
    refine ⟨_, (PSs.nox (pss_one (ps_ret (pe_lst (pa_cons (pe_fldK (K := K) rfl (pv 0)) pa_nil))))), ?_⟩
    try dsimp only [cxOf, Cx.nox, Cx.wish]
    obtain ⟨p, s, rfl, hs, q⟩ := h
    obtain ⟨a0, a1, dx, u0, u1, rfl, hp, h0, h1⟩ := stp_Tell hs
    repeat walk_at "w"
    exact w_new fun t H1 n1 s1 f1 => q t H1 _ f1 (.cons (dp_ts (TS.of s1) _ _ (src_tup _) h1) .nil) s1 n1
theorem ok_Store_sources [c : Facts K mg] [ct : FactsT w K] {f : Addr} {fd : FuncData} (F : FunD K "sources" "Store.sources" (defArgs s_Store_sources) (defBody s_Store_sources) (defScope s_Store_sources) [] [] f fd) : XL.FnA P w K mg f 1 ["self"] ((spSrcs K "Store")) := by
  refine XL.FnA.mk' F sc_Store_sources (k := 0) (fun vs H Q E h => ?_) (fun _ _ _ _ _ _ us hl => match us, hl with | [_], _ => rfl) (fun base cdv A outer s H vs Q E hr h => ?_)
  · exact len_Store_sources h
  · have nd := sc_Store_sources.nd
    have hu := hu_of hr.r
    refine ⟨_, (PSs.nox (pss_one (ps_ret (pe_lst (pa_cons (pe_fldK (K := K) rfl (pv 0)) (pa_cons (pe_fldK (K := K) rfl (pv 0)) pa_nil)))))), ?_⟩
    try dsimp only [cxOf, Cx.nox, Cx.wish]
    obtain ⟨p, s, rfl, hs, q⟩ := h
    obtain ⟨a0, a1, dx, u0, u1, rfl, hp, h0, h1⟩ := stp_Store hs
    repeat walk_at "w"
    exact w_new fun t H1 n1 s1 f1 => q t H1 _ f1 (.cons (dp_ts (TS.of s1) _ _ (src_tup _) h0) (.cons (dp_ts (TS.of s1) _ _ (src_tup _) h1) .nil)) s1 n1
theorem ok_Step_sources [c : Facts K mg] [ct : FactsT w K] {f : Addr} {fd : FuncData} (F : FunD K "sources" "Step.sources" (defArgs s_Step_sources) (defBody s_Step_sources) (defScope s_Step_sources) [] [] f fd) {C : Str} (hC : C ∈ (["Get", "Ask"] : List Str)) : XL.FnA P w K mg f 1 ["self"] ((spSrcs K C)) := by
  refine XL.FnA.mk' F sc_Step_sources (k := 0) (fun vs H Q E h => ?_) (fun _ _ _ _ _ _ us hl => match us, hl with | [_], _ => rfl) (fun base cdv A outer s H vs Q E hr h => ?_)
  · exact len_Step_sources h
  · have nd := sc_Step_sources.nd
    have hu := hu_of hr.r
    refine ⟨_, (PSs.nox (pss_one (ps_ret (pe_lst pa_nil)))), ?_⟩
    try dsimp only [cxOf, Cx.nox, Cx.wish]
    obtain ⟨p, s, rfl, hs, q⟩ := h
    rw [no_srcs hC hs.1] at q
    repeat walk_at "w"
    exact w_new fun t H1 n1 s1 f1 => q t H1 _ f1 .nil s1 n1
theorem ok_Step_changed_places [c : Facts K mg] [ct : FactsT w K] {f : Addr} {fd : FuncData} (F : FunD K "changed_places" "Step.changed_places" (defArgs s_Step_changed_places) (defBody s_Step_changed_places) (defScope s_Step_changed_places) [] [] f fd) {C : Str} (hC : C ∈ (["Put", "Tell", "Store"] : List Str)) : XL.FnA P w K mg f 1 ["self"] ((spChg K C)) := by
  refine XL.FnA.mk' F sc_Step_changed_places (k := 0) (fun vs H Q E h => ?_) (fun _ _ _ _ _ _ us hl => match us, hl with | [_], _ => rfl) (fun base cdv A outer s H vs Q E hr h => ?_)
  · exact len_Step_changed_places h
  · have nd := sc_Step_changed_places.nd
    have hu := hu_of hr.r
    refine ⟨_, (PSs.nox (pss_one (ps_ret (pe_lst pa_nil)))), ?_⟩
    try dsimp only [cxOf, Cx.nox, Cx.wish]
    obtain ⟨p, s, rfl, hs, q⟩ := h
    rw [no_chg hC hs.1] at q
    repeat walk_at "w"
    exact w_new fun t H1 n1 s1 f1 => q t H1 f1 s1 n1
theorem ok_Step_uses_way [c : Facts K mg] [ct : FactsT w K] {f : Addr} {fd : FuncData} (F : FunD K "uses_way" "Step.uses_way" (defArgs s_Step_uses_way) (defBody s_Step_uses_way) (defScope s_Step_uses_way) [] [] f fd) {C : Str} (hC : C ∈ (["Get", "Ask", "Cell", "Put", "Tell", "Store"] : List Str)) : XL.FnA P w K mg f 1 ["self"] ((spWay K C)) := by
  refine XL.FnA.mk' F sc_Step_uses_way (k := 0) (fun vs H Q E h => ?_) (fun _ _ _ _ _ _ us hl => match us, hl with | [_], _ => rfl) (fun base cdv A outer s H vs Q E hr h => ?_)
  · exact len_Step_uses_way h
  · have nd := sc_Step_uses_way.nd
    have hu := hu_of hr.r
    refine ⟨_, (PSs.nox (pss_one (ps_ret pe_bl))), ?_⟩
    try dsimp only [cxOf, Cx.nox, Cx.wish]
    obtain ⟨p, s, rfl, hs, q⟩ := h
    rw [all_way hC hs.1] at q
    repeat walk_at "w"
    exact q
end

end J
namespace J
open PySem PySem.Spec PyProof.Rows L2
local macro_rules | `(tactic| walk_at "cls") => `(tactic| first
  | with_reducible exact Facts.cl_Step
  | with_reducible exact Facts.cl_Get
  | with_reducible exact Facts.cl_Ask
  | with_reducible exact Facts.cl_Cell
  | with_reducible exact Facts.cl_Two
  | with_reducible exact Facts.cl_Put
  | with_reducible exact Facts.cl_Tell
  | with_reducible exact Facts.cl_Store)
local macro_rules | `(tactic| walk_at "na") => `(tactic| first
  | with_reducible exact Facts.na_Get_to
  | with_reducible exact Facts.na_Get_sel
  | with_reducible exact Facts.na_Ask_to
  | with_reducible exact Facts.na_Ask_sel
  | with_reducible exact Facts.na_Cell_to
  | with_reducible exact Facts.na_Cell_source
  | with_reducible exact Facts.na_Two_to
  | with_reducible exact Facts.na_Two_op
  | with_reducible exact Facts.na_Two_one
  | with_reducible exact Facts.na_Two_other
  | with_reducible exact Facts.na_Put_sel
  | with_reducible exact Facts.na_Put_source
  | with_reducible exact Facts.na_Tell_sel
  | with_reducible exact Facts.na_Tell_source
  | with_reducible exact Facts.na_Store_at
  | with_reducible exact Facts.na_Store_source)
local macro_rules | `(tactic| walk_at "ty") => `(tactic| first
  | with_reducible exact ty_int
  | with_reducible exact ty_bl
  | with_reducible exact ty_str
  | with_reducible exact ty_non
  | ((with_reducible refine' ty_lst ?vv); (case vv => walk_at "tr"))
  | ((with_reducible refine' ty_sqT ?vv); (case vv => walk_at "tr"))
  | ((with_reducible refine' ty_dic ?vv); (case vv => walk_at "tr")))
local macro_rules | `(tactic| walk_at "ix") => `(tactic| first | exact at0 | exact at1 | exact at2 | assumption)
local macro_rules | `(tactic| walk_at "size") => `(tactic| first
  | assumption
  | (show _ < sizeLine; rw [sizeLine_eq]; (try simp only [List.length_cons, List.length_nil, List.length_append, List.length_map]); omega)
  | (show _ ≤ sizeLine; rw [sizeLine_eq]; (try simp only [List.length_cons, List.length_nil, List.length_append, List.length_map]); omega))
local macro_rules | `(tactic| walk_at "side") => `(tactic| first
  | assumption
  | ((with_reducible refine cdw ?_ ?_) <;> omega)
  | omega
  | (exact ⟨by omega, by omega⟩)
  | (exact Or.inl ⟨by omega, by omega⟩)
  | (exact Or.inr ⟨by omega, by omega⟩)
  | decide
  | (simp only [List.length_cons, List.length_nil, List.length_append, List.length_map]; omega)
  | (show _ ≤ _; decide))
local macro_rules | `(tactic| walk_at "as") => `(tactic| with_reducible assumption)
local macro_rules | `(tactic| walk_at "tr") => `(tactic| first
  | with_reducible assumption
  | with_reducible exact upd_same
  | ((with_reducible refine' SqL.of ?hh); (case hh => walk_at "as"))
  | ((with_reducible refine' SqT.of ?hh); (case hh => walk_at "as"))
  | ((with_reducible refine' Same.stm ?ee ?gg); (case ee => walk_at "as"); (case gg => walk_at "tr"))
  | ((with_reducible refine' Same.sqT ?ee ?gg); (case ee => walk_at "as"); (case gg => walk_at "tr"))
  | ((with_reducible refine' Same.sqL ?ee ?gg); (case ee => walk_at "as"); (case gg => walk_at "tr"))
  | ((with_reducible refine' Same.at ?ee ?gg); (case ee => walk_at "as"); (case gg => walk_at "tr"))
  | ((with_reducible refine' But.stm ?ee ?ff ?gg); (case ee => walk_at "as"); (case ff => walk_at "ne"); (case gg => walk_at "tr"))
  | ((with_reducible refine' But.tup ?ee ?ff ?gg); (case ee => walk_at "as"); (case ff => walk_at "tr1"); (case gg => walk_at "tr"))
  | ((with_reducible refine' But.sqT ?ee ?ff ?gg); (case ee => walk_at "as"); (case ff => walk_at "tr1"); (case gg => walk_at "tr"))
  | ((with_reducible refine' But.tupL ?ee ?ff ?gg); (case ee => walk_at "as"); (case ff => walk_at "tr1"); (case gg => walk_at "tr"))
  | ((with_reducible refine' But.sqTL ?ee ?ff ?gg); (case ee => walk_at "as"); (case ff => walk_at "tr1"); (case gg => walk_at "tr"))
  | ((with_reducible refine' But.sqL ?ee ?ff ?gg); (case ee => walk_at "as"); (case ff => walk_at "ne"); (case gg => walk_at "tr"))
  | ((with_reducible refine' But.at ?ee ?ff ?gg); (case ee => walk_at "as"); (case ff => walk_at "ne"); (case gg => walk_at "tr")))
local macro_rules | `(tactic| walk_at "ts") => `(tactic| first
  | with_reducible assumption
  | with_reducible exact TS.refl _
  | ((with_reducible refine' TS.trans ?gg (TS.of ?ee)); (case ee => walk_at "as"); (case gg => walk_at "ts"))
  | ((with_reducible refine' TS.trans ?gg (TS.butS ?ee ?ff)); (case ee => walk_at "as"); (case ff => walk_at "tr1"); (case gg => walk_at "ts"))
  | ((with_reducible refine' TS.trans ?gg (TS.butL ?ee ?ff)); (case ee => walk_at "as"); (case ff => walk_at "tr1"); (case gg => walk_at "ts"))
  | ((with_reducible refine' TS.trans ?gg (TS.butI ?ee ?ff)); (case ee => walk_at "as"); (case ff => walk_at "tr1"); (case gg => walk_at "ts")))
local macro_rules | `(tactic| walk_at "sm") => `(tactic| first
  | with_reducible assumption
  | with_reducible exact Same.refl _
  | ((with_reducible refine' Same.trans ?gg ?ee); (case ee => walk_at "as"); (case gg => walk_at "sm"))
  | ((with_reducible refine' But.new ?gg ?nn ?ee); (case ee => walk_at "as"); (case nn => walk_at "fr"); (case gg => walk_at "sm")))
local macro_rules | `(tactic| walk_at "fr") => `(tactic| first
  | with_reducible assumption
  | ((with_reducible refine' Same.back ?ee ?nn); (case nn => walk_at "as"); (case ee => walk_at "sm"))
  | ((with_reducible refine' But.back ?ee ?ff ?nn); (case nn => walk_at "as"); (case ff => walk_at "ne0"); (case ee => walk_at "bu")))
local macro_rules | `(tactic| walk_at "bu") => `(tactic| first
  | with_reducible assumption
  | with_reducible exact But.refl _ _
  | ((with_reducible refine' But.trans ?gg ?ee); (case ee => walk_at "as"); (case gg => walk_at "bu"))
  | ((with_reducible refine' But.trans ?gg (But.of ?ee)); (case ee => walk_at "as"); (case gg => walk_at "bu"))
  | ((with_reducible refine' But.new2 ?gg ?nn ?ee); (case ee => walk_at "as"); (case nn => walk_at "frB"); (case gg => walk_at "bu")))
local macro_rules | `(tactic| walk_at "frB") => `(tactic| first
  | with_reducible assumption
  | ((with_reducible refine' Same.back ?ee ?nn); (case nn => walk_at "as"); (case ee => walk_at "sm"))
  | ((with_reducible refine' But.back' ?ee ?ff ?nn); (case nn => walk_at "as"); (case ee => walk_at "bu"); (case ff => walk_at "tr1")))
local macro_rules | `(tactic| walk_at "tr1") => `(tactic| first
  | with_reducible assumption
  | ((with_reducible refine' Same.stm ?ee ?gg); (case ee => walk_at "as"); (case gg => walk_at "tr1"))
  | ((with_reducible refine' Same.at ?ee ?gg); (case ee => walk_at "as"); (case gg => walk_at "tr1"))
  | ((with_reducible refine' But.at ?ee ?ff ?gg); (case ee => walk_at "as"); (case ff => walk_at "ne0"); (case gg => walk_at "tr1"))
  | ((with_reducible refine' But.stm ?ee ?ff ?gg); (case ee => walk_at "as"); (case ff => walk_at "ne0"); (case gg => walk_at "tr1")))
local macro_rules | `(tactic| walk_at "ne0") => `(tactic| first
  | with_reducible assumption
  | (with_reducible apply Ne.symm; with_reducible assumption))
local macro_rules | `(tactic| walk_at "ne") => `(tactic| first
  | with_reducible assumption
  | (with_reducible apply Ne.symm; with_reducible assumption)
  | ((with_reducible refine' stm_ne ?hh ?nn); (case nn => walk_at "as"); (case hh => walk_at "tr1"))
  | ((with_reducible refine' ne_of_none ?hh ?nn); (case nn => walk_at "as"); (case hh => walk_at "tr1"))
  | ((with_reducible apply Ne.symm); (with_reducible refine' ne_of_none ?hh ?nn); (case nn => walk_at "as"); (case hh => walk_at "tr1")))
local macro_rules | `(tactic| walk_at "v") => `(tactic| first
  | with_reducible refine w_seq ?_
  | ((with_reducible refine' w_var ?vv ?_); (case vv => exact rfl))
  | with_reducible refine w_c ?_
  | with_reducible refine w_op ?_
  | with_reducible refine w_asg ?_
  | with_reducible refine w_gName ?_
  | with_reducible refine w_ret ?_
  | with_reducible refine w_ifS ?_
  | with_reducible refine w_drop ?_
  | with_reducible refine w_next ?_
  | with_reducible refine w_cons ?_
  | with_reducible refine w_nil ?_
  | with_reducible refine w_call ?_
  | with_reducible refine w_cb ?_
  | with_reducible refine w_rI0 ?_
  | with_reducible refine w_addI ?_
  | with_reducible refine w_eqI ?_
  | with_reducible refine w_neI ?_
  | with_reducible refine w_eqS ?_
  | with_reducible refine w_neS ?_
  | with_reducible refine w_eqB ?_
  | with_reducible refine w_neB ?_
  | with_reducible refine w_chain ?_
  | with_reducible refine w_test ?_
  | with_reducible refine w_tB ?_
  | with_reducible refine w_bl ?_
  | ((with_reducible refine' w_mulI ?vv ?_); (case vv => walk_at "side"))
  | ((with_reducible refine' w_rI ?vv ?_); (case vv => walk_at "side"))
  | with_reducible refine w_int1 ?_
  | with_reducible refine w_int1b ?_
  | with_reducible refine w_tup ?_
  | with_reducible refine w_lst ?_
  | with_reducible refine w_un ?_
  | with_reducible refine w_rU ?_
  | with_reducible refine w_not ?_
  | with_reducible refine w_notV ?_
  | with_reducible refine w_ifE ?_
  | with_reducible refine w_nT ?_
  | with_reducible refine w_nF ?_
  | with_reducible refine iteT ?_
  | with_reducible refine iteF ?_
  | ((with_reducible refine' w_ixT ?vv ?ww ?_); (case vv => walk_at "tr"); (case ww => walk_at "ix"))
  | ((with_reducible refine' w_ixL ?vv ?ww ?_); (case vv => walk_at "tr"); (case ww => walk_at "ix"))
  | with_reducible refine w_gSub ?_
  | ((with_reducible refine' w_setL ?vv ?ww ?_); (case vv => walk_at "tr"); (case ww => first | rfl | decide | assumption))
  | ((with_reducible refine' w_lenL ?vv ?_); (case vv => walk_at "tr"))
  | ((with_reducible refine' w_lenT ?vv ?_); (case vv => walk_at "tr"))
  | with_reducible refine w_max2 ?_
  | with_reducible refine w_max3 ?_
  | with_reducible refine w_din ?_
  | with_reducible refine w_dnotin ?_
  | with_reducible refine w_dput ?_
  | with_reducible refine w_min2 ?_
  | with_reducible refine w_bm ?_
  | with_reducible refine w_bm0 ?_
  | ((with_reducible refine' w_tyL ?vv ?_); (case vv => walk_at "tr"))
  | ((with_reducible refine' w_append ?vv ?ww ?_); (case vv => walk_at "tr"); (case ww => walk_at "size"))
  | ((with_reducible refine' w_size ?vv ?_); (case vv => walk_at "size"))
  | with_reducible refine w_forL ?_
  | with_reducible refine w_forT ?_
  | with_reducible refine w_forR1 ?_
  | with_reducible refine w_forR2 ?_
  | with_reducible refine w_lcL ?_
  | with_reducible refine w_lcT ?_
  | with_reducible refine w_lcR1 ?_
  | with_reducible refine w_yes ?_
  | with_reducible refine w_sl ?_
  | with_reducible refine w_noPart ?_
  | with_reducible refine w_part ?_
  | with_reducible refine w_int ?_
  | ((with_reducible refine' w_slL ?vv ?_); (case vv => walk_at "tr"))
  | ((with_reducible refine' w_seqL ?vv ?ww ?_); (case vv => walk_at "tr"); (case ww => rfl))
  | ((with_reducible refine' w_seqT ?vv ?ww ?_); (case vv => walk_at "tr"); (case ww => rfl))
  | with_reducible refine w_gNil ?_
  | with_reducible refine w_gCons ?_
  | with_reducible refine w_forZ ?_
  | with_reducible refine w_forM ?_
  | with_reducible refine w_forE ?_
  | with_reducible refine w_forV ?_
  | with_reducible refine w_lcZ ?_
  | with_reducible refine w_lcE ?_
  | ((with_reducible refine' w_isi (b := true) ?vv ?ww ?_); (case vv => walk_at "ty"); (case ww => decide +kernel))
  | ((with_reducible refine' w_isi (b := false) ?vv ?ww ?_); (case vv => walk_at "ty"); (case ww => decide +kernel))
  | with_reducible refine w_revL ?_
  | with_reducible refine w_pairN ?_
  | with_reducible refine w_pairC ?_
  | with_reducible refine w_dget ?_
  | with_reducible refine w_met ?_
  | ((with_reducible refine' w_metAt ?vv ?ww ?_); (case vv => walk_at "tr"); (case ww => rfl))
  | with_reducible refine w_mkI ?_
  | with_reducible refine w_fld ?_
  | ((with_reducible refine' w_fldAt ?vv ?cc ?nn ?ww ?_); (case vv => walk_at "tr"); (case cc => walk_at "cls"); (case nn => walk_at "na"); (case ww => rfl))
  | with_reducible refine w_sfld ?_
  | ((with_reducible refine' w_sfldAt ?vv ?cc ?nn ?ll ?ee ?_); (case vv => walk_at "tr"); (case cc => walk_at "cls"); (case nn => walk_at "na"); (case ll => simp); (case ee => rfl))
  | ((with_reducible refine' w_tupL ?vv ?_); (case vv => walk_at "tr"))
  | ((with_reducible refine' w_tupT ?vv ?_); (case vv => walk_at "tr"))
  | ((with_reducible refine' w_listL ?vv ?_); (case vv => walk_at "tr"))
  | ((with_reducible refine' w_listT ?vv ?_); (case vv => walk_at "tr"))
  | with_reducible refine w_tyS ?_
  | with_reducible refine w_lcZM ?_
  | with_reducible refine w_js ?_
  | with_reducible refine w_jsN ?_
  | ((with_reducible refine' w_jsP ?vv ?_); (case vv => walk_at "size"))
  | with_reducible refine w_fmt ?_
  | with_reducible refine w_forRR ?_
  | with_reducible refine w_retN ?_
  | with_reducible refine w_break ?_
  | with_reducible refine w_cont ?_)
local macro_rules | `(tactic| walk_at "w") => `(tactic| first
  | walk_at "v"
  | with_reducible refine w_or ?_
  | with_reducible refine w_and ?_
  | with_reducible refine w_andV ?_
  | with_reducible refine w_orV ?_)
local macro_rules | `(tactic| walk_at "wd") => `(tactic| first
  | walk_at "w"
  | ((with_reducible refine' w_decT ?vv ?_); (case vv => decide +kernel))
  | ((with_reducible refine' w_decF ?vv ?_); (case vv => decide +kernel)))
local macro_rules | `(tactic| walk_at "tz") => `(tactic| (intro S z; (repeat walk_at "w"); exact z))
local macro_rules | `(tactic| walk_at "wf") => `(tactic| first
  | walk_at "wd"
  | ((with_reducible refine' w_decF ?vv ?_); (case vv => with_reducible assumption)))
/-! ### steps: what they read, what they write -/
theorem rn_len : ∀ n : Nat, n ≤ 7 → (rn n).length ≤ 8 := by decide +kernel
theorem log_small {n : Nat} (h : n ≤ 16777215) : (((n : Nat) : Int)).natAbs.log2 < 1920 := by
  rw [Int.natAbs_natCast]
  by_cases z : n = 0
  · rw [z]; decide
  · exact (Nat.log2_lt z).mpr (Nat.lt_of_le_of_lt h (Nat.lt_of_lt_of_le (by decide : 16777215 < 2 ^ 24) (Nat.pow_le_pow_right (by decide) (by decide))))
theorem js_rn : ∀ n : Nat, n ≤ 7 → (Str.empty ++ ("r" : Str)) ++ (toString ((n : Nat) : Int) : Str) = rn n := by decide +kernel
theorem js_r : (Str.empty ++ ("r" : Str)).length ≤ 100 := by decide +kernel
theorem wr_pn (s : Stp) : s.wr.map pn = s.chg.map rn ++ if s.way then [("way" : Str)] else [] := by
  unfold Stp.wr
  rw [List.map_append, List.map_map]
  congr 1
  split <;> rfl
theorem rd_pn (s : Stp) : s.rd.map pn = (s.srcs.filterMap Src.inn?).map rn ++ if s.way then [("way" : Str)] else [] := by
  unfold Stp.rd
  rw [List.map_append, List.map_map]
  congr 1
  split <;> rfl

section
variable {P : Program} {w : World} {K : PySem.W.Frag} {mg : Str → Option Value}
theorem ok_Step_writes [c : Facts K mg] [ct : FactsT w K] {f : Addr} {fd : FuncData} (F : FunD K "writes" "Step.writes" (defArgs s_Step_writes) (defBody s_Step_writes) (defScope s_Step_writes) [] [] f fd) {C : Str} (hC : C ∈ (["Get", "Ask", "Cell", "Two", "Put", "Tell", "Store"] : List Str)) (GU_changed_places : ∀ C ∈ fam_Step, XL.FnA P w K mg (He.ma K (He.ga K C) "changed_places") 1 ["self"] ((spChg K C))) (GU_uses_way : ∀ C ∈ fam_Step, XL.FnA P w K mg (He.ma K (He.ga K C) "uses_way") 1 ["self"] ((spWay K C))) : XL.FnA P w K mg f 2 ["self"] ((spWrs K C)) := by
  refine XL.FnA.mk' F sc_Step_writes (k := 1) (fun vs H Q E h => ?_) (fun _ _ _ _ _ _ us hl => match us, hl with | [_], _ => rfl) (fun base cdv A outer s H vs Q E hr h => ?_)
  · exact len_Step_writes h
  · have nd := sc_Step_writes.nd
    have hu := hu_of hr.r
    have hrU_changed_places : XL.Rm 1 _ := hr.mono (by omega)
    have hrU_uses_way : XL.Rm 1 _ := hr.mono (by omega)
    refine ⟨_, (PSs.nox (pss_cons (ps_setLc (i := 1) (own := [("place", 2)]) rfl nd rfl rfl (sw_true rfl rfl rfl (by decide +kernel)) (pi_list (XL.pe_metU0 GU_changed_places rfl (clU_Step (K := K) (mg := mg)) (meU_Step_changed_places (K := K) (mg := mg)) hrU_changed_places (pv 0))) (blkOk_by (N := N_Step_writes) (sc := defScope s_Step_writes) (by decide +kernel)) (fun _ _ _ _ _ => (pg_name (i := 2) nd rfl (Or.inl rfl))) (fun _ _ _ _ _ => pts_nil) (fun _ _ _ _ _ => (pe_joined (.cons pe_str (.cons (pe_fmt (pv 2)) .nil)))))
      (pss_cons (ps_if (pt_val (XL.pe_metU0 GU_uses_way rfl (clU_Step (K := K) (mg := mg)) (meU_Step_uses_way (K := K) (mg := mg)) hrU_uses_way (pv 0))) (pss_one (ps_expr (pe_bm PySem.F.plainAttrs_list PySem.F.slot_list_append PySem.F.type_list_append mt_append (pv 1) (pa_cons pe_str pa_nil)))) pss_nil)
      (pss_one (ps_ret (pv 1)))))), ?_⟩
    try dsimp only [cxOf, Cx.nox, Cx.wish]
    obtain ⟨p, s, rfl, hs, ok, q⟩ := h
    obtain ⟨dx, as, hp⟩ := hs.at
    have hz : sizeLine = 16777216 := sizeLine_eq
    have cl := chg_len s
    rw [wr_pn] at q
    repeat walk_at "w"
    refine w_metU C hC ?_
    repeat walk_at "w"
    refine w_metAt hp (stp_no (by decide +kernel) s as) ?_
    repeat walk_at "w"
    refine ⟨p, s, rfl, hs, fun q1 H1 f1 s1 n1 => ?_⟩
    refine lc_L (s.chg.map fun n : Nat => V.int (n : Int)) (fun D j ys H' => Same H1 H' ∧ ys = ((s.chg.take j).map rn).map V.str) (SqL.of f1) (fun D H' hD e f => ⟨e, rfl⟩) (fun D hD j ys H' hj hy hp => SqL.of (hp.1 _ _ f1)) (fun D hD j x ys H' hx hll hy hp2 => ?_) (fun D hD ys H2 hll hy hp2 => ?_)
    · obtain ⟨e, rfl⟩ := hp2
      rw [List.getElem?_map] at hx
      obtain ⟨n, hn, rfl⟩ := Option.map_eq_some_iff.mp hx
      have n7 := ok.2.2.1 n (List.mem_of_getElem? hn)
      have nl := rn_len n n7
      repeat walk_at "w"
      refine w_fmtI (log_small (n := n) (by omega)) ?_
      refine w_jsP (by rw [js_rn n n7, hz]; omega) ?_
      rw [js_rn n n7]
      repeat walk_at "w"
      refine lc_end hy hll (by rw [hz, List.length_map, List.length_map, List.length_take]; omega) fun H4 e4 f4 => ⟨But.new e hD e4, ?_⟩
      rw [tk_snoc hn, List.map_append, List.map_append]; rfl
    · obtain ⟨e, rfl⟩ := hp2
      rw [List.length_map, List.take_length] at hy
      have s2 : Same H H2 := s1.trans e
      have nD := s1.free hD
      have hp2 := s2 _ _ hp
      repeat walk_at "w"
      refine w_metU C hC ?_
      repeat walk_at "w"
      refine w_metAt hp2 (stp_no (by decide +kernel) s as) ?_
      repeat walk_at "w"
      refine ⟨p, s, rfl, hs.sm s2, ?_⟩
      cases hw : s.way with
      | true =>
        rw [hw] at q
        repeat walk_at "w"
        refine w_chg fun H3 e3 f3 => ?_
        repeat walk_at "w"
        refine q D H3 ?_ (But.new s2 nD e3) nD
        rw [if_pos rfl, List.map_append]; exact f3
      | false =>
        rw [hw] at q
        repeat walk_at "w"
        refine q D H2 ?_ s2 nD
        rw [if_neg (by decide), List.append_nil]; exact hy
theorem ok_Step_reads [c : Facts K mg] [ct : FactsT w K] {f : Addr} {fd : FuncData} (F : FunD K "reads" "Step.reads" (defArgs s_Step_reads) (defBody s_Step_reads) (defScope s_Step_reads) [] [] f fd) {C : Str} (hC : C ∈ (["Get", "Ask", "Cell", "Two", "Put", "Tell", "Store"] : List Str)) (GU_sources : ∀ C ∈ fam_Step, XL.FnA P w K mg (He.ma K (He.ga K C) "sources") 1 ["self"] ((spSrcs K C))) (GU_uses_way : ∀ C ∈ fam_Step, XL.FnA P w K mg (He.ma K (He.ga K C) "uses_way") 1 ["self"] ((spWay K C))) : XL.FnA P w K mg f 2 ["self"] ((spRds K C)) := by
  refine XL.FnA.mk' F sc_Step_reads (k := 1) (fun vs H Q E h => ?_) (fun _ _ _ _ _ _ us hl => match us, hl with | [_], _ => rfl) (fun base cdv A outer s H vs Q E hr h => ?_)
  · exact len_Step_reads h
  · have nd := sc_Step_reads.nd
    have hu := hu_of hr.r
    have hrU_sources : XL.Rm 1 _ := hr.mono (by omega)
    have hrU_uses_way : XL.Rm 1 _ := hr.mono (by omega)
    refine ⟨_, (PSs.nox (pss_cons (ps_setLc (i := 1) (own := [("source", 2)]) rfl nd rfl rfl (sw_true rfl rfl rfl (by decide +kernel)) (pi_list (XL.pe_metU0 GU_sources rfl (clU_Step (K := K) (mg := mg)) (meU_Step_sources (K := K) (mg := mg)) hrU_sources (pv 0))) (blkOk_by (N := N_Step_reads) (sc := defScope s_Step_reads) (by decide +kernel)) (fun _ _ _ _ _ => (pg_name (i := 2) nd rfl (Or.inl rfl))) (fun _ _ _ _ _ => pts_one (pt_cmpR (op_eqA (K := K) rfl hr.units) (pe_ix (ix_any (K := K) rfl) (pv 2) pe_int (fun _ _ => rfl)) pe_str (nomark _))) (fun _ _ _ _ _ => (pe_joined (.cons pe_str (.cons (pe_fmt (pe_ix (ix_any (K := K) rfl) (pv 2) pe_int (fun _ _ => rfl))) .nil)))))
      (pss_cons (ps_if (pt_val (XL.pe_metU0 GU_uses_way rfl (clU_Step (K := K) (mg := mg)) (meU_Step_uses_way (K := K) (mg := mg)) hrU_uses_way (pv 0))) (pss_one (ps_expr (pe_bm PySem.F.plainAttrs_list PySem.F.slot_list_append PySem.F.type_list_append mt_append (pv 1) (pa_cons pe_str pa_nil)))) pss_nil)
      (pss_one (ps_ret (pe_callB (call_sortX rfl) (by rfl) c.f_sorted boot_sorted (pa_cons (pe_callTy (call_setX (K := K) rfl rfl) (by rfl) c.f_set boot_set (pa_cons (pv 1) pa_nil)) pa_nil))))))), ?_⟩
    try dsimp only [cxOf, Cx.nox, Cx.wish]
    obtain ⟨p, s, rfl, hs, ok, q⟩ := h
    obtain ⟨dx, as, hp⟩ := hs.at
    have hz : sizeLine = 16777216 := sizeLine_eq
    have cl := srcs_len s
    have fl : (s.srcs.filterMap Src.inn?).length ≤ 2 := Nat.le_trans (List.length_filterMap_le _ _) cl
    rw [rd_pn] at q
    repeat walk_at "w"
    refine w_metU C hC ?_
    repeat walk_at "w"
    refine w_metAt hp (stp_no (by decide +kernel) s as) ?_
    repeat walk_at "w"
    refine ⟨p, s, rfl, hs, fun q1 H1 us f1 hus s1 n1 => ?_⟩
    have hul : us.length = s.srcs.length := by rw [dpa_len hus, List.length_map]
    refine lc_L us (fun D j ys H' => Same H1 H' ∧ ys = (((s.srcs.take j).filterMap Src.inn?).map rn).map V.str) (SqL.of f1) (fun D H' hD e f => ⟨e, rfl⟩) (fun D hD j ys H' hj hy hp => SqL.of (hp.1 _ _ f1)) (fun D hD j x ys H' hx hll hy hp2 => ?_) (fun D hD ys H2 hll hy hp2 => ?_)
    · obtain ⟨e, rfl⟩ := hp2
      obtain ⟨d, hd1, hd2⟩ := dpa_at' (dpAll_ts (TS.of e) _ _ (srcs_tup _) hus) hx
      rw [List.getElem?_map] at hd1
      obtain ⟨c, hc, rfl⟩ := Option.map_eq_some_iff.mp hd1
      have okc := ok.1 c (List.mem_of_getElem? hc)
      have hjl : ((s.srcs.take j).filterMap Src.inn?).length ≤ 2 := Nat.le_trans (List.length_filterMap_le _ _) (by rw [List.length_take]; omega)
      obtain ⟨t, u, rfl, ht, hu'⟩ := tp_1 hd2
      cases dp_int hu'
      have fin : ∀ H4 n, c = .inn n → Same H1 H4 → Same H1 H4 ∧ (((s.srcs.take j).filterMap Src.inn?).map rn).map V.str ++ [V.str (rn n)] = (((s.srcs.take (j + 1)).filterMap Src.inn?).map rn).map V.str := fun H4 n ec e4 => ⟨e4, by
        rw [tk_snoc hc, List.filterMap_append, ec, List.map_append, List.map_append]; rfl⟩
      cases c with
      | inn n =>
        have nl := rn_len n okc
        have okn : n ≤ 7 := okc
        repeat walk_at "w"
        rw [decide_eq_true (show (Src.inn n).tag = ("in" : Str) from rfl)]
        repeat walk_at "w"
        refine w_fmtI (log_small (n := n) (by omega)) ?_
        refine w_jsP (by show ((Str.empty ++ ("r" : Str)) ++ (toString ((n : Nat) : Int) : Str)).length ≤ _; rw [js_rn n okn, hz]; omega) ?_
        rw [show (Str.empty ++ ("r" : Str)) ++ (toString (((Src.inn n).n : Nat) : Int) : Str) = rn n from js_rn n okn]
        repeat walk_at "w"
        refine lc_end hy hll (by rw [hz, List.length_map, List.length_map]; omega) fun H4 e4 f4 => ?_
        have := fin H4 n rfl (But.new e hD e4)
        exact this
      | num n =>
        repeat walk_at "w"
        rw [decide_eq_false (show ¬ (Src.num n).tag = ("in" : Str) by show ¬ ("number" : Str) = "in"; decide +kernel)]
        repeat walk_at "w"
        refine lc_skip hy hll ⟨e, ?_⟩
        rw [tk_snoc hc, List.filterMap_append]; simp [Src.inn?]
      | fld n =>
        repeat walk_at "w"
        rw [decide_eq_false (show ¬ (Src.fld n).tag = ("in" : Str) by show ¬ ("field" : Str) = "in"; decide +kernel)]
        repeat walk_at "w"
        refine lc_skip hy hll ⟨e, ?_⟩
        rw [tk_snoc hc, List.filterMap_append]; simp [Src.inn?]
    · obtain ⟨e, rfl⟩ := hp2
      rw [hul, List.take_length] at hy
      have s2 : Same H H2 := s1.trans e
      have nD := s1.free hD
      have hp2 := s2 _ _ hp
      repeat walk_at "w"
      refine w_metU C hC ?_
      repeat walk_at "w"
      refine w_metAt hp2 (stp_no (by decide +kernel) s as) ?_
      repeat walk_at "w"
      refine ⟨p, s, rfl, hs.sm s2, ?_⟩
      have fin : ∀ ts : List Str, ts = (s.srcs.filterMap Src.inn?).map rn ++ (if s.way then [("way" : Str)] else []) → ∀ H3, H3 D = some (.lst (ts.map V.str)) → Same H H3 → ts.length < 64 := fun ts e _ _ _ => by
        rw [e, List.length_append, List.length_map]; split <;> simp <;> omega
      cases hw : s.way with
      | true =>
        rw [hw] at q
        repeat walk_at "w"
        refine w_chg fun H3 e3 f3 => ?_
        have e2 := But.new s2 nD e3
        repeat walk_at "w"
        refine w_setX (ts := (s.srcs.filterMap Src.inn?).map rn ++ [("way" : Str)]) (SqL.of (by rw [List.map_append]; exact f3)) (by rw [List.length_append, List.length_map]; simp; omega) fun a H4 s4 n4 f4 => ?_
        repeat walk_at "w"
        refine w_sortX f4 (by rw [List.length_append, List.length_map]; simp; omega) fun ks k1 k2 k3 k4 => w_new fun z H5 n5 s5 f5 => ?_
        exact q z H5 ks f5 k1 k2 (by rw [if_pos rfl]; exact k3) k4 (e2.trans (s4.trans s5)) (e2.free (s4.free n5))
      | false =>
        rw [hw] at q
        repeat walk_at "w"
        refine w_setX (ts := (s.srcs.filterMap Src.inn?).map rn) (SqL.of hy) (by rw [List.length_map]; omega) fun a H4 s4 n4 f4 => ?_
        repeat walk_at "w"
        refine w_sortX f4 (by rw [List.length_map]; omega) fun ks k1 k2 k3 k4 => w_new fun z H5 n5 s5 f5 => ?_
        exact q z H5 ks f5 k1 k2 (by rw [if_neg (by decide), List.append_nil]; exact k3) k4 (s2.trans (s4.trans s5)) (s2.free (s4.free n5))
end

end J
namespace J
open PySem PySem.Spec PyProof.Rows L2
local macro_rules | `(tactic| walk_at "cls") => `(tactic| first
  | with_reducible exact Facts.cl_Step
  | with_reducible exact Facts.cl_Get
  | with_reducible exact Facts.cl_Ask
  | with_reducible exact Facts.cl_Cell
  | with_reducible exact Facts.cl_Two
  | with_reducible exact Facts.cl_Put
  | with_reducible exact Facts.cl_Tell
  | with_reducible exact Facts.cl_Store)
local macro_rules | `(tactic| walk_at "na") => `(tactic| first
  | with_reducible exact Facts.na_Get_to
  | with_reducible exact Facts.na_Get_sel
  | with_reducible exact Facts.na_Ask_to
  | with_reducible exact Facts.na_Ask_sel
  | with_reducible exact Facts.na_Cell_to
  | with_reducible exact Facts.na_Cell_source
  | with_reducible exact Facts.na_Two_to
  | with_reducible exact Facts.na_Two_op
  | with_reducible exact Facts.na_Two_one
  | with_reducible exact Facts.na_Two_other
  | with_reducible exact Facts.na_Put_sel
  | with_reducible exact Facts.na_Put_source
  | with_reducible exact Facts.na_Tell_sel
  | with_reducible exact Facts.na_Tell_source
  | with_reducible exact Facts.na_Store_at
  | with_reducible exact Facts.na_Store_source)
local macro_rules | `(tactic| walk_at "ty") => `(tactic| first
  | with_reducible exact ty_int
  | with_reducible exact ty_bl
  | with_reducible exact ty_str
  | with_reducible exact ty_non
  | ((with_reducible refine' ty_lst ?vv); (case vv => walk_at "tr"))
  | ((with_reducible refine' ty_sqT ?vv); (case vv => walk_at "tr"))
  | ((with_reducible refine' ty_dic ?vv); (case vv => walk_at "tr")))
local macro_rules | `(tactic| walk_at "ix") => `(tactic| first | exact at0 | exact at1 | exact at2 | assumption)
local macro_rules | `(tactic| walk_at "size") => `(tactic| first
  | assumption
  | (show _ < sizeLine; rw [sizeLine_eq]; (try simp only [List.length_cons, List.length_nil, List.length_append, List.length_map]); omega)
  | (show _ ≤ sizeLine; rw [sizeLine_eq]; (try simp only [List.length_cons, List.length_nil, List.length_append, List.length_map]); omega))
local macro_rules | `(tactic| walk_at "side") => `(tactic| first
  | assumption
  | ((with_reducible refine cdw ?_ ?_) <;> omega)
  | omega
  | (exact ⟨by omega, by omega⟩)
  | (exact Or.inl ⟨by omega, by omega⟩)
  | (exact Or.inr ⟨by omega, by omega⟩)
  | decide
  | (simp only [List.length_cons, List.length_nil, List.length_append, List.length_map]; omega)
  | (show _ ≤ _; decide))
local macro_rules | `(tactic| walk_at "as") => `(tactic| with_reducible assumption)
local macro_rules | `(tactic| walk_at "tr") => `(tactic| first
  | with_reducible assumption
  | with_reducible exact upd_same
  | ((with_reducible refine' SqL.of ?hh); (case hh => walk_at "as"))
  | ((with_reducible refine' SqT.of ?hh); (case hh => walk_at "as"))
  | ((with_reducible refine' Same.stm ?ee ?gg); (case ee => walk_at "as"); (case gg => walk_at "tr"))
  | ((with_reducible refine' Same.sqT ?ee ?gg); (case ee => walk_at "as"); (case gg => walk_at "tr"))
  | ((with_reducible refine' Same.sqL ?ee ?gg); (case ee => walk_at "as"); (case gg => walk_at "tr"))
  | ((with_reducible refine' Same.at ?ee ?gg); (case ee => walk_at "as"); (case gg => walk_at "tr"))
  | ((with_reducible refine' But.stm ?ee ?ff ?gg); (case ee => walk_at "as"); (case ff => walk_at "ne"); (case gg => walk_at "tr"))
  | ((with_reducible refine' But.tup ?ee ?ff ?gg); (case ee => walk_at "as"); (case ff => walk_at "tr1"); (case gg => walk_at "tr"))
  | ((with_reducible refine' But.sqT ?ee ?ff ?gg); (case ee => walk_at "as"); (case ff => walk_at "tr1"); (case gg => walk_at "tr"))
  | ((with_reducible refine' But.tupL ?ee ?ff ?gg); (case ee => walk_at "as"); (case ff => walk_at "tr1"); (case gg => walk_at "tr"))
  | ((with_reducible refine' But.sqTL ?ee ?ff ?gg); (case ee => walk_at "as"); (case ff => walk_at "tr1"); (case gg => walk_at "tr"))
  | ((with_reducible refine' But.sqL ?ee ?ff ?gg); (case ee => walk_at "as"); (case ff => walk_at "ne"); (case gg => walk_at "tr"))
  | ((with_reducible refine' But.at ?ee ?ff ?gg); (case ee => walk_at "as"); (case ff => walk_at "ne"); (case gg => walk_at "tr")))
local macro_rules | `(tactic| walk_at "ts") => `(tactic| first
  | with_reducible assumption
  | with_reducible exact TS.refl _
  | ((with_reducible refine' TS.trans ?gg (TS.of ?ee)); (case ee => walk_at "as"); (case gg => walk_at "ts"))
  | ((with_reducible refine' TS.trans ?gg (TS.butS ?ee ?ff)); (case ee => walk_at "as"); (case ff => walk_at "tr1"); (case gg => walk_at "ts"))
  | ((with_reducible refine' TS.trans ?gg (TS.butL ?ee ?ff)); (case ee => walk_at "as"); (case ff => walk_at "tr1"); (case gg => walk_at "ts"))
  | ((with_reducible refine' TS.trans ?gg (TS.butI ?ee ?ff)); (case ee => walk_at "as"); (case ff => walk_at "tr1"); (case gg => walk_at "ts")))
local macro_rules | `(tactic| walk_at "sm") => `(tactic| first
  | with_reducible assumption
  | with_reducible exact Same.refl _
  | ((with_reducible refine' Same.trans ?gg ?ee); (case ee => walk_at "as"); (case gg => walk_at "sm"))
  | ((with_reducible refine' But.new ?gg ?nn ?ee); (case ee => walk_at "as"); (case nn => walk_at "fr"); (case gg => walk_at "sm")))
local macro_rules | `(tactic| walk_at "fr") => `(tactic| first
  | with_reducible assumption
  | ((with_reducible refine' Same.back ?ee ?nn); (case nn => walk_at "as"); (case ee => walk_at "sm"))
  | ((with_reducible refine' But.back ?ee ?ff ?nn); (case nn => walk_at "as"); (case ff => walk_at "ne0"); (case ee => walk_at "bu")))
local macro_rules | `(tactic| walk_at "bu") => `(tactic| first
  | with_reducible assumption
  | with_reducible exact But.refl _ _
  | ((with_reducible refine' But.trans ?gg ?ee); (case ee => walk_at "as"); (case gg => walk_at "bu"))
  | ((with_reducible refine' But.trans ?gg (But.of ?ee)); (case ee => walk_at "as"); (case gg => walk_at "bu"))
  | ((with_reducible refine' But.new2 ?gg ?nn ?ee); (case ee => walk_at "as"); (case nn => walk_at "frB"); (case gg => walk_at "bu")))
local macro_rules | `(tactic| walk_at "frB") => `(tactic| first
  | with_reducible assumption
  | ((with_reducible refine' Same.back ?ee ?nn); (case nn => walk_at "as"); (case ee => walk_at "sm"))
  | ((with_reducible refine' But.back' ?ee ?ff ?nn); (case nn => walk_at "as"); (case ee => walk_at "bu"); (case ff => walk_at "tr1")))
local macro_rules | `(tactic| walk_at "tr1") => `(tactic| first
  | with_reducible assumption
  | ((with_reducible refine' Same.stm ?ee ?gg); (case ee => walk_at "as"); (case gg => walk_at "tr1"))
  | ((with_reducible refine' Same.at ?ee ?gg); (case ee => walk_at "as"); (case gg => walk_at "tr1"))
  | ((with_reducible refine' But.at ?ee ?ff ?gg); (case ee => walk_at "as"); (case ff => walk_at "ne0"); (case gg => walk_at "tr1"))
  | ((with_reducible refine' But.stm ?ee ?ff ?gg); (case ee => walk_at "as"); (case ff => walk_at "ne0"); (case gg => walk_at "tr1")))
local macro_rules | `(tactic| walk_at "ne0") => `(tactic| first
  | with_reducible assumption
  | (with_reducible apply Ne.symm; with_reducible assumption))
local macro_rules | `(tactic| walk_at "ne") => `(tactic| first
  | with_reducible assumption
  | (with_reducible apply Ne.symm; with_reducible assumption)
  | ((with_reducible refine' stm_ne ?hh ?nn); (case nn => walk_at "as"); (case hh => walk_at "tr1"))
  | ((with_reducible refine' ne_of_none ?hh ?nn); (case nn => walk_at "as"); (case hh => walk_at "tr1"))
  | ((with_reducible apply Ne.symm); (with_reducible refine' ne_of_none ?hh ?nn); (case nn => walk_at "as"); (case hh => walk_at "tr1")))
local macro_rules | `(tactic| walk_at "v") => `(tactic| first
  | with_reducible refine w_seq ?_
  | ((with_reducible refine' w_var ?vv ?_); (case vv => exact rfl))
  | with_reducible refine w_c ?_
  | with_reducible refine w_op ?_
  | with_reducible refine w_asg ?_
  | with_reducible refine w_gName ?_
  | with_reducible refine w_ret ?_
  | with_reducible refine w_ifS ?_
  | with_reducible refine w_drop ?_
  | with_reducible refine w_next ?_
  | with_reducible refine w_cons ?_
  | with_reducible refine w_nil ?_
  | with_reducible refine w_call ?_
  | with_reducible refine w_cb ?_
  | with_reducible refine w_rI0 ?_
  | with_reducible refine w_addI ?_
  | with_reducible refine w_eqI ?_
  | with_reducible refine w_neI ?_
  | with_reducible refine w_eqS ?_
  | with_reducible refine w_neS ?_
  | with_reducible refine w_eqB ?_
  | with_reducible refine w_neB ?_
  | with_reducible refine w_chain ?_
  | with_reducible refine w_test ?_
  | with_reducible refine w_tB ?_
  | with_reducible refine w_bl ?_
  | ((with_reducible refine' w_mulI ?vv ?_); (case vv => walk_at "side"))
  | ((with_reducible refine' w_rI ?vv ?_); (case vv => walk_at "side"))
  | with_reducible refine w_int1 ?_
  | with_reducible refine w_int1b ?_
  | with_reducible refine w_tup ?_
  | with_reducible refine w_lst ?_
  | with_reducible refine w_un ?_
  | with_reducible refine w_rU ?_
  | with_reducible refine w_not ?_
  | with_reducible refine w_notV ?_
  | with_reducible refine w_ifE ?_
  | with_reducible refine w_nT ?_
  | with_reducible refine w_nF ?_
  | with_reducible refine iteT ?_
  | with_reducible refine iteF ?_
  | ((with_reducible refine' w_ixT ?vv ?ww ?_); (case vv => walk_at "tr"); (case ww => walk_at "ix"))
  | ((with_reducible refine' w_ixL ?vv ?ww ?_); (case vv => walk_at "tr"); (case ww => walk_at "ix"))
  | with_reducible refine w_gSub ?_
  | ((with_reducible refine' w_setL ?vv ?ww ?_); (case vv => walk_at "tr"); (case ww => first | rfl | decide | assumption))
  | ((with_reducible refine' w_lenL ?vv ?_); (case vv => walk_at "tr"))
  | ((with_reducible refine' w_lenT ?vv ?_); (case vv => walk_at "tr"))
  | with_reducible refine w_max2 ?_
  | with_reducible refine w_max3 ?_
  | with_reducible refine w_din ?_
  | with_reducible refine w_dnotin ?_
  | with_reducible refine w_dput ?_
  | with_reducible refine w_min2 ?_
  | with_reducible refine w_bm ?_
  | with_reducible refine w_bm0 ?_
  | ((with_reducible refine' w_tyL ?vv ?_); (case vv => walk_at "tr"))
  | ((with_reducible refine' w_append ?vv ?ww ?_); (case vv => walk_at "tr"); (case ww => walk_at "size"))
  | ((with_reducible refine' w_size ?vv ?_); (case vv => walk_at "size"))
  | with_reducible refine w_forL ?_
  | with_reducible refine w_forT ?_
  | with_reducible refine w_forR1 ?_
  | with_reducible refine w_forR2 ?_
  | with_reducible refine w_lcL ?_
  | with_reducible refine w_lcT ?_
  | with_reducible refine w_lcR1 ?_
  | with_reducible refine w_yes ?_
  | with_reducible refine w_sl ?_
  | with_reducible refine w_noPart ?_
  | with_reducible refine w_part ?_
  | with_reducible refine w_int ?_
  | ((with_reducible refine' w_slL ?vv ?_); (case vv => walk_at "tr"))
  | ((with_reducible refine' w_seqL ?vv ?ww ?_); (case vv => walk_at "tr"); (case ww => rfl))
  | ((with_reducible refine' w_seqT ?vv ?ww ?_); (case vv => walk_at "tr"); (case ww => rfl))
  | with_reducible refine w_gNil ?_
  | with_reducible refine w_gCons ?_
  | with_reducible refine w_forZ ?_
  | with_reducible refine w_forM ?_
  | with_reducible refine w_forE ?_
  | with_reducible refine w_forV ?_
  | with_reducible refine w_lcZ ?_
  | with_reducible refine w_lcE ?_
  | ((with_reducible refine' w_isi (b := true) ?vv ?ww ?_); (case vv => walk_at "ty"); (case ww => decide +kernel))
  | ((with_reducible refine' w_isi (b := false) ?vv ?ww ?_); (case vv => walk_at "ty"); (case ww => decide +kernel))
  | with_reducible refine w_revL ?_
  | with_reducible refine w_pairN ?_
  | with_reducible refine w_pairC ?_
  | with_reducible refine w_dget ?_
  | with_reducible refine w_met ?_
  | ((with_reducible refine' w_metAt ?vv ?ww ?_); (case vv => walk_at "tr"); (case ww => rfl))
  | with_reducible refine w_mkI ?_
  | with_reducible refine w_fld ?_
  | ((with_reducible refine' w_fldAt ?vv ?cc ?nn ?ww ?_); (case vv => walk_at "tr"); (case cc => walk_at "cls"); (case nn => walk_at "na"); (case ww => rfl))
  | with_reducible refine w_sfld ?_
  | ((with_reducible refine' w_sfldAt ?vv ?cc ?nn ?ll ?ee ?_); (case vv => walk_at "tr"); (case cc => walk_at "cls"); (case nn => walk_at "na"); (case ll => simp); (case ee => rfl))
  | ((with_reducible refine' w_tupL ?vv ?_); (case vv => walk_at "tr"))
  | ((with_reducible refine' w_tupT ?vv ?_); (case vv => walk_at "tr"))
  | ((with_reducible refine' w_listL ?vv ?_); (case vv => walk_at "tr"))
  | ((with_reducible refine' w_listT ?vv ?_); (case vv => walk_at "tr"))
  | with_reducible refine w_tyS ?_
  | with_reducible refine w_lcZM ?_
  | with_reducible refine w_js ?_
  | with_reducible refine w_jsN ?_
  | ((with_reducible refine' w_jsP ?vv ?_); (case vv => walk_at "size"))
  | with_reducible refine w_fmt ?_
  | with_reducible refine w_forRR ?_
  | with_reducible refine w_retN ?_
  | with_reducible refine w_break ?_
  | with_reducible refine w_cont ?_)
local macro_rules | `(tactic| walk_at "w") => `(tactic| first
  | walk_at "v"
  | with_reducible refine w_or ?_
  | with_reducible refine w_and ?_
  | with_reducible refine w_andV ?_
  | with_reducible refine w_orV ?_)
local macro_rules | `(tactic| walk_at "wd") => `(tactic| first
  | walk_at "w"
  | ((with_reducible refine' w_decT ?vv ?_); (case vv => decide +kernel))
  | ((with_reducible refine' w_decF ?vv ?_); (case vv => decide +kernel)))
local macro_rules | `(tactic| walk_at "tz") => `(tactic| (intro S z; (repeat walk_at "w"); exact z))
local macro_rules | `(tactic| walk_at "wf") => `(tactic| first
  | walk_at "wd"
  | ((with_reducible refine' w_decF ?vv ?_); (case vv => with_reducible assumption)))
/-! ### drawn steps -/
def spSrc (K : PySem.W.Frag) : Sp := fun vs H Q _ => ∃ (s : Addr) (m : Int), vs = [.ref s, .int m] ∧ Stm H s ∧ 0 < m ∧ m ≤ 8 ∧ ∀ v (c : Src) H', Dp K H' v c.d → c.ok → Stm H' s → But s H H' → Q v H'
theorem len_law_source {K : PySem.W.Frag} {vs H Q E} (h : spSrc K vs H Q E) : vs.length = 2 := by obtain ⟨_, _, rfl, _⟩ := h; rfl
def spSel (K : PySem.W.Frag) : Sp := fun vs H Q _ => ∃ (s : Addr), vs = [.ref s] ∧ Stm H s ∧ ∀ v (c : Sel) H', Dp K H' v c.d → c.ok → Stm H' s → But s H H' → Q v H'
theorem len_law_sel {K : PySem.W.Frag} {vs H Q E} (h : spSel K vs H Q E) : vs.length = 1 := by obtain ⟨_, rfl, _⟩ := h; rfl
def spStp (K : PySem.W.Frag) : Sp := fun vs H Q _ => ∃ (s : Addr) (m n : Int), vs = [.ref s, .int m, .int n] ∧ Stm H s ∧ 0 < m ∧ m ≤ 8 ∧ 0 < n ∧ n ≤ 1000 ∧ ∀ v (c : Stp) H', Dp K H' v c.d → c.ok → Stm H' s → But s H H' → Q v H'
theorem len_law_step {K : PySem.W.Frag} {vs H Q E} (h : spStp K vs H Q E) : vs.length = 3 := by obtain ⟨_, _, _, rfl, _⟩ := h; rfl
theorem dp_pr {K : PySem.W.Frag} {H : Hp} {p : Addr} {k : Str} {n : Int} (h : SqT K H p [.str k, .int n]) : Dp K H (.ref p) (.tuple [.str k, .int n]) := .tup h (.cons (.str k) (.cons (.int n) .nil))
theorem nat_of {n : Int} (h : 0 ≤ n) : ∃ m : Nat, n = (m : Int) := ⟨n.toNat, by omega⟩
section
variable {K : PySem.W.Frag} {H : Hp} {Q : VK} {p : Addr} {i a b : Int}
theorem w_ix2 (h : SqL K H p [.int a, .int b]) (h0 : 0 ≤ i) (h1 : i < 2) (k : ∀ m, (m = a ∨ m = b) → Q (.int m) H) : rIx K (.ref p) (.int i) H Q := by
  have c : i = 0 ∨ i = 1 := by omega
  rcases c with rfl | rfl
  · exact w_ixL h at0 (k _ (.inl rfl))
  · exact w_ixL h at1 (k _ (.inr rfl))
theorem w_ixIs {ns : List Int} {xs : List V} (e : xs = ns.map V.int) (h : SqL K H p xs) (h0 : 0 ≤ i) (h1 : i < ns.length) (k : ∀ m, m ∈ ns → Q (.int m) H) : rIx K (.ref p) (.int i) H Q := by
  subst e
  obtain ⟨v, e1, e2, _⟩ := atI_some (xs := ns.map V.int) h0 (by rw [List.length_map]; exact h1)
  obtain ⟨n, hn, rfl⟩ := List.mem_map.mp e2
  exact w_ixL h e1 (k n hn)
theorem w_ixSs {ns : List Str} {xs : List V} (e : xs = ns.map V.str) (h : SqL K H p xs) (h0 : 0 ≤ i) (h1 : i < ns.length) (k : ∀ m, ns[i.toNat]? = some m → Q (.str m) H) : rIx K (.ref p) (.int i) H Q := by
  subst e
  obtain ⟨v, e1, _, e3⟩ := atI_some (xs := ns.map V.str) h0 (by rw [List.length_map]; exact h1)
  rw [List.getElem?_map] at e3
  obtain ⟨n, hn, rfl⟩ := Option.map_eq_some_iff.mp e3
  exact w_ixL h e1 (k n hn)
end
section
variable {P : Program} {w : World} {K : PySem.W.Frag} {mg : Str → Option Value}
theorem ok_law_source [c : Facts K mg] [ct : FactsT w K] (G__law_take : XL.Fn P w K mg "_law_take" 1 ["stream", "many"] (spTake)) : XL.Fn P w K mg "_law_source" 2 ["stream", "many"] ((spSrc K)) := by
  obtain ⟨fd, F⟩ := c.d_law_source
  refine XL.Fn.mk' F c.g_law_source sc_law_source (k := 1) (fun vs H Q E h => ?_) (fun _ _ _ _ _ _ us hl => match us, hl with | [_, _], _ => rfl) (fun base cdv A outer s H vs Q E hr h => ?_)
  · exact len_law_source h
  · have nd := sc_law_source.nd
    have hu := hu_of hr.r
    have hr__law_take : XL.Rm 1 _ := hr.mono (by omega)
    refine ⟨_, (PSs.nox (pss_cons (ps_set (i := 2) nd rfl (Or.inl rfl) (XL.pe_fn G__law_take hr__law_take (by rfl) (pa_cons (pv 0) (pa_cons pe_int pa_nil))))
      (pss_cons (ps_if (pt_cmpR op_lt (pv 2) pe_int (nomark _)) (pss_one (ps_ret (pe_tup (pa_cons pe_str (pa_cons (XL.pe_fn G__law_take hr__law_take (by rfl) (pa_cons (pv 0) (pa_cons (pv 1) pa_nil))) pa_nil))))) pss_nil)
      (pss_cons (ps_if (pt_cmpR (op_eqA (K := K) rfl hr.units) (pv 2) pe_int (nomark _)) (pss_one (ps_ret (pe_tup (pa_cons pe_str (pa_cons (XL.pe_fn G__law_take hr__law_take (by rfl) (pa_cons (pv 0) (pa_cons (pe_ix (ix_any (K := K) rfl) (pe_lst (pa_cons pe_int (pa_cons (pe_op op_shl pe_int pe_int) pa_nil))) (XL.pe_fn G__law_take hr__law_take (by rfl) (pa_cons (pv 0) (pa_cons pe_int pa_nil))) (fun _ _ => rfl)) pa_nil))) pa_nil))))) pss_nil)
      (pss_one (ps_ret (pe_tup (pa_cons pe_str (pa_cons (XL.pe_fn G__law_take hr__law_take (by rfl) (pa_cons (pv 0) (pa_cons pe_int pa_nil))) pa_nil))))))))), ?_⟩
    try dsimp only [cxOf, Cx.nox, Cx.wish]
    obtain ⟨s, m, rfl, hs, m0, m8, q⟩ := h
    repeat walk_at "w"
    refine ⟨s, 5, rfl, hs, by decide, by decide, fun way H1 w0 w1 hs1 e1 => ?_⟩
    repeat walk_at "w"
    refine ite2 (fun hk => ?_) (fun hk => ?_)
    · repeat walk_at "w"
      refine ⟨s, m, rfl, hs1, m0, by omega, fun x H2 x0 x1 hs2 e2 => ?_⟩
      repeat walk_at "w"
      refine w_new fun p3 H3 n3 s3 f3 => ?_
      obtain ⟨x, rfl⟩ := nat_of x0
      exact q _ (.inn x) H3 (dp_pr (SqT.of f3)) (show x ≤ 7 by omega) (s3.stm hs2) (by walk_at "bu")
    · repeat walk_at "w"
      refine ite2 (fun hk => ?_) (fun hk => ?_)
      · repeat walk_at "w"
        refine w_new fun p3 H3 n3 s3 f3 => ?_
        have hs3 : Stm H3 s := s3.stm hs1
        repeat walk_at "w"
        refine ⟨s, 2, rfl, hs3, by decide, by decide, fun z H4 z0 z1 hs4 e4 => ?_⟩
        refine w_ix2 (e4.sqL (stm_ne hs1 n3) (SqL.of f3)) z0 z1 fun mm hm => ?_
        have mb : 0 < mm ∧ mm ≤ 16777216 := by rcases hm with rfl | rfl <;> exact ⟨by decide, by decide⟩
        repeat walk_at "w"
        refine ⟨s, mm, rfl, hs4, mb.1, by omega, fun x H5 x0 x1 hs5 e5 => ?_⟩
        repeat walk_at "w"
        refine w_new fun p6 H6 n6 s6 f6 => ?_
        obtain ⟨x, rfl⟩ := nat_of x0
        exact q _ (.num x) H6 (dp_pr (SqT.of f6)) (show x ≤ 16777215 by omega) (s6.stm hs5) (by walk_at "bu")
      · repeat walk_at "w"
        refine ⟨s, 3, rfl, hs1, by decide, by decide, fun x H2 x0 x1 hs2 e2 => ?_⟩
        repeat walk_at "w"
        refine w_new fun p3 H3 n3 s3 f3 => ?_
        obtain ⟨x, rfl⟩ := nat_of x0
        exact q _ (.fld x) H3 (dp_pr (SqT.of f3)) (show x ≤ 2 by omega) (s3.stm hs2) (by walk_at "bu")
theorem ok_law_sel [c : Facts K mg] [ct : FactsT w K] (G__law_take : XL.Fn P w K mg "_law_take" 1 ["stream", "many"] (spTake)) : XL.Fn P w K mg "_law_sel" 2 ["stream"] ((spSel K)) := by
  obtain ⟨fd, F⟩ := c.d_law_sel
  refine XL.Fn.mk' F c.g_law_sel sc_law_sel (k := 1) (fun vs H Q E h => ?_) (fun _ _ _ _ _ _ us hl => match us, hl with | [_], _ => rfl) (fun base cdv A outer s H vs Q E hr h => ?_)
  · exact len_law_sel h
  · have nd := sc_law_sel.nd
    have hu := hu_of hr.r
    have hr__law_take : XL.Rm 1 _ := hr.mono (by omega)
    refine ⟨_, (PSs.nox (pss_cons (ps_if (pt_cmpR (op_eqA (K := K) rfl hr.units) (XL.pe_fn G__law_take hr__law_take (by rfl) (pa_cons (pv 0) (pa_cons pe_int pa_nil))) pe_int (nomark _)) (pss_one (ps_ret (pe_tup (pa_cons pe_str (pa_cons (XL.pe_fn G__law_take hr__law_take (by rfl) (pa_cons (pv 0) (pa_cons pe_int pa_nil))) pa_nil))))) pss_nil)
      (pss_one (ps_ret (pe_tup (pa_cons pe_str (pa_cons (XL.pe_fn G__law_take hr__law_take (by rfl) (pa_cons (pv 0) (pa_cons pe_int pa_nil))) pa_nil))))))), ?_⟩
    try dsimp only [cxOf, Cx.nox, Cx.wish]
    obtain ⟨s, rfl, hs, q⟩ := h
    repeat walk_at "w"
    refine ⟨s, 2, rfl, hs, by decide, by decide, fun way H1 w0 w1 hs1 e1 => ?_⟩
    repeat walk_at "w"
    refine ite2 (fun hk => ?_) (fun hk => ?_)
    · repeat walk_at "w"
      refine ⟨s, 4, rfl, hs1, by decide, by decide, fun x H2 x0 x1 hs2 e2 => ?_⟩
      repeat walk_at "w"
      refine w_new fun p3 H3 n3 s3 f3 => ?_
      obtain ⟨x, rfl⟩ := nat_of x0
      exact q _ ⟨false, x⟩ H3 (dp_pr (SqT.of f3)) (show x ≤ 3 by omega) (s3.stm hs2) (by walk_at "bu")
    · repeat walk_at "w"
      refine ⟨s, 3, rfl, hs1, by decide, by decide, fun x H2 x0 x1 hs2 e2 => ?_⟩
      repeat walk_at "w"
      refine w_new fun p3 H3 n3 s3 f3 => ?_
      obtain ⟨x, rfl⟩ := nat_of x0
      exact q _ ⟨true, x⟩ H3 (dp_pr (SqT.of f3)) (show x ≤ 2 by omega) (s3.stm hs2) (by walk_at "bu")
theorem stp_ok1 {to : Nat} {l : Sel} (h1 : to ≤ 7) (h2 : l.ok) : (Stp.get to l).ok ∧ (Stp.ask to l).ok := by
  constructor <;> exact ⟨by simp [Stp.srcs], by simpa [Stp.sels] using h2, by simpa [Stp.chg] using h1, fun _ _ _ _ z => by cases z⟩
theorem stp_ok2 {to : Nat} {c : Src} (h1 : to ≤ 7) (h2 : c.ok) : (Stp.cell to c).ok := ⟨by simpa [Stp.srcs] using h2, by simp [Stp.sels], by simpa [Stp.chg] using h1, fun _ _ _ _ z => by cases z⟩
theorem stp_ok3 {to : Nat} {o : Str} {a b : Src} (h1 : to ≤ 7) (ho : o ∈ opsL) (ha : a.ok) (hb : b.ok) : (Stp.two to o a b).ok := ⟨by simp [Stp.srcs]; exact ⟨ha, hb⟩, by simp [Stp.sels], by simpa [Stp.chg] using h1, fun _ _ _ _ z => by cases z; exact ho⟩
theorem stp_ok4 {l : Sel} {c : Src} (h1 : l.ok) (h2 : c.ok) : (Stp.put l c).ok ∧ (Stp.tell l c).ok := by
  constructor <;> exact ⟨by simpa [Stp.srcs] using h2, by simpa [Stp.sels] using h1, by simp [Stp.chg], fun _ _ _ _ z => by cases z⟩
theorem stp_ok5 {a b : Src} (ha : a.ok) (hb : b.ok) : (Stp.store a b).ok := ⟨by simp [Stp.srcs]; exact ⟨ha, hb⟩, by simp [Stp.sels], by simp [Stp.chg], fun _ _ _ _ z => by cases z⟩
theorem ok_law_step [c : Facts K mg] [ct : FactsT w K] (G__law_sel : XL.Fn P w K mg "_law_sel" 2 ["stream"] ((spSel K))) (G__law_source : XL.Fn P w K mg "_law_source" 2 ["stream", "many"] ((spSrc K))) (G__law_take : XL.Fn P w K mg "_law_take" 1 ["stream", "many"] (spTake)) : XL.Fn P w K mg "_law_step" 3 ["stream", "many", "ways"] ((spStp K)) := by
  obtain ⟨fd, F⟩ := c.d_law_step
  refine XL.Fn.mk' F c.g_law_step sc_law_step (k := 2) (fun vs H Q E h => ?_) (fun _ _ _ _ _ _ us hl => match us, hl with | [_, _, _], _ => rfl) (fun base cdv A outer s H vs Q E hr h => ?_)
  · exact len_law_step h
  · have nd := sc_law_step.nd
    have hu := hu_of hr.r
    have hr__law_sel : XL.Rm 2 _ := hr.mono (by omega)
    have hr__law_source : XL.Rm 2 _ := hr.mono (by omega)
    have hr__law_take : XL.Rm 1 _ := hr.mono (by omega)
    refine ⟨_, (PSs.nox (pss_cons (ps_set (i := 3) nd rfl (Or.inl rfl) (XL.pe_fn G__law_take hr__law_take (by rfl) (pa_cons (pv 0) (pa_cons (pv 2) pa_nil))))
      (pss_cons (ps_set (i := 4) nd rfl (Or.inl rfl) (XL.pe_fn G__law_take hr__law_take (by rfl) (pa_cons (pv 0) (pa_cons (pv 1) pa_nil))))
      (pss_cons (ps_if (pt_cmpR op_gt (pv 3) pe_int (nomark _)) (pss_cons (ps_set (i := 5) nd rfl (Or.inl rfl) (pe_ix (ix_any (K := K) rfl) (pe_lst (pa_cons pe_str (pa_cons pe_str (pa_cons pe_str (pa_cons pe_str (pa_cons pe_str (pa_cons pe_str (pa_cons pe_str (pa_cons pe_str (pa_cons pe_str pa_nil)))))))))) (XL.pe_fn G__law_take hr__law_take (by rfl) (pa_cons (pv 0) (pa_cons pe_int pa_nil))) (fun _ _ => rfl)))
      (pss_one (ps_ret (pe_tup (pa_cons pe_str (pa_cons (pv 4) (pa_cons (pv 5) (pa_cons (XL.pe_fn G__law_source hr__law_source (by rfl) (pa_cons (pv 0) (pa_cons (pv 1) pa_nil))) (pa_cons (XL.pe_fn G__law_source hr__law_source (by rfl) (pa_cons (pv 0) (pa_cons (pv 1) pa_nil))) pa_nil))))))))) pss_nil)
      (pss_cons (ps_if (pt_cmpR op_lt (pv 3) pe_int (nomark _)) (pss_one (ps_ret (pe_tup (pa_cons (pe_ix (ix_any (K := K) rfl) (pe_lst (pa_cons pe_str (pa_cons pe_str pa_nil))) (pv 3) (fun _ _ => rfl)) (pa_cons (pv 4) (pa_cons (XL.pe_fn G__law_sel hr__law_sel (by rfl) (pa_cons (pv 0) pa_nil)) pa_nil)))))) pss_nil)
      (pss_cons (ps_if (pt_cmpR (op_eqA (K := K) rfl hr.units) (pv 3) pe_int (nomark _)) (pss_one (ps_ret (pe_tup (pa_cons pe_str (pa_cons (pv 4) (pa_cons (XL.pe_fn G__law_source hr__law_source (by rfl) (pa_cons (pv 0) (pa_cons (pv 1) pa_nil))) pa_nil)))))) pss_nil)
      (pss_cons (ps_if (pt_cmpR (op_eqA (K := K) rfl hr.units) (pv 3) pe_int (nomark _)) (pss_one (ps_ret (pe_tup (pa_cons pe_str (pa_cons (XL.pe_fn G__law_source hr__law_source (by rfl) (pa_cons (pv 0) (pa_cons (pv 1) pa_nil))) (pa_cons (XL.pe_fn G__law_source hr__law_source (by rfl) (pa_cons (pv 0) (pa_cons (pv 1) pa_nil))) pa_nil)))))) pss_nil)
      (pss_one (ps_ret (pe_tup (pa_cons (pe_ix (ix_any (K := K) rfl) (pe_lst (pa_cons pe_str (pa_cons pe_str pa_nil))) (pe_op op_sub (pv 3) pe_int) (fun _ _ => rfl)) (pa_cons (XL.pe_fn G__law_sel hr__law_sel (by rfl) (pa_cons (pv 0) pa_nil)) (pa_cons (XL.pe_fn G__law_source hr__law_source (by rfl) (pa_cons (pv 0) (pa_cons (pv 1) pa_nil))) pa_nil))))))))))))), ?_⟩
    try dsimp only [cxOf, Cx.nox, Cx.wish]
    obtain ⟨s, m, n, rfl, hs, m0, m8, n0, n1, q⟩ := h
    repeat walk_at "w"
    refine ⟨s, n, rfl, hs, n0, by omega, fun way H1 w0 w1 hs1 e1 => ?_⟩
    repeat walk_at "w"
    refine ⟨s, m, rfl, hs1, m0, by omega, fun to H2 t0 t1 hs2 e2 => ?_⟩
    obtain ⟨to, rfl⟩ := nat_of t0
    have to7 : to ≤ 7 := by omega
    repeat walk_at "w"
    refine ite2 (fun hk => ?_) (fun hk => ?_)
    · repeat walk_at "w"
      refine w_new fun p3 H3 n3 s3 f3 => ?_
      have hs3 : Stm H3 s := s3.stm hs2
      repeat walk_at "w"
      refine ⟨s, 9, rfl, hs3, by decide, by decide, fun ow H4 o0 o1 hs4 e4 => ?_⟩
      refine w_ixSs (ns := opsL) rfl (e4.sqL (stm_ne hs2 n3) (SqL.of f3)) o0 o1 fun o ho => ?_
      repeat walk_at "w"
      refine ⟨s, m, rfl, hs4, m0, m8, fun v a H5 ha oa hs5 e5 => ?_⟩
      repeat walk_at "w"
      refine ⟨s, m, rfl, hs5, m0, m8, fun v2 b H6 hb ob hs6 e6 => ?_⟩
      repeat walk_at "w"
      refine w_new fun p7 H7 n7 s7 f7 => ?_
      exact q _ (.two to o a b) H7 (.tup (SqT.of f7) (.cons (.str _) (.cons (.int _) (.cons (.str _) (.cons (dp_ts ((TS.butS e6 hs5).trans (TS.of s7)) _ _ (src_tup a) ha) (.cons (dp_ts (TS.of s7) _ _ (src_tup b) hb) .nil))))))
        (stp_ok3 to7 (List.mem_of_getElem? ho) oa ob) (s7.stm hs6) (by walk_at "bu")
    · repeat walk_at "w"
      refine ite2 (fun hk => ?_) (fun hk => ?_)
      · rw [decide_eq_true_eq] at hk
        repeat walk_at "w"
        refine w_new fun p3 H3 n3 s3 f3 => ?_
        have hs3 : Stm H3 s := s3.stm hs2
        repeat walk_at "w"
        refine w_ixSs (ns := ["get", "ask"]) rfl (SqL.of f3) w0 hk fun o ho => ?_
        repeat walk_at "w"
        refine ⟨s, rfl, hs3, fun v l H4 hl ol hs4 e4 => ?_⟩
        repeat walk_at "w"
        refine w_new fun p7 H7 n7 s7 f7 => ?_
        have c : way = 0 ∨ way = 1 := by omega
        have bu : But s H H7 := by walk_at "bu"
        have dd : Dp K H7 (.ref p7) (.tuple [.str o, .int (to : Nat), l.d]) := .tup (SqT.of f7) (.cons (.str _) (.cons (.int _) (.cons (dp_ts (TS.of s7) _ _ (sel_tup l) hl) .nil)))
        rcases c with rfl | rfl
        · cases Option.some.inj ho
          exact q _ (.get to l) H7 dd (stp_ok1 to7 ol).1 (s7.stm hs4) bu
        · cases Option.some.inj ho
          exact q _ (.ask to l) H7 dd (stp_ok1 to7 ol).2 (s7.stm hs4) bu
      · repeat walk_at "w"
        refine ite2 (fun hk => ?_) (fun hk => ?_)
        · repeat walk_at "w"
          refine ⟨s, m, rfl, hs2, m0, m8, fun v a H5 ha oa hs5 e5 => ?_⟩
          repeat walk_at "w"
          refine w_new fun p7 H7 n7 s7 f7 => ?_
          exact q _ (.cell to a) H7 (.tup (SqT.of f7) (.cons (.str _) (.cons (.int _) (.cons (dp_ts (TS.of s7) _ _ (src_tup a) ha) .nil)))) (stp_ok2 to7 oa) (s7.stm hs5) (by walk_at "bu")
        · repeat walk_at "w"
          refine ite2 (fun hk => ?_) (fun hk => ?_)
          · repeat walk_at "w"
            refine ⟨s, m, rfl, hs2, m0, m8, fun v a H5 ha oa hs5 e5 => ?_⟩
            repeat walk_at "w"
            refine ⟨s, m, rfl, hs5, m0, m8, fun v2 b H6 hb ob hs6 e6 => ?_⟩
            repeat walk_at "w"
            refine w_new fun p7 H7 n7 s7 f7 => ?_
            exact q _ (.store a b) H7 (.tup (SqT.of f7) (.cons (.str _) (.cons (dp_ts ((TS.butS e6 hs5).trans (TS.of s7)) _ _ (src_tup a) ha) (.cons (dp_ts (TS.of s7) _ _ (src_tup b) hb) .nil)))) (stp_ok5 oa ob) (s7.stm hs6) (by walk_at "bu")
          · repeat walk_at "w"
            refine w_new fun p3 H3 n3 s3 f3 => ?_
            have hs3 : Stm H3 s := s3.stm hs2
            have c : way = 4 ∨ way = 5 := by simp only [decide_eq_true_eq] at *; omega
            repeat walk_at "w"
            refine w_ixSs (ns := ["put", "tell"]) rfl (SqL.of f3) (by omega) (by simp; omega) fun o ho => ?_
            repeat walk_at "w"
            refine ⟨s, rfl, hs3, fun v l H4 hl ol hs4 e4 => ?_⟩
            repeat walk_at "w"
            refine ⟨s, m, rfl, hs4, m0, m8, fun v2 b H6 hb ob hs6 e6 => ?_⟩
            repeat walk_at "w"
            refine w_new fun p7 H7 n7 s7 f7 => ?_
            have bu : But s H H7 := by walk_at "bu"
            have dd : Dp K H7 (.ref p7) (.tuple [.str o, l.d, b.d]) := .tup (SqT.of f7) (.cons (.str _) (.cons (dp_ts ((TS.butS e6 hs4).trans (TS.of s7)) _ _ (sel_tup l) hl) (.cons (dp_ts (TS.of s7) _ _ (src_tup b) hb) .nil)))
            rcases c with rfl | rfl
            · cases Option.some.inj ho
              exact q _ (.put l b) H7 dd (stp_ok4 ol ob).1 (s7.stm hs6) bu
            · cases Option.some.inj ho
              exact q _ (.tell l b) H7 dd (stp_ok4 ol ob).2 (s7.stm hs6) bu
end

end J
namespace J
open PySem PySem.Spec PyProof.Rows L2
local macro_rules | `(tactic| walk_at "cls") => `(tactic| first
  | with_reducible exact Facts.cl_Step
  | with_reducible exact Facts.cl_Get
  | with_reducible exact Facts.cl_Ask
  | with_reducible exact Facts.cl_Cell
  | with_reducible exact Facts.cl_Two
  | with_reducible exact Facts.cl_Put
  | with_reducible exact Facts.cl_Tell
  | with_reducible exact Facts.cl_Store)
local macro_rules | `(tactic| walk_at "na") => `(tactic| first
  | with_reducible exact Facts.na_Get_to
  | with_reducible exact Facts.na_Get_sel
  | with_reducible exact Facts.na_Ask_to
  | with_reducible exact Facts.na_Ask_sel
  | with_reducible exact Facts.na_Cell_to
  | with_reducible exact Facts.na_Cell_source
  | with_reducible exact Facts.na_Two_to
  | with_reducible exact Facts.na_Two_op
  | with_reducible exact Facts.na_Two_one
  | with_reducible exact Facts.na_Two_other
  | with_reducible exact Facts.na_Put_sel
  | with_reducible exact Facts.na_Put_source
  | with_reducible exact Facts.na_Tell_sel
  | with_reducible exact Facts.na_Tell_source
  | with_reducible exact Facts.na_Store_at
  | with_reducible exact Facts.na_Store_source)
local macro_rules | `(tactic| walk_at "ty") => `(tactic| first
  | with_reducible exact ty_int
  | with_reducible exact ty_bl
  | with_reducible exact ty_str
  | with_reducible exact ty_non
  | ((with_reducible refine' ty_lst ?vv); (case vv => walk_at "tr"))
  | ((with_reducible refine' ty_sqT ?vv); (case vv => walk_at "tr"))
  | ((with_reducible refine' ty_dic ?vv); (case vv => walk_at "tr")))
local macro_rules | `(tactic| walk_at "ix") => `(tactic| first | exact at0 | exact at1 | exact at2 | assumption)
local macro_rules | `(tactic| walk_at "size") => `(tactic| first
  | assumption
  | (show _ < sizeLine; rw [sizeLine_eq]; (try simp only [List.length_cons, List.length_nil, List.length_append, List.length_map]); omega)
  | (show _ ≤ sizeLine; rw [sizeLine_eq]; (try simp only [List.length_cons, List.length_nil, List.length_append, List.length_map]); omega))
local macro_rules | `(tactic| walk_at "side") => `(tactic| first
  | assumption
  | ((with_reducible refine cdw ?_ ?_) <;> omega)
  | omega
  | (exact ⟨by omega, by omega⟩)
  | (exact Or.inl ⟨by omega, by omega⟩)
  | (exact Or.inr ⟨by omega, by omega⟩)
  | decide
  | (simp only [List.length_cons, List.length_nil, List.length_append, List.length_map]; omega)
  | (show _ ≤ _; decide))
local macro_rules | `(tactic| walk_at "as") => `(tactic| with_reducible assumption)
local macro_rules | `(tactic| walk_at "tr") => `(tactic| first
  | with_reducible assumption
  | with_reducible exact upd_same
  | ((with_reducible refine' SqL.of ?hh); (case hh => walk_at "as"))
  | ((with_reducible refine' SqT.of ?hh); (case hh => walk_at "as"))
  | ((with_reducible refine' Same.stm ?ee ?gg); (case ee => walk_at "as"); (case gg => walk_at "tr"))
  | ((with_reducible refine' Same.sqT ?ee ?gg); (case ee => walk_at "as"); (case gg => walk_at "tr"))
  | ((with_reducible refine' Same.sqL ?ee ?gg); (case ee => walk_at "as"); (case gg => walk_at "tr"))
  | ((with_reducible refine' Same.at ?ee ?gg); (case ee => walk_at "as"); (case gg => walk_at "tr"))
  | ((with_reducible refine' But.stm ?ee ?ff ?gg); (case ee => walk_at "as"); (case ff => walk_at "ne"); (case gg => walk_at "tr"))
  | ((with_reducible refine' But.tup ?ee ?ff ?gg); (case ee => walk_at "as"); (case ff => walk_at "tr1"); (case gg => walk_at "tr"))
  | ((with_reducible refine' But.sqT ?ee ?ff ?gg); (case ee => walk_at "as"); (case ff => walk_at "tr1"); (case gg => walk_at "tr"))
  | ((with_reducible refine' But.tupL ?ee ?ff ?gg); (case ee => walk_at "as"); (case ff => walk_at "tr1"); (case gg => walk_at "tr"))
  | ((with_reducible refine' But.sqTL ?ee ?ff ?gg); (case ee => walk_at "as"); (case ff => walk_at "tr1"); (case gg => walk_at "tr"))
  | ((with_reducible refine' But.sqL ?ee ?ff ?gg); (case ee => walk_at "as"); (case ff => walk_at "ne"); (case gg => walk_at "tr"))
  | ((with_reducible refine' But.at ?ee ?ff ?gg); (case ee => walk_at "as"); (case ff => walk_at "ne"); (case gg => walk_at "tr")))
local macro_rules | `(tactic| walk_at "ts") => `(tactic| first
  | with_reducible assumption
  | with_reducible exact TS.refl _
  | ((with_reducible refine' TS.trans ?gg (TS.of ?ee)); (case ee => walk_at "as"); (case gg => walk_at "ts"))
  | ((with_reducible refine' TS.trans ?gg (TS.butS ?ee ?ff)); (case ee => walk_at "as"); (case ff => walk_at "tr1"); (case gg => walk_at "ts"))
  | ((with_reducible refine' TS.trans ?gg (TS.butL ?ee ?ff)); (case ee => walk_at "as"); (case ff => walk_at "tr1"); (case gg => walk_at "ts"))
  | ((with_reducible refine' TS.trans ?gg (TS.butI ?ee ?ff)); (case ee => walk_at "as"); (case ff => walk_at "tr1"); (case gg => walk_at "ts")))
local macro_rules | `(tactic| walk_at "sm") => `(tactic| first
  | with_reducible assumption
  | with_reducible exact Same.refl _
  | ((with_reducible refine' Same.trans ?gg ?ee); (case ee => walk_at "as"); (case gg => walk_at "sm"))
  | ((with_reducible refine' But.new ?gg ?nn ?ee); (case ee => walk_at "as"); (case nn => walk_at "fr"); (case gg => walk_at "sm")))
local macro_rules | `(tactic| walk_at "fr") => `(tactic| first
  | with_reducible assumption
  | ((with_reducible refine' Same.back ?ee ?nn); (case nn => walk_at "as"); (case ee => walk_at "sm"))
  | ((with_reducible refine' But.back ?ee ?ff ?nn); (case nn => walk_at "as"); (case ff => walk_at "ne0"); (case ee => walk_at "bu")))
local macro_rules | `(tactic| walk_at "bu") => `(tactic| first
  | with_reducible assumption
  | with_reducible exact But.refl _ _
  | ((with_reducible refine' But.trans ?gg ?ee); (case ee => walk_at "as"); (case gg => walk_at "bu"))
  | ((with_reducible refine' But.trans ?gg (But.of ?ee)); (case ee => walk_at "as"); (case gg => walk_at "bu"))
  | ((with_reducible refine' But.new2 ?gg ?nn ?ee); (case ee => walk_at "as"); (case nn => walk_at "frB"); (case gg => walk_at "bu")))
local macro_rules | `(tactic| walk_at "frB") => `(tactic| first
  | with_reducible assumption
  | ((with_reducible refine' Same.back ?ee ?nn); (case nn => walk_at "as"); (case ee => walk_at "sm"))
  | ((with_reducible refine' But.back' ?ee ?ff ?nn); (case nn => walk_at "as"); (case ee => walk_at "bu"); (case ff => walk_at "tr1")))
local macro_rules | `(tactic| walk_at "tr1") => `(tactic| first
  | with_reducible assumption
  | ((with_reducible refine' Same.stm ?ee ?gg); (case ee => walk_at "as"); (case gg => walk_at "tr1"))
  | ((with_reducible refine' Same.at ?ee ?gg); (case ee => walk_at "as"); (case gg => walk_at "tr1"))
  | ((with_reducible refine' But.at ?ee ?ff ?gg); (case ee => walk_at "as"); (case ff => walk_at "ne0"); (case gg => walk_at "tr1"))
  | ((with_reducible refine' But.stm ?ee ?ff ?gg); (case ee => walk_at "as"); (case ff => walk_at "ne0"); (case gg => walk_at "tr1")))
local macro_rules | `(tactic| walk_at "ne0") => `(tactic| first
  | with_reducible assumption
  | (with_reducible apply Ne.symm; with_reducible assumption))
local macro_rules | `(tactic| walk_at "ne") => `(tactic| first
  | with_reducible assumption
  | (with_reducible apply Ne.symm; with_reducible assumption)
  | ((with_reducible refine' stm_ne ?hh ?nn); (case nn => walk_at "as"); (case hh => walk_at "tr1"))
  | ((with_reducible refine' ne_of_none ?hh ?nn); (case nn => walk_at "as"); (case hh => walk_at "tr1"))
  | ((with_reducible apply Ne.symm); (with_reducible refine' ne_of_none ?hh ?nn); (case nn => walk_at "as"); (case hh => walk_at "tr1")))
local macro_rules | `(tactic| walk_at "v") => `(tactic| first
  | with_reducible refine w_seq ?_
  | ((with_reducible refine' w_var ?vv ?_); (case vv => exact rfl))
  | with_reducible refine w_c ?_
  | with_reducible refine w_op ?_
  | with_reducible refine w_asg ?_
  | with_reducible refine w_gName ?_
  | with_reducible refine w_ret ?_
  | with_reducible refine w_ifS ?_
  | with_reducible refine w_drop ?_
  | with_reducible refine w_next ?_
  | with_reducible refine w_cons ?_
  | with_reducible refine w_nil ?_
  | with_reducible refine w_call ?_
  | with_reducible refine w_cb ?_
  | with_reducible refine w_rI0 ?_
  | with_reducible refine w_addI ?_
  | with_reducible refine w_eqI ?_
  | with_reducible refine w_neI ?_
  | with_reducible refine w_eqS ?_
  | with_reducible refine w_neS ?_
  | with_reducible refine w_eqB ?_
  | with_reducible refine w_neB ?_
  | with_reducible refine w_chain ?_
  | with_reducible refine w_test ?_
  | with_reducible refine w_tB ?_
  | with_reducible refine w_bl ?_
  | ((with_reducible refine' w_mulI ?vv ?_); (case vv => walk_at "side"))
  | ((with_reducible refine' w_rI ?vv ?_); (case vv => walk_at "side"))
  | with_reducible refine w_int1 ?_
  | with_reducible refine w_int1b ?_
  | with_reducible refine w_tup ?_
  | with_reducible refine w_lst ?_
  | with_reducible refine w_un ?_
  | with_reducible refine w_rU ?_
  | with_reducible refine w_not ?_
  | with_reducible refine w_notV ?_
  | with_reducible refine w_ifE ?_
  | with_reducible refine w_nT ?_
  | with_reducible refine w_nF ?_
  | with_reducible refine iteT ?_
  | with_reducible refine iteF ?_
  | ((with_reducible refine' w_ixT ?vv ?ww ?_); (case vv => walk_at "tr"); (case ww => walk_at "ix"))
  | ((with_reducible refine' w_ixL ?vv ?ww ?_); (case vv => walk_at "tr"); (case ww => walk_at "ix"))
  | with_reducible refine w_gSub ?_
  | ((with_reducible refine' w_setL ?vv ?ww ?_); (case vv => walk_at "tr"); (case ww => first | rfl | decide | assumption))
  | ((with_reducible refine' w_lenL ?vv ?_); (case vv => walk_at "tr"))
  | ((with_reducible refine' w_lenT ?vv ?_); (case vv => walk_at "tr"))
  | with_reducible refine w_max2 ?_
  | with_reducible refine w_max3 ?_
  | with_reducible refine w_din ?_
  | with_reducible refine w_dnotin ?_
  | with_reducible refine w_dput ?_
  | with_reducible refine w_min2 ?_
  | with_reducible refine w_bm ?_
  | with_reducible refine w_bm0 ?_
  | ((with_reducible refine' w_tyL ?vv ?_); (case vv => walk_at "tr"))
  | ((with_reducible refine' w_append ?vv ?ww ?_); (case vv => walk_at "tr"); (case ww => walk_at "size"))
  | ((with_reducible refine' w_size ?vv ?_); (case vv => walk_at "size"))
  | with_reducible refine w_forL ?_
  | with_reducible refine w_forT ?_
  | with_reducible refine w_forR1 ?_
  | with_reducible refine w_forR2 ?_
  | with_reducible refine w_lcL ?_
  | with_reducible refine w_lcT ?_
  | with_reducible refine w_lcR1 ?_
  | with_reducible refine w_yes ?_
  | with_reducible refine w_sl ?_
  | with_reducible refine w_noPart ?_
  | with_reducible refine w_part ?_
  | with_reducible refine w_int ?_
  | ((with_reducible refine' w_slL ?vv ?_); (case vv => walk_at "tr"))
  | ((with_reducible refine' w_seqL ?vv ?ww ?_); (case vv => walk_at "tr"); (case ww => rfl))
  | ((with_reducible refine' w_seqT ?vv ?ww ?_); (case vv => walk_at "tr"); (case ww => rfl))
  | with_reducible refine w_gNil ?_
  | with_reducible refine w_gCons ?_
  | with_reducible refine w_forZ ?_
  | with_reducible refine w_forM ?_
  | with_reducible refine w_forE ?_
  | with_reducible refine w_forV ?_
  | with_reducible refine w_lcZ ?_
  | with_reducible refine w_lcE ?_
  | ((with_reducible refine' w_isi (b := true) ?vv ?ww ?_); (case vv => walk_at "ty"); (case ww => decide +kernel))
  | ((with_reducible refine' w_isi (b := false) ?vv ?ww ?_); (case vv => walk_at "ty"); (case ww => decide +kernel))
  | with_reducible refine w_revL ?_
  | with_reducible refine w_pairN ?_
  | with_reducible refine w_pairC ?_
  | with_reducible refine w_dget ?_
  | with_reducible refine w_met ?_
  | ((with_reducible refine' w_metAt ?vv ?ww ?_); (case vv => walk_at "tr"); (case ww => rfl))
  | with_reducible refine w_mkI ?_
  | with_reducible refine w_fld ?_
  | ((with_reducible refine' w_fldAt ?vv ?cc ?nn ?ww ?_); (case vv => walk_at "tr"); (case cc => walk_at "cls"); (case nn => walk_at "na"); (case ww => rfl))
  | with_reducible refine w_sfld ?_
  | ((with_reducible refine' w_sfldAt ?vv ?cc ?nn ?ll ?ee ?_); (case vv => walk_at "tr"); (case cc => walk_at "cls"); (case nn => walk_at "na"); (case ll => simp); (case ee => rfl))
  | ((with_reducible refine' w_tupL ?vv ?_); (case vv => walk_at "tr"))
  | ((with_reducible refine' w_tupT ?vv ?_); (case vv => walk_at "tr"))
  | ((with_reducible refine' w_listL ?vv ?_); (case vv => walk_at "tr"))
  | ((with_reducible refine' w_listT ?vv ?_); (case vv => walk_at "tr"))
  | with_reducible refine w_tyS ?_
  | with_reducible refine w_lcZM ?_
  | with_reducible refine w_js ?_
  | with_reducible refine w_jsN ?_
  | ((with_reducible refine' w_jsP ?vv ?_); (case vv => walk_at "size"))
  | with_reducible refine w_fmt ?_
  | with_reducible refine w_forRR ?_
  | with_reducible refine w_retN ?_
  | with_reducible refine w_break ?_
  | with_reducible refine w_cont ?_)
local macro_rules | `(tactic| walk_at "w") => `(tactic| first
  | walk_at "v"
  | with_reducible refine w_or ?_
  | with_reducible refine w_and ?_
  | with_reducible refine w_andV ?_
  | with_reducible refine w_orV ?_)
local macro_rules | `(tactic| walk_at "wd") => `(tactic| first
  | walk_at "w"
  | ((with_reducible refine' w_decT ?vv ?_); (case vv => decide +kernel))
  | ((with_reducible refine' w_decF ?vv ?_); (case vv => decide +kernel)))
local macro_rules | `(tactic| walk_at "tz") => `(tactic| (intro S z; (repeat walk_at "w"); exact z))
local macro_rules | `(tactic| walk_at "wf") => `(tactic| first
  | walk_at "wd"
  | ((with_reducible refine' w_decF ?vv ?_); (case vv => with_reducible assumption)))
/-! ### steps: made, and told -/
def spMkF (C : Addr) (fs : List Str) : Sp := fun vs H Q _ => ∃ p dx as, vs = .ref p :: as ∧ as.length = fs.length ∧ H p = some (.ins C dx []) ∧ ∀ H', H' p = some (.ins C dx (fs.zip as)) → But p H H' → Q .non H'
theorem len_mkF {C : Addr} {fs : List Str} {vs H Q E} (h : spMkF C fs vs H Q E) : vs.length = fs.length + 1 := by obtain ⟨_, _, _, rfl, l, _⟩ := h; rw [List.length_cons, l]
def spToldF (C : Addr) (fs : List Str) (tag : Str) : Sp := fun vs H Q _ => ∃ p dx as, vs = [.ref p] ∧ as.length = fs.length ∧ H p = some (.ins C dx (fs.zip as)) ∧ ∀ q H', H' q = some (.tup (.str tag :: as)) → Same H H' → H q = none → Q (.ref q) H'
theorem len_toldF {C : Addr} {fs : List Str} {tag : Str} {vs H Q E} (h : spToldF C fs tag vs H Q E) : vs.length = 1 := by obtain ⟨_, _, _, rfl, _⟩ := h; rfl
theorem len_Getu_initu {vs H Q E} {C : Addr} (h : spMkF C ["to", "sel"] vs H Q E) : vs.length = 3 := len_mkF h
theorem len_Asku_initu {vs H Q E} {C : Addr} (h : spMkF C ["to", "sel"] vs H Q E) : vs.length = 3 := len_mkF h
theorem len_Cellu_initu {vs H Q E} {C : Addr} (h : spMkF C ["to", "source"] vs H Q E) : vs.length = 3 := len_mkF h
theorem len_Twou_initu {vs H Q E} {C : Addr} (h : spMkF C ["to", "op", "one", "other"] vs H Q E) : vs.length = 5 := len_mkF h
theorem len_Putu_initu {vs H Q E} {C : Addr} (h : spMkF C ["sel", "source"] vs H Q E) : vs.length = 3 := len_mkF h
theorem len_Tellu_initu {vs H Q E} {C : Addr} (h : spMkF C ["sel", "source"] vs H Q E) : vs.length = 3 := len_mkF h
theorem len_Storeu_initu {vs H Q E} {C : Addr} (h : spMkF C ["at", "source"] vs H Q E) : vs.length = 3 := len_mkF h
section
variable {P : Program} {w : World} {K : PySem.W.Frag} {mg : Str → Option Value}
theorem ok_Getu_initu [c : Facts K mg] [ct : FactsT w K] {f : Addr} {fd : FuncData} (F : FunD K "__init__" "Get.__init__" (defArgs s_Getu_initu) (defBody s_Getu_initu) (defScope s_Getu_initu) [] [] f fd) : XL.FnA P w K mg f 1 ["self", "to", "sel"] ((spMkF (He.ga K "Get") ["to", "sel"])) := by
  refine XL.FnA.mk' F sc_Getu_initu (k := 0) (fun vs H Q E h => ?_) (fun _ _ _ _ _ _ us hl => match us, hl with | [_, _, _], _ => rfl) (fun base cdv A outer s H vs Q E hr h => ?_)
  · exact len_Getu_initu h
  · have nd := sc_Getu_initu.nd
    have hu := hu_of hr.r
    refine ⟨_, (PSs.nox (pss_cons (ps_fld (pv 0) (pv 1) rfl)
      (pss_one (ps_fld (pv 0) (pv 2) rfl)))), ?_⟩
    try dsimp only [cxOf, Cx.nox, Cx.wish]
    obtain ⟨p, dx, as, rfl, la, hp, q⟩ := h
    match as, la, q with
    | [a0, a1], _, q =>
      repeat walk_at "w"
      refine w_chg fun H1 e1 f1 => ?_
      have g1 : H1 p = some (.ins (He.ga K "Get") dx [("to", a0)]) := f1
      repeat walk_at "w"
      refine w_chg fun H2 e2 f2 => ?_
      have g2 : H2 p = some (.ins (He.ga K "Get") dx [("to", a0), ("sel", a1)]) := f2
      repeat walk_at "w"
      exact q H2 g2 (e1.trans e2)
theorem ok_Asku_initu [c : Facts K mg] [ct : FactsT w K] {f : Addr} {fd : FuncData} (F : FunD K "__init__" "Ask.__init__" (defArgs s_Asku_initu) (defBody s_Asku_initu) (defScope s_Asku_initu) [] [] f fd) : XL.FnA P w K mg f 1 ["self", "to", "sel"] ((spMkF (He.ga K "Ask") ["to", "sel"])) := by
  refine XL.FnA.mk' F sc_Asku_initu (k := 0) (fun vs H Q E h => ?_) (fun _ _ _ _ _ _ us hl => match us, hl with | [_, _, _], _ => rfl) (fun base cdv A outer s H vs Q E hr h => ?_)
  · exact len_Asku_initu h
  · have nd := sc_Asku_initu.nd
    have hu := hu_of hr.r
    refine ⟨_, (PSs.nox (pss_cons (ps_fld (pv 0) (pv 1) rfl)
      (pss_one (ps_fld (pv 0) (pv 2) rfl)))), ?_⟩
    try dsimp only [cxOf, Cx.nox, Cx.wish]
    obtain ⟨p, dx, as, rfl, la, hp, q⟩ := h
    match as, la, q with
    | [a0, a1], _, q =>
      repeat walk_at "w"
      refine w_chg fun H1 e1 f1 => ?_
      have g1 : H1 p = some (.ins (He.ga K "Ask") dx [("to", a0)]) := f1
      repeat walk_at "w"
      refine w_chg fun H2 e2 f2 => ?_
      have g2 : H2 p = some (.ins (He.ga K "Ask") dx [("to", a0), ("sel", a1)]) := f2
      repeat walk_at "w"
      exact q H2 g2 (e1.trans e2)
theorem ok_Cellu_initu [c : Facts K mg] [ct : FactsT w K] {f : Addr} {fd : FuncData} (F : FunD K "__init__" "Cell.__init__" (defArgs s_Cellu_initu) (defBody s_Cellu_initu) (defScope s_Cellu_initu) [] [] f fd) : XL.FnA P w K mg f 1 ["self", "to", "source"] ((spMkF (He.ga K "Cell") ["to", "source"])) := by
  refine XL.FnA.mk' F sc_Cellu_initu (k := 0) (fun vs H Q E h => ?_) (fun _ _ _ _ _ _ us hl => match us, hl with | [_, _, _], _ => rfl) (fun base cdv A outer s H vs Q E hr h => ?_)
  · exact len_Cellu_initu h
  · have nd := sc_Cellu_initu.nd
    have hu := hu_of hr.r
    refine ⟨_, (PSs.nox (pss_cons (ps_fld (pv 0) (pv 1) rfl)
      (pss_one (ps_fld (pv 0) (pv 2) rfl)))), ?_⟩
    try dsimp only [cxOf, Cx.nox, Cx.wish]
    obtain ⟨p, dx, as, rfl, la, hp, q⟩ := h
    match as, la, q with
    | [a0, a1], _, q =>
      repeat walk_at "w"
      refine w_chg fun H1 e1 f1 => ?_
      have g1 : H1 p = some (.ins (He.ga K "Cell") dx [("to", a0)]) := f1
      repeat walk_at "w"
      refine w_chg fun H2 e2 f2 => ?_
      have g2 : H2 p = some (.ins (He.ga K "Cell") dx [("to", a0), ("source", a1)]) := f2
      repeat walk_at "w"
      exact q H2 g2 (e1.trans e2)
theorem ok_Twou_initu [c : Facts K mg] [ct : FactsT w K] {f : Addr} {fd : FuncData} (F : FunD K "__init__" "Two.__init__" (defArgs s_Twou_initu) (defBody s_Twou_initu) (defScope s_Twou_initu) [] [] f fd) : XL.FnA P w K mg f 1 ["self", "to", "op", "one", "other"] ((spMkF (He.ga K "Two") ["to", "op", "one", "other"])) := by
  refine XL.FnA.mk' F sc_Twou_initu (k := 0) (fun vs H Q E h => ?_) (fun _ _ _ _ _ _ us hl => match us, hl with | [_, _, _, _, _], _ => rfl) (fun base cdv A outer s H vs Q E hr h => ?_)
  · exact len_Twou_initu h
  · have nd := sc_Twou_initu.nd
    have hu := hu_of hr.r
    refine ⟨_, (PSs.nox (pss_cons (ps_fld (pv 0) (pv 1) rfl)
      (pss_cons (ps_fld (pv 0) (pv 2) rfl)
      (pss_cons (ps_fld (pv 0) (pv 3) rfl)
      (pss_one (ps_fld (pv 0) (pv 4) rfl)))))), ?_⟩
    try dsimp only [cxOf, Cx.nox, Cx.wish]
    obtain ⟨p, dx, as, rfl, la, hp, q⟩ := h
    match as, la, q with
    | [a0, a1, a2, a3], _, q =>
      repeat walk_at "w"
      refine w_chg fun H1 e1 f1 => ?_
      have g1 : H1 p = some (.ins (He.ga K "Two") dx [("to", a0)]) := f1
      repeat walk_at "w"
      refine w_chg fun H2 e2 f2 => ?_
      have g2 : H2 p = some (.ins (He.ga K "Two") dx [("to", a0), ("op", a1)]) := f2
      repeat walk_at "w"
      refine w_chg fun H3 e3 f3 => ?_
      have g3 : H3 p = some (.ins (He.ga K "Two") dx [("to", a0), ("op", a1), ("one", a2)]) := f3
      repeat walk_at "w"
      refine w_chg fun H4 e4 f4 => ?_
      have g4 : H4 p = some (.ins (He.ga K "Two") dx [("to", a0), ("op", a1), ("one", a2), ("other", a3)]) := f4
      repeat walk_at "w"
      exact q H4 g4 (((e1.trans e2).trans e3).trans e4)
theorem ok_Putu_initu [c : Facts K mg] [ct : FactsT w K] {f : Addr} {fd : FuncData} (F : FunD K "__init__" "Put.__init__" (defArgs s_Putu_initu) (defBody s_Putu_initu) (defScope s_Putu_initu) [] [] f fd) : XL.FnA P w K mg f 1 ["self", "sel", "source"] ((spMkF (He.ga K "Put") ["sel", "source"])) := by
  refine XL.FnA.mk' F sc_Putu_initu (k := 0) (fun vs H Q E h => ?_) (fun _ _ _ _ _ _ us hl => match us, hl with | [_, _, _], _ => rfl) (fun base cdv A outer s H vs Q E hr h => ?_)
  · exact len_Putu_initu h
  · have nd := sc_Putu_initu.nd
    have hu := hu_of hr.r
    refine ⟨_, (PSs.nox (pss_cons (ps_fld (pv 0) (pv 1) rfl)
      (pss_one (ps_fld (pv 0) (pv 2) rfl)))), ?_⟩
    try dsimp only [cxOf, Cx.nox, Cx.wish]
    obtain ⟨p, dx, as, rfl, la, hp, q⟩ := h
    match as, la, q with
    | [a0, a1], _, q =>
      repeat walk_at "w"
      refine w_chg fun H1 e1 f1 => ?_
      have g1 : H1 p = some (.ins (He.ga K "Put") dx [("sel", a0)]) := f1
      repeat walk_at "w"
      refine w_chg fun H2 e2 f2 => ?_
      have g2 : H2 p = some (.ins (He.ga K "Put") dx [("sel", a0), ("source", a1)]) := f2
      repeat walk_at "w"
      exact q H2 g2 (e1.trans e2)
theorem ok_Tellu_initu [c : Facts K mg] [ct : FactsT w K] {f : Addr} {fd : FuncData} (F : FunD K "__init__" "Tell.__init__" (defArgs s_Tellu_initu) (defBody s_Tellu_initu) (defScope s_Tellu_initu) [] [] f fd) : XL.FnA P w K mg f 1 ["self", "sel", "source"] ((spMkF (He.ga K "Tell") ["sel", "source"])) := by
  refine XL.FnA.mk' F sc_Tellu_initu (k := 0) (fun vs H Q E h => ?_) (fun _ _ _ _ _ _ us hl => match us, hl with | [_, _, _], _ => rfl) (fun base cdv A outer s H vs Q E hr h => ?_)
  · exact len_Tellu_initu h
  · have nd := sc_Tellu_initu.nd
    have hu := hu_of hr.r
    refine ⟨_, (PSs.nox (pss_cons (ps_fld (pv 0) (pv 1) rfl)
      (pss_one (ps_fld (pv 0) (pv 2) rfl)))), ?_⟩
    try dsimp only [cxOf, Cx.nox, Cx.wish]
    obtain ⟨p, dx, as, rfl, la, hp, q⟩ := h
    match as, la, q with
    | [a0, a1], _, q =>
      repeat walk_at "w"
      refine w_chg fun H1 e1 f1 => ?_
      have g1 : H1 p = some (.ins (He.ga K "Tell") dx [("sel", a0)]) := f1
      repeat walk_at "w"
      refine w_chg fun H2 e2 f2 => ?_
      have g2 : H2 p = some (.ins (He.ga K "Tell") dx [("sel", a0), ("source", a1)]) := f2
      repeat walk_at "w"
      exact q H2 g2 (e1.trans e2)
theorem ok_Storeu_initu [c : Facts K mg] [ct : FactsT w K] {f : Addr} {fd : FuncData} (F : FunD K "__init__" "Store.__init__" (defArgs s_Storeu_initu) (defBody s_Storeu_initu) (defScope s_Storeu_initu) [] [] f fd) : XL.FnA P w K mg f 1 ["self", "at", "source"] ((spMkF (He.ga K "Store") ["at", "source"])) := by
  refine XL.FnA.mk' F sc_Storeu_initu (k := 0) (fun vs H Q E h => ?_) (fun _ _ _ _ _ _ us hl => match us, hl with | [_, _, _], _ => rfl) (fun base cdv A outer s H vs Q E hr h => ?_)
  · exact len_Storeu_initu h
  · have nd := sc_Storeu_initu.nd
    have hu := hu_of hr.r
    refine ⟨_, (PSs.nox (pss_cons (ps_fld (pv 0) (pv 1) rfl)
      (pss_one (ps_fld (pv 0) (pv 2) rfl)))), ?_⟩
    try dsimp only [cxOf, Cx.nox, Cx.wish]
    obtain ⟨p, dx, as, rfl, la, hp, q⟩ := h
    match as, la, q with
    | [a0, a1], _, q =>
      repeat walk_at "w"
      refine w_chg fun H1 e1 f1 => ?_
      have g1 : H1 p = some (.ins (He.ga K "Store") dx [("at", a0)]) := f1
      repeat walk_at "w"
      refine w_chg fun H2 e2 f2 => ?_
      have g2 : H2 p = some (.ins (He.ga K "Store") dx [("at", a0), ("source", a1)]) := f2
      repeat walk_at "w"
      exact q H2 g2 (e1.trans e2)
end

end J
namespace J
open PySem PySem.Spec PyProof.Rows L2
local macro_rules | `(tactic| walk_at "cls") => `(tactic| first
  | with_reducible exact Facts.cl_Step
  | with_reducible exact Facts.cl_Get
  | with_reducible exact Facts.cl_Ask
  | with_reducible exact Facts.cl_Cell
  | with_reducible exact Facts.cl_Two
  | with_reducible exact Facts.cl_Put
  | with_reducible exact Facts.cl_Tell
  | with_reducible exact Facts.cl_Store)
local macro_rules | `(tactic| walk_at "na") => `(tactic| first
  | with_reducible exact Facts.na_Get_to
  | with_reducible exact Facts.na_Get_sel
  | with_reducible exact Facts.na_Ask_to
  | with_reducible exact Facts.na_Ask_sel
  | with_reducible exact Facts.na_Cell_to
  | with_reducible exact Facts.na_Cell_source
  | with_reducible exact Facts.na_Two_to
  | with_reducible exact Facts.na_Two_op
  | with_reducible exact Facts.na_Two_one
  | with_reducible exact Facts.na_Two_other
  | with_reducible exact Facts.na_Put_sel
  | with_reducible exact Facts.na_Put_source
  | with_reducible exact Facts.na_Tell_sel
  | with_reducible exact Facts.na_Tell_source
  | with_reducible exact Facts.na_Store_at
  | with_reducible exact Facts.na_Store_source)
local macro_rules | `(tactic| walk_at "ty") => `(tactic| first
  | with_reducible exact ty_int
  | with_reducible exact ty_bl
  | with_reducible exact ty_str
  | with_reducible exact ty_non
  | ((with_reducible refine' ty_lst ?vv); (case vv => walk_at "tr"))
  | ((with_reducible refine' ty_sqT ?vv); (case vv => walk_at "tr"))
  | ((with_reducible refine' ty_dic ?vv); (case vv => walk_at "tr")))
local macro_rules | `(tactic| walk_at "ix") => `(tactic| first | exact at0 | exact at1 | exact at2 | assumption)
local macro_rules | `(tactic| walk_at "size") => `(tactic| first
  | assumption
  | (show _ < sizeLine; rw [sizeLine_eq]; (try simp only [List.length_cons, List.length_nil, List.length_append, List.length_map]); omega)
  | (show _ ≤ sizeLine; rw [sizeLine_eq]; (try simp only [List.length_cons, List.length_nil, List.length_append, List.length_map]); omega))
local macro_rules | `(tactic| walk_at "side") => `(tactic| first
  | assumption
  | ((with_reducible refine cdw ?_ ?_) <;> omega)
  | omega
  | (exact ⟨by omega, by omega⟩)
  | (exact Or.inl ⟨by omega, by omega⟩)
  | (exact Or.inr ⟨by omega, by omega⟩)
  | decide
  | (simp only [List.length_cons, List.length_nil, List.length_append, List.length_map]; omega)
  | (show _ ≤ _; decide))
local macro_rules | `(tactic| walk_at "as") => `(tactic| with_reducible assumption)
local macro_rules | `(tactic| walk_at "tr") => `(tactic| first
  | with_reducible assumption
  | with_reducible exact upd_same
  | ((with_reducible refine' SqL.of ?hh); (case hh => walk_at "as"))
  | ((with_reducible refine' SqT.of ?hh); (case hh => walk_at "as"))
  | ((with_reducible refine' Same.stm ?ee ?gg); (case ee => walk_at "as"); (case gg => walk_at "tr"))
  | ((with_reducible refine' Same.sqT ?ee ?gg); (case ee => walk_at "as"); (case gg => walk_at "tr"))
  | ((with_reducible refine' Same.sqL ?ee ?gg); (case ee => walk_at "as"); (case gg => walk_at "tr"))
  | ((with_reducible refine' Same.at ?ee ?gg); (case ee => walk_at "as"); (case gg => walk_at "tr"))
  | ((with_reducible refine' But.stm ?ee ?ff ?gg); (case ee => walk_at "as"); (case ff => walk_at "ne"); (case gg => walk_at "tr"))
  | ((with_reducible refine' But.tup ?ee ?ff ?gg); (case ee => walk_at "as"); (case ff => walk_at "tr1"); (case gg => walk_at "tr"))
  | ((with_reducible refine' But.sqT ?ee ?ff ?gg); (case ee => walk_at "as"); (case ff => walk_at "tr1"); (case gg => walk_at "tr"))
  | ((with_reducible refine' But.tupL ?ee ?ff ?gg); (case ee => walk_at "as"); (case ff => walk_at "tr1"); (case gg => walk_at "tr"))
  | ((with_reducible refine' But.sqTL ?ee ?ff ?gg); (case ee => walk_at "as"); (case ff => walk_at "tr1"); (case gg => walk_at "tr"))
  | ((with_reducible refine' But.sqL ?ee ?ff ?gg); (case ee => walk_at "as"); (case ff => walk_at "ne"); (case gg => walk_at "tr"))
  | ((with_reducible refine' But.at ?ee ?ff ?gg); (case ee => walk_at "as"); (case ff => walk_at "ne"); (case gg => walk_at "tr")))
local macro_rules | `(tactic| walk_at "ts") => `(tactic| first
  | with_reducible assumption
  | with_reducible exact TS.refl _
  | ((with_reducible refine' TS.trans ?gg (TS.of ?ee)); (case ee => walk_at "as"); (case gg => walk_at "ts"))
  | ((with_reducible refine' TS.trans ?gg (TS.butS ?ee ?ff)); (case ee => walk_at "as"); (case ff => walk_at "tr1"); (case gg => walk_at "ts"))
  | ((with_reducible refine' TS.trans ?gg (TS.butL ?ee ?ff)); (case ee => walk_at "as"); (case ff => walk_at "tr1"); (case gg => walk_at "ts"))
  | ((with_reducible refine' TS.trans ?gg (TS.butI ?ee ?ff)); (case ee => walk_at "as"); (case ff => walk_at "tr1"); (case gg => walk_at "ts")))
local macro_rules | `(tactic| walk_at "sm") => `(tactic| first
  | with_reducible assumption
  | with_reducible exact Same.refl _
  | ((with_reducible refine' Same.trans ?gg ?ee); (case ee => walk_at "as"); (case gg => walk_at "sm"))
  | ((with_reducible refine' But.new ?gg ?nn ?ee); (case ee => walk_at "as"); (case nn => walk_at "fr"); (case gg => walk_at "sm")))
local macro_rules | `(tactic| walk_at "fr") => `(tactic| first
  | with_reducible assumption
  | ((with_reducible refine' Same.back ?ee ?nn); (case nn => walk_at "as"); (case ee => walk_at "sm"))
  | ((with_reducible refine' But.back ?ee ?ff ?nn); (case nn => walk_at "as"); (case ff => walk_at "ne0"); (case ee => walk_at "bu")))
local macro_rules | `(tactic| walk_at "bu") => `(tactic| first
  | with_reducible assumption
  | with_reducible exact But.refl _ _
  | ((with_reducible refine' But.trans ?gg ?ee); (case ee => walk_at "as"); (case gg => walk_at "bu"))
  | ((with_reducible refine' But.trans ?gg (But.of ?ee)); (case ee => walk_at "as"); (case gg => walk_at "bu"))
  | ((with_reducible refine' But.new2 ?gg ?nn ?ee); (case ee => walk_at "as"); (case nn => walk_at "frB"); (case gg => walk_at "bu")))
local macro_rules | `(tactic| walk_at "frB") => `(tactic| first
  | with_reducible assumption
  | ((with_reducible refine' Same.back ?ee ?nn); (case nn => walk_at "as"); (case ee => walk_at "sm"))
  | ((with_reducible refine' But.back' ?ee ?ff ?nn); (case nn => walk_at "as"); (case ee => walk_at "bu"); (case ff => walk_at "tr1")))
local macro_rules | `(tactic| walk_at "tr1") => `(tactic| first
  | with_reducible assumption
  | ((with_reducible refine' Same.stm ?ee ?gg); (case ee => walk_at "as"); (case gg => walk_at "tr1"))
  | ((with_reducible refine' Same.at ?ee ?gg); (case ee => walk_at "as"); (case gg => walk_at "tr1"))
  | ((with_reducible refine' But.at ?ee ?ff ?gg); (case ee => walk_at "as"); (case ff => walk_at "ne0"); (case gg => walk_at "tr1"))
  | ((with_reducible refine' But.stm ?ee ?ff ?gg); (case ee => walk_at "as"); (case ff => walk_at "ne0"); (case gg => walk_at "tr1")))
local macro_rules | `(tactic| walk_at "ne0") => `(tactic| first
  | with_reducible assumption
  | (with_reducible apply Ne.symm; with_reducible assumption))
local macro_rules | `(tactic| walk_at "ne") => `(tactic| first
  | with_reducible assumption
  | (with_reducible apply Ne.symm; with_reducible assumption)
  | ((with_reducible refine' stm_ne ?hh ?nn); (case nn => walk_at "as"); (case hh => walk_at "tr1"))
  | ((with_reducible refine' ne_of_none ?hh ?nn); (case nn => walk_at "as"); (case hh => walk_at "tr1"))
  | ((with_reducible apply Ne.symm); (with_reducible refine' ne_of_none ?hh ?nn); (case nn => walk_at "as"); (case hh => walk_at "tr1")))
local macro_rules | `(tactic| walk_at "v") => `(tactic| first
  | with_reducible refine w_seq ?_
  | ((with_reducible refine' w_var ?vv ?_); (case vv => exact rfl))
  | with_reducible refine w_c ?_
  | with_reducible refine w_op ?_
  | with_reducible refine w_asg ?_
  | with_reducible refine w_gName ?_
  | with_reducible refine w_ret ?_
  | with_reducible refine w_ifS ?_
  | with_reducible refine w_drop ?_
  | with_reducible refine w_next ?_
  | with_reducible refine w_cons ?_
  | with_reducible refine w_nil ?_
  | with_reducible refine w_call ?_
  | with_reducible refine w_cb ?_
  | with_reducible refine w_rI0 ?_
  | with_reducible refine w_addI ?_
  | with_reducible refine w_eqI ?_
  | with_reducible refine w_neI ?_
  | with_reducible refine w_eqS ?_
  | with_reducible refine w_neS ?_
  | with_reducible refine w_eqB ?_
  | with_reducible refine w_neB ?_
  | with_reducible refine w_chain ?_
  | with_reducible refine w_test ?_
  | with_reducible refine w_tB ?_
  | with_reducible refine w_bl ?_
  | ((with_reducible refine' w_mulI ?vv ?_); (case vv => walk_at "side"))
  | ((with_reducible refine' w_rI ?vv ?_); (case vv => walk_at "side"))
  | with_reducible refine w_int1 ?_
  | with_reducible refine w_int1b ?_
  | with_reducible refine w_tup ?_
  | with_reducible refine w_lst ?_
  | with_reducible refine w_un ?_
  | with_reducible refine w_rU ?_
  | with_reducible refine w_not ?_
  | with_reducible refine w_notV ?_
  | with_reducible refine w_ifE ?_
  | with_reducible refine w_nT ?_
  | with_reducible refine w_nF ?_
  | with_reducible refine iteT ?_
  | with_reducible refine iteF ?_
  | ((with_reducible refine' w_ixT ?vv ?ww ?_); (case vv => walk_at "tr"); (case ww => walk_at "ix"))
  | ((with_reducible refine' w_ixL ?vv ?ww ?_); (case vv => walk_at "tr"); (case ww => walk_at "ix"))
  | with_reducible refine w_gSub ?_
  | ((with_reducible refine' w_setL ?vv ?ww ?_); (case vv => walk_at "tr"); (case ww => first | rfl | decide | assumption))
  | ((with_reducible refine' w_lenL ?vv ?_); (case vv => walk_at "tr"))
  | ((with_reducible refine' w_lenT ?vv ?_); (case vv => walk_at "tr"))
  | with_reducible refine w_max2 ?_
  | with_reducible refine w_max3 ?_
  | with_reducible refine w_din ?_
  | with_reducible refine w_dnotin ?_
  | with_reducible refine w_dput ?_
  | with_reducible refine w_min2 ?_
  | with_reducible refine w_bm ?_
  | with_reducible refine w_bm0 ?_
  | ((with_reducible refine' w_tyL ?vv ?_); (case vv => walk_at "tr"))
  | ((with_reducible refine' w_append ?vv ?ww ?_); (case vv => walk_at "tr"); (case ww => walk_at "size"))
  | ((with_reducible refine' w_size ?vv ?_); (case vv => walk_at "size"))
  | with_reducible refine w_forL ?_
  | with_reducible refine w_forT ?_
  | with_reducible refine w_forR1 ?_
  | with_reducible refine w_forR2 ?_
  | with_reducible refine w_lcL ?_
  | with_reducible refine w_lcT ?_
  | with_reducible refine w_lcR1 ?_
  | with_reducible refine w_yes ?_
  | with_reducible refine w_sl ?_
  | with_reducible refine w_noPart ?_
  | with_reducible refine w_part ?_
  | with_reducible refine w_int ?_
  | ((with_reducible refine' w_slL ?vv ?_); (case vv => walk_at "tr"))
  | ((with_reducible refine' w_seqL ?vv ?ww ?_); (case vv => walk_at "tr"); (case ww => rfl))
  | ((with_reducible refine' w_seqT ?vv ?ww ?_); (case vv => walk_at "tr"); (case ww => rfl))
  | with_reducible refine w_gNil ?_
  | with_reducible refine w_gCons ?_
  | with_reducible refine w_forZ ?_
  | with_reducible refine w_forM ?_
  | with_reducible refine w_forE ?_
  | with_reducible refine w_forV ?_
  | with_reducible refine w_lcZ ?_
  | with_reducible refine w_lcE ?_
  | ((with_reducible refine' w_isi (b := true) ?vv ?ww ?_); (case vv => walk_at "ty"); (case ww => decide +kernel))
  | ((with_reducible refine' w_isi (b := false) ?vv ?ww ?_); (case vv => walk_at "ty"); (case ww => decide +kernel))
  | with_reducible refine w_revL ?_
  | with_reducible refine w_pairN ?_
  | with_reducible refine w_pairC ?_
  | with_reducible refine w_dget ?_
  | with_reducible refine w_met ?_
  | ((with_reducible refine' w_metAt ?vv ?ww ?_); (case vv => walk_at "tr"); (case ww => rfl))
  | with_reducible refine w_mkI ?_
  | with_reducible refine w_fld ?_
  | ((with_reducible refine' w_fldAt ?vv ?cc ?nn ?ww ?_); (case vv => walk_at "tr"); (case cc => walk_at "cls"); (case nn => walk_at "na"); (case ww => rfl))
  | with_reducible refine w_sfld ?_
  | ((with_reducible refine' w_sfldAt ?vv ?cc ?nn ?ll ?ee ?_); (case vv => walk_at "tr"); (case cc => walk_at "cls"); (case nn => walk_at "na"); (case ll => simp); (case ee => rfl))
  | ((with_reducible refine' w_tupL ?vv ?_); (case vv => walk_at "tr"))
  | ((with_reducible refine' w_tupT ?vv ?_); (case vv => walk_at "tr"))
  | ((with_reducible refine' w_listL ?vv ?_); (case vv => walk_at "tr"))
  | ((with_reducible refine' w_listT ?vv ?_); (case vv => walk_at "tr"))
  | with_reducible refine w_tyS ?_
  | with_reducible refine w_lcZM ?_
  | with_reducible refine w_js ?_
  | with_reducible refine w_jsN ?_
  | ((with_reducible refine' w_jsP ?vv ?_); (case vv => walk_at "size"))
  | with_reducible refine w_fmt ?_
  | with_reducible refine w_forRR ?_
  | with_reducible refine w_retN ?_
  | with_reducible refine w_break ?_
  | with_reducible refine w_cont ?_)
local macro_rules | `(tactic| walk_at "w") => `(tactic| first
  | walk_at "v"
  | with_reducible refine w_or ?_
  | with_reducible refine w_and ?_
  | with_reducible refine w_andV ?_
  | with_reducible refine w_orV ?_)
local macro_rules | `(tactic| walk_at "wd") => `(tactic| first
  | walk_at "w"
  | ((with_reducible refine' w_decT ?vv ?_); (case vv => decide +kernel))
  | ((with_reducible refine' w_decF ?vv ?_); (case vv => decide +kernel)))
local macro_rules | `(tactic| walk_at "tz") => `(tactic| (intro S z; (repeat walk_at "w"); exact z))
local macro_rules | `(tactic| walk_at "wf") => `(tactic| first
  | walk_at "wd"
  | ((with_reducible refine' w_decF ?vv ?_); (case vv => with_reducible assumption)))
/-! ### steps: checked and made -/
def spWhN : Sp := fun vs H Q _ => ∃ n : Int, vs = [.int n] ∧ Q (.bl true) H
theorem len_is_whole {vs H Q E} (h : spWhN vs H Q E) : vs.length = 1 := by obtain ⟨_, rfl, _⟩ := h; rfl
def spWiN : Sp := fun vs H Q _ => ∃ n a b : Int, vs = [.int n, .int a, .int b] ∧ a ≤ n ∧ n ≤ b ∧ Q (.bl true) H
theorem len_is_within {vs H Q E} (h : spWiN vs H Q E) : vs.length = 3 := by obtain ⟨_, _, _, rfl, _⟩ := h; rfl
def spOps : Sp := fun vs H Q _ => vs = [] ∧ ∀ p H', H' p = some (.lst (opsL.map V.str)) → Same H H' → H p = none → Q (.ref p) H'
theorem len_ops_told {vs H Q E} (h : spOps vs H Q E) : vs.length = 0 := by obtain ⟨rfl, _⟩ := h; rfl
def spPair (K : PySem.W.Frag) : Sp := fun vs H Q _ => ∃ (v : V) (wq mq : Addr) (s : Str) (n m : Int) (ws : List Str) (ms : List Int) (i : Nat), vs = [v, .ref wq, .ref mq] ∧ Dp K H v (.tuple [.str s, .int n]) ∧ SqL K H wq (ws.map V.str) ∧ SqL K H mq (ms.map V.int) ∧
  ws[i]? = some s ∧ (∀ j, j < i → ws[j]? ≠ some s) ∧ ws.length ≤ 3 ∧ ms[i]? = some m ∧ 0 ≤ n ∧ n ≤ m ∧ Q (.bl true) H
theorem len_is_pair {K : PySem.W.Frag} {vs H Q E} (h : spPair K vs H Q E) : vs.length = 3 := by obtain ⟨_, _, _, _, _, _, _, _, _, rfl, _⟩ := h; rfl
inductive PartOk : Str → PyData → Prop
  | inner (n : Nat) (h : n ≤ 7) : PartOk "inner" (.int (n : Nat))
  | sel (l : Sel) (h : l.ok) : PartOk "sel" l.d
  | source (c : Src) (h : c.ok) : PartOk "source" c.d
  | op (o : Str) (h : o ∈ opsL) : PartOk "op" (.str o)
def spPartK (K : PySem.W.Frag) : Sp := fun vs H Q _ => ∃ (s : Str) (v : V) (d : PyData), vs = [.str s, v] ∧ Dp K H v d ∧ PartOk s d ∧ ∀ H', Same H H' → Q (.bl true) H'
theorem len_is_part {K : PySem.W.Frag} {vs H Q E} (h : spPartK K vs H Q E) : vs.length = 2 := by obtain ⟨_, _, _, rfl, _⟩ := h; rfl
def spStepK (K : PySem.W.Frag) : Sp := fun vs H Q _ => ∃ (v : V) (c : Stp), vs = [v] ∧ Dp K H v c.d ∧ c.ok ∧ ∀ H', Same H H' → Q (.bl true) H'
theorem len_is_step {K : PySem.W.Frag} {vs H Q E} (h : spStepK K vs H Q E) : vs.length = 1 := by obtain ⟨_, _, rfl, _⟩ := h; rfl
def spStepOf (K : PySem.W.Frag) : Sp := fun vs H Q _ => ∃ (v : V) (c : Stp), vs = [v] ∧ Dp K H v c.d ∧ c.ok ∧ ∀ p H', StepAt K H' p c.cls c → Same H H' → H p = none → Q (.ref p) H'
theorem len_step_of {K : PySem.W.Frag} {vs H Q E} (h : spStepOf K vs H Q E) : vs.length = 1 := by obtain ⟨_, _, rfl, _⟩ := h; rfl
theorem inV_strs (s : Str) : ∀ ws : List Str, inV (.str s) (ws.map V.str) = decide (s ∈ ws)
  | [] => rfl
  | w :: ws => by
    show ((w == s) || inV (.str s) (ws.map V.str)) = _
    rw [inV_strs s ws, Bool.eq_iff_iff, Bool.or_eq_true, beq_iff_eq, decide_eq_true_eq, decide_eq_true_eq, List.mem_cons]
    exact or_congr eq_comm Iff.rfl
theorem opsOk : (opsL.all PyData.strOk) = true := by decide +kernel
theorem w_indexT {K : PySem.W.Frag} {H : Hp} {Q : VK} {a : Addr} {ns : List Str} {k : Str} {j : Nat} (h : SqL K H a (ns.map V.str)) (e : ns[j]? = some k) (no : ∀ m, m < j → ns[m]? ≠ some k) (q : Q (.int (j : Nat)) H) : rIndex K (.ref a) [.str k] H Q := by
  refine ⟨a, ns.map V.str, .str k, j, .str k, rfl, rfl, h, rfl, by rw [List.all_eq_true]; intro x hx; obtain ⟨_, _, rfl⟩ := List.mem_map.mp hx; rfl, by rw [List.getElem?_map, e]; rfl, by simp [eqV], fun m z hm hz => ?_, q⟩
  rw [List.getElem?_map] at hz
  obtain ⟨y, h2, rfl⟩ := Option.map_eq_some_iff.mp hz
  have : y ≠ k := fun z => no m hm (by rw [h2, z])
  simp [eqV, this]
theorem src_cln (c : Src) : clean c.d = true ∧ c.d.depth ≤ 1 := by
  cases c <;> refine ⟨?_, by simp [Src.d, PyData.depth, PyData.depthAll]⟩ <;> simp only [Src.d, Src.tag, clean, cleanAll] <;> decide +kernel
theorem sel_cln (c : Sel) : clean c.d = true ∧ c.d.depth ≤ 1 := by
  obtain ⟨b, n⟩ := c
  cases b <;> refine ⟨?_, by simp [Sel.d, PyData.depth, PyData.depthAll]⟩ <;> simp only [Sel.d, Sel.tag, clean, cleanAll, if_true, if_false, Bool.false_eq_true] <;> decide +kernel
theorem op_cln {o : Str} (h : o ∈ opsL) : PyData.strOk o = true := List.all_eq_true.mp opsOk o h
theorem depthAll_le {k : Nat} : ∀ {ds : List PyData}, (∀ d ∈ ds, d.depth ≤ k) → PyData.depthAll ds ≤ k
  | [], _ => by simp [PyData.depthAll]
  | d :: ds, h => by
    rw [PyData.depthAll]
    have := h d List.mem_cons_self
    have := depthAll_le (ds := ds) fun x hx => h x (List.mem_cons_of_mem _ hx)
    omega
theorem stp_cmp {c : Stp} (h : c.ok) : Cmp c.d := by
  have tg : PyData.strOk c.tag = true := by cases c <;> (simp only [Stp.tag]; decide +kernel)
  have h4 := h.2.2.2
  constructor
  · unfold Stp.d
    rw [clean, cleanAll, clean, tg, Bool.true_and]
    cases c <;> simp only [Stp.args, cleanAll, (src_cln _).1, (sel_cln _).1, Bool.and_true, Bool.true_and] <;> simp only [clean, Bool.true_and, Bool.and_true]
    exact op_cln (h4 _ _ _ _ rfl)
  · unfold Stp.d
    rw [PyData.depth, PyData.depthAll]
    have := depthAll_le (ds := c.args) (k := 1) fun d hd => by
      have g1 := fun a => (src_cln a).2
      have g2 := fun a => (sel_cln a).2
      have g3 : ∀ n : Int, (PyData.int n).depth ≤ 1 := fun n => by simp [PyData.depth]
      have g4 : ∀ n : Str, (PyData.str n).depth ≤ 1 := fun n => by simp [PyData.depth]
      cases c <;> simp only [Stp.args, List.mem_cons, List.not_mem_nil, or_false] at hd <;> (try rcases hd with rfl | rfl | rfl | rfl) <;> (try rcases hd with rfl | rfl) <;> first | exact g1 _ | exact g2 _ | exact g3 _ | exact g4 _
    have e : (PyData.str c.tag).depth ≤ 1 := by simp [PyData.depth]
    omega
theorem sorts_len (c : Stp) : c.sorts.length = c.args.length := by cases c <;> rfl
theorem args_len (c : Stp) : c.args.length ≤ 4 := by cases c <;> simp [Stp.args]
theorem parts_okK {c : Stp} (h : c.ok) : ∀ (j : Nat) (s : Str) (d : PyData), c.sorts[j]? = some s → c.args[j]? = some d → PartOk s d := by
  obtain ⟨h1, h2, h3, h4⟩ := h
  intro j s d hs hd
  have hj : j < 4 := by
    have := (List.getElem?_eq_some_iff.mp hd).1
    have := args_len c
    omega
  cases c <;> (match j, hj with
    | 0, _ | 1, _ | 2, _ | 3, _ =>
      simp only [Stp.sorts, Stp.args, List.getElem?_cons_zero, List.getElem?_cons_succ, List.getElem?_nil, Option.some.injEq, reduceCtorEq] at hs hd
      try (subst hs hd
           first
           | exact .inner _ (h3 _ (by simp [Stp.chg]))
           | exact .sel _ (h2 _ (by simp [Stp.sels]))
           | exact .source _ (h1 _ (by simp [Stp.srcs]))
           | exact .op _ (h4 _ _ _ _ rfl)))
theorem parts_at {K : PySem.W.Frag} {mg : Str → Option Value} [Facts K mg] (c : Stp) : ∃ a, PySem.W.nsIn K (He.ga K "PARTS") c.tag = some (some (.ref a)) ∧ ∀ H, SqT K H a (c.sorts.map V.str) := by
  cases c
  · exact Facts.kv_PARTS_get (mg := mg)
  · exact Facts.kv_PARTS_ask (mg := mg)
  · exact Facts.kv_PARTS_cell (mg := mg)
  · exact Facts.kv_PARTS_two (mg := mg)
  · exact Facts.kv_PARTS_put (mg := mg)
  · exact Facts.kv_PARTS_tell (mg := mg)
  · exact Facts.kv_PARTS_store (mg := mg)
section
variable {P : Program} {w : World} {K : PySem.W.Frag} {mg : Str → Option Value}
theorem ok_is_whole [c : Facts K mg] [ct : FactsT w K] : XL.Fn P w K mg "is_whole" 1 ["thing"] (spWhN) := by
  obtain ⟨fd, F⟩ := c.d_is_whole
  refine XL.Fn.mk' F c.g_is_whole sc_is_whole (k := 0) (fun vs H Q E h => ?_) (fun _ _ _ _ _ _ us hl => match us, hl with | [_], _ => rfl) (fun base cdv A outer s H vs Q E hr h => ?_)
  · exact len_is_whole h
  · have nd := sc_is_whole.nd
    have hu := hu_of hr.r
    refine ⟨_, (PSs.nox (pss_one (ps_ret (pe_and (pe_callB (call_isiA (K := K) rfl) (by rfl) c.f_isinstance boot_isinstance (pa_cons (pv 0) (pa_cons (pe_bltn (v := .ty "int") (by rfl) c.f_int boot_int rfl) pa_nil))) (pe_one (pe_not (pe_callB (call_isiA (K := K) rfl) (by rfl) c.f_isinstance boot_isinstance (pa_cons (pv 0) (pa_cons (pe_bltn (v := .ty "bool") (by rfl) c.f_bool boot_bool rfl) pa_nil))))))))), ?_⟩
    try dsimp only [cxOf, Cx.nox, Cx.wish]
    obtain ⟨n, rfl, q⟩ := h
    repeat walk_at "w"
    exact q
theorem ok_is_within [c : Facts K mg] [ct : FactsT w K] (G_is_whole : XL.Fn P w K mg "is_whole" 1 ["thing"] (spWhN)) : XL.Fn P w K mg "is_within" 2 ["thing", "low", "high"] (spWiN) := by
  obtain ⟨fd, F⟩ := c.d_is_within
  refine XL.Fn.mk' F c.g_is_within sc_is_within (k := 1) (fun vs H Q E h => ?_) (fun _ _ _ _ _ _ us hl => match us, hl with | [_, _, _], _ => rfl) (fun base cdv A outer s H vs Q E hr h => ?_)
  · exact len_is_within h
  · have nd := sc_is_within.nd
    have hu := hu_of hr.r
    have hr_is_whole : XL.Rm 1 _ := hr.mono (by omega)
    refine ⟨_, (PSs.nox (pss_one (ps_ret (pe_and (XL.pe_fn G_is_whole hr_is_whole (by rfl) (pa_cons (pv 0) pa_nil)) (pe_one (pe_chain op_le op_le (pv 1) (pv 0) (pv 2))))))), ?_⟩
    try dsimp only [cxOf, Cx.nox, Cx.wish]
    obtain ⟨n, a, b, rfl, h1, h2, q⟩ := h
    repeat walk_at "w"
    refine ⟨n, rfl, ?_⟩
    repeat walk_at "w"
    rw [decide_eq_true h1]
    repeat walk_at "w"
    rw [decide_eq_true h2]
    exact q
theorem ok_ops_told [c : Facts K mg] [ct : FactsT w K] : XL.Fn P w K mg "ops_told" 1 [] (spOps) := by
  obtain ⟨fd, F⟩ := c.d_ops_told
  refine XL.Fn.mk' F c.g_ops_told sc_ops_told (k := 0) (fun vs H Q E h => ?_) (fun _ _ _ _ _ _ us hl => match us, hl with | [], _ => rfl) (fun base cdv A outer s H vs Q E hr h => ?_)
  · exact len_ops_told h
  · have nd := sc_ops_told.nd
    have hu := hu_of hr.r
    refine ⟨_, (PSs.nox (pss_one (ps_ret (pe_bm PySem.F.plainAttrs_str PySem.F.slot_str_split PySem.F.type_str_split mt_splitA (pe_gS (by rfl) c.g_OPS) (pa_cons pe_str pa_nil))))), ?_⟩
    try dsimp only [cxOf, Cx.nox, Cx.wish]
    obtain ⟨rfl, q⟩ := h
    repeat walk_at "w"
    refine w_split (ys := opsL) (by decide +kernel) (by decide +kernel) (by decide +kernel) ?_
    exact w_new fun p H1 n1 s1 f1 => q p H1 f1 s1 n1
theorem ok_is_pair [c : Facts K mg] [ct : FactsT w K] (G_is_within : XL.Fn P w K mg "is_within" 2 ["thing", "low", "high"] (spWiN)) : XL.Fn P w K mg "is_pair" 3 ["thing", "words", "mosts"] ((spPair K)) := by
  obtain ⟨fd, F⟩ := c.d_is_pair
  refine XL.Fn.mk' F c.g_is_pair sc_is_pair (k := 2) (fun vs H Q E h => ?_) (fun _ _ _ _ _ _ us hl => match us, hl with | [_, _, _], _ => rfl) (fun base cdv A outer s H vs Q E hr h => ?_)
  · exact len_is_pair h
  · have nd := sc_is_pair.nd
    have hu := hu_of hr.r
    have hr_is_within : XL.Rm 2 _ := hr.mono (by omega)
    refine ⟨_, (PSs.nox (pss_cons (ps_if (PW.pt (pw_or (pt_not (pt_val (pe_callB (call_isiA (K := K) rfl) (by rfl) c.f_isinstance boot_isinstance (pa_cons (pv 0) (pa_cons (pe_bltn (v := .ty "tuple") (by rfl) c.f_tuple boot_tuple rfl) pa_nil))))) (pw_or (pt_cmpR (op_neA (K := K) rfl hr.units) (pe_callB (call_lenA (K := K) rfl) (by rfl) c.f_len boot_len (pa_cons (pv 0) pa_nil)) pe_int (nomark _)) (pw_or1 (pt_not (pt_val (pe_callB (call_isiA (K := K) rfl) (by rfl) c.f_isinstance boot_isinstance (pa_cons (pe_ix (ix_any (K := K) rfl) (pv 0) pe_int (fun _ _ => rfl)) (pa_cons (pe_bltn (v := .ty "str") (by rfl) c.f_str boot_str rfl) pa_nil))))))))) (pss_one (ps_ret pe_bl)) pss_nil)
      (pss_one (ps_ret (pe_and (pe_cmpR (op_inA (K := K) rfl) (pe_ix (ix_any (K := K) rfl) (pv 0) pe_int (fun _ _ => rfl)) (pv 1) (by rfl)) (pe_one (XL.pe_fn G_is_within hr_is_within (by rfl) (pa_cons (pe_ix (ix_any (K := K) rfl) (pv 0) pe_int (fun _ _ => rfl)) (pa_cons pe_int (pa_cons (pe_ix (ix_any (K := K) rfl) (pv 2) (pe_bm PySem.F.plainAttrs_list PySem.F.slot_list_index PySem.F.type_list_index (mt_indexA (K := K) rfl) (pv 1) (pa_cons (pe_ix (ix_any (K := K) rfl) (pv 0) pe_int (fun _ _ => rfl)) pa_nil)) (fun _ _ => rfl)) pa_nil)))))))))), ?_⟩
    try dsimp only [cxOf, Cx.nox, Cx.wish]
    obtain ⟨v, wq, mq, s, n, m, ws, ms, i, rfl, hv, hw, hm, e1, no, wl, e2, n0, nm, q⟩ := h
    obtain ⟨t, u, rfl, ht, hu'⟩ := tp_1 hv
    cases dp_int hu'
    repeat walk_at "w"
    rw [decide_eq_true (show ((([V.str s, V.int n].length : Nat) : Int) = 2) by rfl)]
    repeat walk_at "w"
    refine w_inL hw rfl (flat_strs ws) ?_
    rw [inV_strs, decide_eq_true (List.mem_of_getElem? e1)]
    repeat walk_at "w"
    refine w_indexT hw e1 no ?_
    repeat walk_at "w"
    refine w_ixL hm (atI_of (by omega) (by rw [Int.toNat_natCast, List.getElem?_map, e2]; rfl)) ?_
    repeat walk_at "w"
    exact ⟨n, 0, m, rfl, n0, nm, q⟩
theorem ok_is_part [c : Facts K mg] [ct : FactsT w K] (G_is_pair : XL.Fn P w K mg "is_pair" 3 ["thing", "words", "mosts"] ((spPair K))) (G_is_within : XL.Fn P w K mg "is_within" 2 ["thing", "low", "high"] (spWiN)) (G_ops_told : XL.Fn P w K mg "ops_told" 1 [] (spOps)) : XL.Fn P w K mg "is_part" 4 ["sort", "thing"] ((spPartK K)) := by
  obtain ⟨fd, F⟩ := c.d_is_part
  refine XL.Fn.mk' F c.g_is_part sc_is_part (k := 3) (fun vs H Q E h => ?_) (fun _ _ _ _ _ _ us hl => match us, hl with | [_, _], _ => rfl) (fun base cdv A outer s H vs Q E hr h => ?_)
  · exact len_is_part h
  · have nd := sc_is_part.nd
    have hu := hu_of hr.r
    have hr_is_pair : XL.Rm 3 _ := hr.mono (by omega)
    have hr_is_within : XL.Rm 2 _ := hr.mono (by omega)
    have hr_ops_told : XL.Rm 1 _ := hr.mono (by omega)
    refine ⟨_, (PSs.nox (pss_cons (ps_if (pt_cmpR (op_eqA (K := K) rfl hr.units) (pv 0) pe_str (nomark _)) (pss_one (ps_ret (XL.pe_fn G_is_within hr_is_within (by rfl) (pa_cons (pv 1) (pa_cons pe_int (pa_cons (pe_gI (by rfl) c.g_INNER_MOST) pa_nil)))))) pss_nil)
      (pss_cons (ps_if (pt_cmpR (op_eqA (K := K) rfl hr.units) (pv 0) pe_str (nomark _)) (pss_one (ps_ret (XL.pe_fn G_is_pair hr_is_pair (by rfl) (pa_cons (pv 1) (pa_cons (pe_lst (pa_cons pe_str (pa_cons pe_str pa_nil))) (pa_cons (pe_lst (pa_cons (pe_gI (by rfl) c.g_SEL_MOST) (pa_cons (pe_gI (by rfl) c.g_FIELD_MOST) pa_nil))) pa_nil)))))) pss_nil)
      (pss_cons (ps_if (pt_cmpR (op_eqA (K := K) rfl hr.units) (pv 0) pe_str (nomark _)) (pss_one (ps_ret (XL.pe_fn G_is_pair hr_is_pair (by rfl) (pa_cons (pv 1) (pa_cons (pe_lst (pa_cons pe_str (pa_cons pe_str (pa_cons pe_str pa_nil)))) (pa_cons (pe_lst (pa_cons (pe_gI (by rfl) c.g_INNER_MOST) (pa_cons (pe_gI (by rfl) c.g_WORD_MOST) (pa_cons (pe_gI (by rfl) c.g_FIELD_MOST) pa_nil)))) pa_nil)))))) pss_nil)
      (pss_one (ps_ret (pe_and (pe_callB (call_isiA (K := K) rfl) (by rfl) c.f_isinstance boot_isinstance (pa_cons (pv 1) (pa_cons (pe_bltn (v := .ty "str") (by rfl) c.f_str boot_str rfl) pa_nil))) (pe_one (pe_cmpR (op_inA (K := K) rfl) (pv 1) (XL.pe_fn0 G_ops_told hr_ops_told (by rfl)) (by rfl)))))))))), ?_⟩
    try dsimp only [cxOf, Cx.nox, Cx.wish]
    obtain ⟨s, v, d, rfl, hv, ok, q⟩ := h
    cases ok with
    | inner n hn =>
      cases dp_int hv
      repeat walk_at "w"
      rw [decide_eq_true (show ("inner" : Str) = "inner" from rfl)]
      repeat walk_at "w"
      exact ⟨(n : Int), 0, 7, rfl, by omega, by omega, q H (Same.refl _)⟩
    | sel l hl =>
      repeat walk_at "wd"
      refine w_new fun p1 H1 n1 s1 f1 => ?_
      repeat walk_at "w"
      refine w_new fun p2 H2 n2 s2 f2 => ?_
      have s12 := s1.trans s2
      have hv2 := dp_ts (TS.of s12) _ _ (sel_tup l) hv
      obtain ⟨b, n⟩ := l
      cases b with
      | false => exact ⟨v, p1, p2, "is", n, 3, ["is", "by"], [3, 2], 0, rfl, hv2, SqL.of (s2 _ _ f1), SqL.of f2, rfl, fun j hj => by omega, by decide, rfl, by omega, by have : n ≤ 3 := hl; omega, q H2 s12⟩
      | true => exact ⟨v, p1, p2, "by", n, 2, ["is", "by"], [3, 2], 1, rfl, hv2, SqL.of (s2 _ _ f1), SqL.of f2, rfl, fun j hj => by rw [show j = 0 by omega]; decide +kernel, by decide, rfl, by omega, by have : n ≤ 2 := hl; omega, q H2 s12⟩
    | source c hc =>
      repeat walk_at "wd"
      refine w_new fun p1 H1 n1 s1 f1 => ?_
      repeat walk_at "w"
      refine w_new fun p2 H2 n2 s2 f2 => ?_
      have s12 := s1.trans s2
      have hv2 := dp_ts (TS.of s12) _ _ (src_tup c) hv
      cases c with
      | inn n => exact ⟨v, p1, p2, "in", n, 7, ["in", "number", "field"], [7, 16777215, 2], 0, rfl, hv2, SqL.of (s2 _ _ f1), SqL.of f2, rfl, fun j hj => by omega, by decide, rfl, by omega, by have : n ≤ 7 := hc; omega, q H2 s12⟩
      | num n => exact ⟨v, p1, p2, "number", n, 16777215, ["in", "number", "field"], [7, 16777215, 2], 1, rfl, hv2, SqL.of (s2 _ _ f1), SqL.of f2, rfl, fun j hj => by rw [show j = 0 by omega]; decide +kernel, by decide, rfl, by omega, by have : n ≤ 16777215 := hc; omega, q H2 s12⟩
      | fld n => exact ⟨v, p1, p2, "field", n, 2, ["in", "number", "field"], [7, 16777215, 2], 2, rfl, hv2, SqL.of (s2 _ _ f1), SqL.of f2, rfl, fun j hj => by
          have c : j = 0 ∨ j = 1 := by omega
          rcases c with rfl | rfl <;> decide +kernel, by decide, rfl, by omega, by have : n ≤ 2 := hc; omega, q H2 s12⟩
    | op o ho =>
      cases dp_str hv
      repeat walk_at "wd"
      refine ⟨rfl, fun p1 H1 f1 s1 n1 => ?_⟩
      repeat walk_at "w"
      refine w_inL (SqL.of f1) rfl (flat_strs _) ?_
      rw [inV_strs, decide_eq_true ho]
      exact q H1 s1
theorem ok_is_step [c : Facts K mg] [ct : FactsT w K] (G_is_part : XL.Fn P w K mg "is_part" 4 ["sort", "thing"] ((spPartK K))) : XL.Fn P w K mg "is_step" 5 ["thing"] ((spStepK K)) := by
  obtain ⟨fd, F⟩ := c.d_is_step
  refine XL.Fn.mk' F c.g_is_step sc_is_step (k := 4) (fun vs H Q E h => ?_) (fun _ _ _ _ _ _ us hl => match us, hl with | [_], _ => rfl) (fun base cdv A outer s H vs Q E hr h => ?_)
  · exact len_is_step h
  · have nd := sc_is_step.nd
    have hu := hu_of hr.r
    have hr_is_part : XL.Rm 4 _ := hr.mono (by omega)
    obtain ⟨_, _, D_PARTS⟩ := ct.kd_PARTS
    refine ⟨_, (PSs.nox (pss_cons (ps_if (PW.pt (pw_or (pt_not (pt_val (pe_callB (call_isiA (K := K) rfl) (by rfl) c.f_isinstance boot_isinstance (pa_cons (pv 0) (pa_cons (pe_bltn (v := .ty "tuple") (by rfl) c.f_tuple boot_tuple rfl) pa_nil))))) (pw_or (pt_cmpR (op_eqA (K := K) rfl hr.units) (pv 0) (pe_tup pa_nil) (nomark _)) (pw_or (pt_not (pt_val (pe_callB (call_isiA (K := K) rfl) (by rfl) c.f_isinstance boot_isinstance (pa_cons (pe_ix (ix_any (K := K) rfl) (pv 0) pe_int (fun _ _ => rfl)) (pa_cons (pe_bltn (v := .ty "str") (by rfl) c.f_str boot_str rfl) pa_nil))))) (pw_or1 (pt_cmpR (op_ninD D_PARTS) (pe_ix (ix_any (K := K) rfl) (pv 0) pe_int (fun _ _ => rfl)) (pe_glob (v := .ref (He.ga K "PARTS")) (by rfl) c.g_PARTS rfl) (by rfl))))))) (pss_one (ps_ret pe_bl)) pss_nil)
      (pss_cons (ps_set (i := 1) nd rfl (Or.inl rfl) (pe_ix (ix_kd D_PARTS) (pe_glob (v := .ref (He.ga K "PARTS")) (by rfl) c.g_PARTS rfl) (pe_ix (ix_any (K := K) rfl) (pv 0) pe_int (fun _ _ => rfl)) (fun _ _ => rfl)))
      (pss_cons (ps_if (pt_cmpR (op_neA (K := K) rfl hr.units) (pe_callB (call_lenA (K := K) rfl) (by rfl) c.f_len boot_len (pa_cons (pv 0) pa_nil)) (pe_op (op_addA (K := K) rfl) pe_int (pe_callB (call_lenA (K := K) rfl) (by rfl) c.f_len boot_len (pa_cons (pv 1) pa_nil))) (nomark _)) (pss_one (ps_ret pe_bl)) pss_nil)
      (pss_one (ps_ret (pe_callB (cr_all rfl) (by rfl) c.f_all boot_all (pa_cons (pe_lc (own := [("sort", 3), ("part", 2)]) rfl nd (pi_zipM (K := K) true true rfl (by rfl) c.f_zip (pa_cons (pv 1) (pa_cons (pe_slice (sl_any (K := K) rfl) (pv 0) (po_some pe_int) po_none) pa_nil))) (blkOk_by (N := N_is_step) (sc := defScope s_is_step) (by decide +kernel)) (fun _ _ _ _ _ => (pg_seq 2 (K := K) rfl rfl (pgs_cons (pg_name (i := 3) nd rfl (Or.inl rfl)) (pgs_cons (pg_name (i := 2) nd rfl (Or.inl rfl)) pgs_nil)))) (fun _ _ _ _ _ => pts_nil) (fun _ _ _ _ _ => (XL.pe_fn G_is_part hr_is_part (by rfl) (pa_cons (pv 3) (pa_cons (pv 2) pa_nil))))) pa_nil)))))))), ?_⟩
    try dsimp only [cxOf, Cx.nox, Cx.wish]
    obtain ⟨v, c, rfl, hv, ok, q⟩ := h
    obtain ⟨a, us, rfl, ha, hus⟩ := tp_n hv
    have hul := dpa_len hus
    have hal := args_len c
    obtain ⟨pa, e1, e2⟩ := parts_at (K := K) (mg := mg) c
    have hz : sizeLine = 16777216 := sizeLine_eq
    repeat walk_at "w"
    refine w_new fun p0 H0 n0 s0 f0 => ?_
    have hv0 := dp_ts (TS.of s0) _ _ (stp_tup c) hv
    refine w_eqP hv0 (.tup (SqT.of f0) .nil) (stp_cmp ok) ⟨by decide +kernel, by decide⟩ fun b hb => ?_
    cases b with
    | true => exact absurd (hb.mp rfl) (by unfold Stp.d; intro z; cases z)
    | false =>
      have ha0 := s0.sqT ha
      repeat walk_at "w"
      refine w_ninD e1 ?_
      rw [show (!(some (Value.ref pa)).isSome) = false from rfl]
      repeat walk_at "w"
      refine w_ixD e1 (v0 := .ref pa) rfl ?_
      repeat walk_at "w"
      refine w_lenT (e2 H0) ?_
      repeat walk_at "w"
      rw [decide_eq_true (show ((((V.str c.tag :: us).length : Nat) : Int) = 1 + (((c.sorts.map V.str).length : Nat) : Int)) by rw [List.length_cons, hul, List.length_map, sorts_len]; omega)]
      repeat walk_at "w"
      refine w_slT1 (σ := []) ha0 ?_
      refine w_new fun tl H1 n1 s1 f1 => ?_
      have hus1 := dpAll_ts (TS.of (s0.trans s1)) _ _ (args_tup c) hus
      have hml : min (c.sorts.map V.str).length us.length = c.args.length := by rw [List.length_map, sorts_len, hul]; exact Nat.min_self _
      refine lc_zipM (by decide) (fun D j ys H' => Same H1 H' ∧ ys = (List.replicate j true).map V.bl) (show SqX true K H1 pa _ from e2 H1) (show SqX true K H1 tl _ from SqT.of f1) (fun D H' hD e f => ⟨e, rfl⟩) (fun D hD i ys H' hi hy hp => ⟨e2 H', SqT.of (hp.1 _ _ f1)⟩) (fun D hD i x y ys H2 H3 hx hy hll hyD hp s3 => ?_) (fun D hD ys H2 hll hyD hp => ?_)
      · obtain ⟨e, rfl⟩ := hp
        rw [List.getElem?_map] at hx
        obtain ⟨so, hso, rfl⟩ := Option.map_eq_some_iff.mp hx
        obtain ⟨d, hd1, hd2⟩ := dpa_at' (dpAll_ts (TS.of (e.trans s3)) _ _ (args_tup c) hus1) hy
        have hil := (List.getElem?_eq_some_iff.mp hd1).1
        repeat walk_at "w"
        refine ⟨so, y, d, rfl, hd2, parts_okK ok i so d hso hd1, fun H4 s4 => ?_⟩
        have hyD4 := s4 _ _ (s3 _ _ hyD)
        refine lc_end hyD4 hll (by rw [hz, List.length_map, List.length_replicate]; omega) fun H5 e5 f5 => ⟨But.new (e.trans (s3.trans s4)) hD e5, ?_⟩
        rw [List.replicate_succ', List.map_append]; rfl
      · obtain ⟨e, rfl⟩ := hp
        refine w_allL (SqL.of hyD) ?_
        rw [show (List.replicate (min (c.sorts.map V.str).length us.length) true).all id = true by simp]
        exact q H2 (s0.trans (s1.trans e))
theorem ok_step_of [c : Facts K mg] [ct : FactsT w K] (G_is_step : XL.Fn P w K mg "is_step" 5 ["thing"] ((spStepK K))) (GM_Ask___init__ : XL.FnA P w K mg (He.ma K (He.ga K "Ask") "__init__") 1 ["self", "to", "sel"] ((spMkF (He.ga K "Ask") ["to", "sel"]))) (GM_Cell___init__ : XL.FnA P w K mg (He.ma K (He.ga K "Cell") "__init__") 1 ["self", "to", "source"] ((spMkF (He.ga K "Cell") ["to", "source"]))) (GM_Get___init__ : XL.FnA P w K mg (He.ma K (He.ga K "Get") "__init__") 1 ["self", "to", "sel"] ((spMkF (He.ga K "Get") ["to", "sel"]))) (GM_Put___init__ : XL.FnA P w K mg (He.ma K (He.ga K "Put") "__init__") 1 ["self", "sel", "source"] ((spMkF (He.ga K "Put") ["sel", "source"]))) (GM_Store___init__ : XL.FnA P w K mg (He.ma K (He.ga K "Store") "__init__") 1 ["self", "at", "source"] ((spMkF (He.ga K "Store") ["at", "source"]))) (GM_Tell___init__ : XL.FnA P w K mg (He.ma K (He.ga K "Tell") "__init__") 1 ["self", "sel", "source"] ((spMkF (He.ga K "Tell") ["sel", "source"]))) (GM_Two___init__ : XL.FnA P w K mg (He.ma K (He.ga K "Two") "__init__") 1 ["self", "to", "op", "one", "other"] ((spMkF (He.ga K "Two") ["to", "op", "one", "other"]))) : XL.Fn P w K mg "step_of" 6 ["told"] ((spStepOf K)) := by
  obtain ⟨fd, F⟩ := c.d_step_of
  refine XL.Fn.mk' F c.g_step_of sc_step_of (k := 5) (fun vs H Q E h => ?_) (fun _ _ _ _ _ _ us hl => match us, hl with | [_], _ => rfl) (fun base cdv A outer s H vs Q E hr h => ?_)
  · exact len_step_of h
  · have nd := sc_step_of.nd
    have hu := hu_of hr.r
    have hr_is_step : XL.Rm 5 _ := hr.mono (by omega)
    have hrI_Ask : XL.Rm (1 + 1) _ := hr.mono (by omega)
    have hrI_Cell : XL.Rm (1 + 1) _ := hr.mono (by omega)
    have hrI_Get : XL.Rm (1 + 1) _ := hr.mono (by omega)
    have hrI_Put : XL.Rm (1 + 1) _ := hr.mono (by omega)
    have hrI_Store : XL.Rm (1 + 1) _ := hr.mono (by omega)
    have hrI_Tell : XL.Rm (1 + 1) _ := hr.mono (by omega)
    have hrI_Two : XL.Rm (1 + 1) _ := hr.mono (by omega)
    refine ⟨_, (PSs.nox (pss_cons (ps_if (pt_not (pt_val (XL.pe_fn G_is_step hr_is_step (by rfl) (pa_cons (pv 0) pa_nil)))) (pss_one ps_never) pss_nil)
      (pss_cons (ps_if (pt_cmpR (op_eqA (K := K) rfl hr.units) (pe_ix (ix_any (K := K) rfl) (pv 0) pe_int (fun _ _ => rfl)) pe_str (nomark _)) (pss_one (ps_ret (XL.pe_mkI GM_Get___init__ rfl c.mk_Get c.gc_Get hrI_Get (by rfl) (pa_cons (pe_ix (ix_any (K := K) rfl) (pv 0) pe_int (fun _ _ => rfl)) (pa_cons (pe_ix (ix_any (K := K) rfl) (pv 0) pe_int (fun _ _ => rfl)) pa_nil))))) pss_nil)
      (pss_cons (ps_if (pt_cmpR (op_eqA (K := K) rfl hr.units) (pe_ix (ix_any (K := K) rfl) (pv 0) pe_int (fun _ _ => rfl)) pe_str (nomark _)) (pss_one (ps_ret (XL.pe_mkI GM_Ask___init__ rfl c.mk_Ask c.gc_Ask hrI_Ask (by rfl) (pa_cons (pe_ix (ix_any (K := K) rfl) (pv 0) pe_int (fun _ _ => rfl)) (pa_cons (pe_ix (ix_any (K := K) rfl) (pv 0) pe_int (fun _ _ => rfl)) pa_nil))))) pss_nil)
      (pss_cons (ps_if (pt_cmpR (op_eqA (K := K) rfl hr.units) (pe_ix (ix_any (K := K) rfl) (pv 0) pe_int (fun _ _ => rfl)) pe_str (nomark _)) (pss_one (ps_ret (XL.pe_mkI GM_Cell___init__ rfl c.mk_Cell c.gc_Cell hrI_Cell (by rfl) (pa_cons (pe_ix (ix_any (K := K) rfl) (pv 0) pe_int (fun _ _ => rfl)) (pa_cons (pe_ix (ix_any (K := K) rfl) (pv 0) pe_int (fun _ _ => rfl)) pa_nil))))) pss_nil)
      (pss_cons (ps_if (pt_cmpR (op_eqA (K := K) rfl hr.units) (pe_ix (ix_any (K := K) rfl) (pv 0) pe_int (fun _ _ => rfl)) pe_str (nomark _)) (pss_one (ps_ret (XL.pe_mkI GM_Two___init__ rfl c.mk_Two c.gc_Two hrI_Two (by rfl) (pa_cons (pe_ix (ix_any (K := K) rfl) (pv 0) pe_int (fun _ _ => rfl)) (pa_cons (pe_ix (ix_any (K := K) rfl) (pv 0) pe_int (fun _ _ => rfl)) (pa_cons (pe_ix (ix_any (K := K) rfl) (pv 0) pe_int (fun _ _ => rfl)) (pa_cons (pe_ix (ix_any (K := K) rfl) (pv 0) pe_int (fun _ _ => rfl)) pa_nil))))))) pss_nil)
      (pss_cons (ps_if (pt_cmpR (op_eqA (K := K) rfl hr.units) (pe_ix (ix_any (K := K) rfl) (pv 0) pe_int (fun _ _ => rfl)) pe_str (nomark _)) (pss_one (ps_ret (XL.pe_mkI GM_Put___init__ rfl c.mk_Put c.gc_Put hrI_Put (by rfl) (pa_cons (pe_ix (ix_any (K := K) rfl) (pv 0) pe_int (fun _ _ => rfl)) (pa_cons (pe_ix (ix_any (K := K) rfl) (pv 0) pe_int (fun _ _ => rfl)) pa_nil))))) pss_nil)
      (pss_cons (ps_if (pt_cmpR (op_eqA (K := K) rfl hr.units) (pe_ix (ix_any (K := K) rfl) (pv 0) pe_int (fun _ _ => rfl)) pe_str (nomark _)) (pss_one (ps_ret (XL.pe_mkI GM_Tell___init__ rfl c.mk_Tell c.gc_Tell hrI_Tell (by rfl) (pa_cons (pe_ix (ix_any (K := K) rfl) (pv 0) pe_int (fun _ _ => rfl)) (pa_cons (pe_ix (ix_any (K := K) rfl) (pv 0) pe_int (fun _ _ => rfl)) pa_nil))))) pss_nil)
      (pss_one (ps_ret (XL.pe_mkI GM_Store___init__ rfl c.mk_Store c.gc_Store hrI_Store (by rfl) (pa_cons (pe_ix (ix_any (K := K) rfl) (pv 0) pe_int (fun _ _ => rfl)) (pa_cons (pe_ix (ix_any (K := K) rfl) (pv 0) pe_int (fun _ _ => rfl)) pa_nil))))))))))))), ?_⟩
    try dsimp only [cxOf, Cx.nox, Cx.wish]
    obtain ⟨v, c, rfl, hv, ok, q⟩ := h
    obtain ⟨a, us, rfl, ha, hus⟩ := tp_n hv
    repeat walk_at "w"
    refine ⟨.ref a, c, rfl, hv, ok, fun H1 s1 => ?_⟩
    have ha1 := s1.sqT ha
    have hus1 := dpAll_ts (TS.of s1) _ _ (args_tup c) hus
    have fin : ∀ (x dx : Addr) H2 H3, H1 x = none → Same H1 H2 → But x H2 H3 → H3 x = some (.ins (He.ga K c.cls) dx (c.fs.zip us)) → Q (.ref x) H3 := fun x dx H2 H3 hx s2 e3 f3 => by
      have s3 := But.new s2 hx e3
      exact q x H3 ⟨rfl, dx, us, f3, dpAll_ts (TS.of s3) _ _ (args_tup c) hus1⟩ (s1.trans s3) (s1.free hx)
    have l := dpa_len hus1
    cases c with
    | get a0 a1 =>
      match us, l, ha1, fin with
      | [u0, u1], _, ha1, fin =>
        replace ha1 : SqT K H1 a [.str "get", u0, u1] := ha1
        repeat walk_at "wd"
        refine w_newI fun x dx H2 hx s2 f2 => ?_
        exact ⟨x, dx, [u0, u1], rfl, rfl, f2, fun H3 f3 e3 => ⟨rfl, fin x dx H2 H3 hx s2 e3 f3⟩⟩
    | ask a0 a1 =>
      match us, l, ha1, fin with
      | [u0, u1], _, ha1, fin =>
        replace ha1 : SqT K H1 a [.str "ask", u0, u1] := ha1
        repeat walk_at "wd"
        refine w_newI fun x dx H2 hx s2 f2 => ?_
        exact ⟨x, dx, [u0, u1], rfl, rfl, f2, fun H3 f3 e3 => ⟨rfl, fin x dx H2 H3 hx s2 e3 f3⟩⟩
    | cell a0 a1 =>
      match us, l, ha1, fin with
      | [u0, u1], _, ha1, fin =>
        replace ha1 : SqT K H1 a [.str "cell", u0, u1] := ha1
        repeat walk_at "wd"
        refine w_newI fun x dx H2 hx s2 f2 => ?_
        exact ⟨x, dx, [u0, u1], rfl, rfl, f2, fun H3 f3 e3 => ⟨rfl, fin x dx H2 H3 hx s2 e3 f3⟩⟩
    | two a0 a1 a2 a3 =>
      match us, l, ha1, fin with
      | [u0, u1, u2, u3], _, ha1, fin =>
        replace ha1 : SqT K H1 a [.str "two", u0, u1, u2, u3] := ha1
        repeat walk_at "wd"
        refine w_ixT ha1 (atI_of (by decide) rfl) ?_
        repeat walk_at "wd"
        refine w_ixT ha1 (atI_of (by decide) rfl) ?_
        repeat walk_at "wd"
        refine w_newI fun x dx H2 hx s2 f2 => ?_
        exact ⟨x, dx, [u0, u1, u2, u3], rfl, rfl, f2, fun H3 f3 e3 => ⟨rfl, fin x dx H2 H3 hx s2 e3 f3⟩⟩
    | put a0 a1 =>
      match us, l, ha1, fin with
      | [u0, u1], _, ha1, fin =>
        replace ha1 : SqT K H1 a [.str "put", u0, u1] := ha1
        repeat walk_at "wd"
        refine w_newI fun x dx H2 hx s2 f2 => ?_
        exact ⟨x, dx, [u0, u1], rfl, rfl, f2, fun H3 f3 e3 => ⟨rfl, fin x dx H2 H3 hx s2 e3 f3⟩⟩
    | tell a0 a1 =>
      match us, l, ha1, fin with
      | [u0, u1], _, ha1, fin =>
        replace ha1 : SqT K H1 a [.str "tell", u0, u1] := ha1
        repeat walk_at "wd"
        refine w_newI fun x dx H2 hx s2 f2 => ?_
        exact ⟨x, dx, [u0, u1], rfl, rfl, f2, fun H3 f3 e3 => ⟨rfl, fin x dx H2 H3 hx s2 e3 f3⟩⟩
    | store a0 a1 =>
      match us, l, ha1, fin with
      | [u0, u1], _, ha1, fin =>
        replace ha1 : SqT K H1 a [.str "store", u0, u1] := ha1
        repeat walk_at "wd"
        refine w_newI fun x dx H2 hx s2 f2 => ?_
        exact ⟨x, dx, [u0, u1], rfl, rfl, f2, fun H3 f3 e3 => ⟨rfl, fin x dx H2 H3 hx s2 e3 f3⟩⟩
end

end J
namespace J
open PySem PySem.Spec PyProof.Rows L2
local macro_rules | `(tactic| walk_at "cls") => `(tactic| first
  | with_reducible exact Facts.cl_Step
  | with_reducible exact Facts.cl_Get
  | with_reducible exact Facts.cl_Ask
  | with_reducible exact Facts.cl_Cell
  | with_reducible exact Facts.cl_Two
  | with_reducible exact Facts.cl_Put
  | with_reducible exact Facts.cl_Tell
  | with_reducible exact Facts.cl_Store)
local macro_rules | `(tactic| walk_at "na") => `(tactic| first
  | with_reducible exact Facts.na_Get_to
  | with_reducible exact Facts.na_Get_sel
  | with_reducible exact Facts.na_Ask_to
  | with_reducible exact Facts.na_Ask_sel
  | with_reducible exact Facts.na_Cell_to
  | with_reducible exact Facts.na_Cell_source
  | with_reducible exact Facts.na_Two_to
  | with_reducible exact Facts.na_Two_op
  | with_reducible exact Facts.na_Two_one
  | with_reducible exact Facts.na_Two_other
  | with_reducible exact Facts.na_Put_sel
  | with_reducible exact Facts.na_Put_source
  | with_reducible exact Facts.na_Tell_sel
  | with_reducible exact Facts.na_Tell_source
  | with_reducible exact Facts.na_Store_at
  | with_reducible exact Facts.na_Store_source)
local macro_rules | `(tactic| walk_at "ty") => `(tactic| first
  | with_reducible exact ty_int
  | with_reducible exact ty_bl
  | with_reducible exact ty_str
  | with_reducible exact ty_non
  | ((with_reducible refine' ty_lst ?vv); (case vv => walk_at "tr"))
  | ((with_reducible refine' ty_sqT ?vv); (case vv => walk_at "tr"))
  | ((with_reducible refine' ty_dic ?vv); (case vv => walk_at "tr")))
local macro_rules | `(tactic| walk_at "ix") => `(tactic| first | exact at0 | exact at1 | exact at2 | assumption)
local macro_rules | `(tactic| walk_at "size") => `(tactic| first
  | assumption
  | (show _ < sizeLine; rw [sizeLine_eq]; (try simp only [List.length_cons, List.length_nil, List.length_append, List.length_map]); omega)
  | (show _ ≤ sizeLine; rw [sizeLine_eq]; (try simp only [List.length_cons, List.length_nil, List.length_append, List.length_map]); omega))
local macro_rules | `(tactic| walk_at "side") => `(tactic| first
  | assumption
  | ((with_reducible refine cdw ?_ ?_) <;> omega)
  | omega
  | (exact ⟨by omega, by omega⟩)
  | (exact Or.inl ⟨by omega, by omega⟩)
  | (exact Or.inr ⟨by omega, by omega⟩)
  | decide
  | (simp only [List.length_cons, List.length_nil, List.length_append, List.length_map]; omega)
  | (show _ ≤ _; decide))
local macro_rules | `(tactic| walk_at "as") => `(tactic| with_reducible assumption)
local macro_rules | `(tactic| walk_at "tr") => `(tactic| first
  | with_reducible assumption
  | with_reducible exact upd_same
  | ((with_reducible refine' SqL.of ?hh); (case hh => walk_at "as"))
  | ((with_reducible refine' SqT.of ?hh); (case hh => walk_at "as"))
  | ((with_reducible refine' Same.stm ?ee ?gg); (case ee => walk_at "as"); (case gg => walk_at "tr"))
  | ((with_reducible refine' Same.sqT ?ee ?gg); (case ee => walk_at "as"); (case gg => walk_at "tr"))
  | ((with_reducible refine' Same.sqL ?ee ?gg); (case ee => walk_at "as"); (case gg => walk_at "tr"))
  | ((with_reducible refine' Same.at ?ee ?gg); (case ee => walk_at "as"); (case gg => walk_at "tr"))
  | ((with_reducible refine' But.stm ?ee ?ff ?gg); (case ee => walk_at "as"); (case ff => walk_at "ne"); (case gg => walk_at "tr"))
  | ((with_reducible refine' But.tup ?ee ?ff ?gg); (case ee => walk_at "as"); (case ff => walk_at "tr1"); (case gg => walk_at "tr"))
  | ((with_reducible refine' But.sqT ?ee ?ff ?gg); (case ee => walk_at "as"); (case ff => walk_at "tr1"); (case gg => walk_at "tr"))
  | ((with_reducible refine' But.tupL ?ee ?ff ?gg); (case ee => walk_at "as"); (case ff => walk_at "tr1"); (case gg => walk_at "tr"))
  | ((with_reducible refine' But.sqTL ?ee ?ff ?gg); (case ee => walk_at "as"); (case ff => walk_at "tr1"); (case gg => walk_at "tr"))
  | ((with_reducible refine' But.sqL ?ee ?ff ?gg); (case ee => walk_at "as"); (case ff => walk_at "ne"); (case gg => walk_at "tr"))
  | ((with_reducible refine' But.at ?ee ?ff ?gg); (case ee => walk_at "as"); (case ff => walk_at "ne"); (case gg => walk_at "tr")))
local macro_rules | `(tactic| walk_at "ts") => `(tactic| first
  | with_reducible assumption
  | with_reducible exact TS.refl _
  | ((with_reducible refine' TS.trans ?gg (TS.of ?ee)); (case ee => walk_at "as"); (case gg => walk_at "ts"))
  | ((with_reducible refine' TS.trans ?gg (TS.butS ?ee ?ff)); (case ee => walk_at "as"); (case ff => walk_at "tr1"); (case gg => walk_at "ts"))
  | ((with_reducible refine' TS.trans ?gg (TS.butL ?ee ?ff)); (case ee => walk_at "as"); (case ff => walk_at "tr1"); (case gg => walk_at "ts"))
  | ((with_reducible refine' TS.trans ?gg (TS.butI ?ee ?ff)); (case ee => walk_at "as"); (case ff => walk_at "tr1"); (case gg => walk_at "ts")))
local macro_rules | `(tactic| walk_at "sm") => `(tactic| first
  | with_reducible assumption
  | with_reducible exact Same.refl _
  | ((with_reducible refine' Same.trans ?gg ?ee); (case ee => walk_at "as"); (case gg => walk_at "sm"))
  | ((with_reducible refine' But.new ?gg ?nn ?ee); (case ee => walk_at "as"); (case nn => walk_at "fr"); (case gg => walk_at "sm")))
local macro_rules | `(tactic| walk_at "fr") => `(tactic| first
  | with_reducible assumption
  | ((with_reducible refine' Same.back ?ee ?nn); (case nn => walk_at "as"); (case ee => walk_at "sm"))
  | ((with_reducible refine' But.back ?ee ?ff ?nn); (case nn => walk_at "as"); (case ff => walk_at "ne0"); (case ee => walk_at "bu")))
local macro_rules | `(tactic| walk_at "bu") => `(tactic| first
  | with_reducible assumption
  | with_reducible exact But.refl _ _
  | ((with_reducible refine' But.trans ?gg ?ee); (case ee => walk_at "as"); (case gg => walk_at "bu"))
  | ((with_reducible refine' But.trans ?gg (But.of ?ee)); (case ee => walk_at "as"); (case gg => walk_at "bu"))
  | ((with_reducible refine' But.new2 ?gg ?nn ?ee); (case ee => walk_at "as"); (case nn => walk_at "frB"); (case gg => walk_at "bu")))
local macro_rules | `(tactic| walk_at "frB") => `(tactic| first
  | with_reducible assumption
  | ((with_reducible refine' Same.back ?ee ?nn); (case nn => walk_at "as"); (case ee => walk_at "sm"))
  | ((with_reducible refine' But.back' ?ee ?ff ?nn); (case nn => walk_at "as"); (case ee => walk_at "bu"); (case ff => walk_at "tr1")))
local macro_rules | `(tactic| walk_at "tr1") => `(tactic| first
  | with_reducible assumption
  | ((with_reducible refine' Same.stm ?ee ?gg); (case ee => walk_at "as"); (case gg => walk_at "tr1"))
  | ((with_reducible refine' Same.at ?ee ?gg); (case ee => walk_at "as"); (case gg => walk_at "tr1"))
  | ((with_reducible refine' But.at ?ee ?ff ?gg); (case ee => walk_at "as"); (case ff => walk_at "ne0"); (case gg => walk_at "tr1"))
  | ((with_reducible refine' But.stm ?ee ?ff ?gg); (case ee => walk_at "as"); (case ff => walk_at "ne0"); (case gg => walk_at "tr1")))
local macro_rules | `(tactic| walk_at "ne0") => `(tactic| first
  | with_reducible assumption
  | (with_reducible apply Ne.symm; with_reducible assumption))
local macro_rules | `(tactic| walk_at "ne") => `(tactic| first
  | with_reducible assumption
  | (with_reducible apply Ne.symm; with_reducible assumption)
  | ((with_reducible refine' stm_ne ?hh ?nn); (case nn => walk_at "as"); (case hh => walk_at "tr1"))
  | ((with_reducible refine' ne_of_none ?hh ?nn); (case nn => walk_at "as"); (case hh => walk_at "tr1"))
  | ((with_reducible apply Ne.symm); (with_reducible refine' ne_of_none ?hh ?nn); (case nn => walk_at "as"); (case hh => walk_at "tr1")))
local macro_rules | `(tactic| walk_at "v") => `(tactic| first
  | with_reducible refine w_seq ?_
  | ((with_reducible refine' w_var ?vv ?_); (case vv => exact rfl))
  | with_reducible refine w_c ?_
  | with_reducible refine w_op ?_
  | with_reducible refine w_asg ?_
  | with_reducible refine w_gName ?_
  | with_reducible refine w_ret ?_
  | with_reducible refine w_ifS ?_
  | with_reducible refine w_drop ?_
  | with_reducible refine w_next ?_
  | with_reducible refine w_cons ?_
  | with_reducible refine w_nil ?_
  | with_reducible refine w_call ?_
  | with_reducible refine w_cb ?_
  | with_reducible refine w_rI0 ?_
  | with_reducible refine w_addI ?_
  | with_reducible refine w_eqI ?_
  | with_reducible refine w_neI ?_
  | with_reducible refine w_eqS ?_
  | with_reducible refine w_neS ?_
  | with_reducible refine w_eqB ?_
  | with_reducible refine w_neB ?_
  | with_reducible refine w_chain ?_
  | with_reducible refine w_test ?_
  | with_reducible refine w_tB ?_
  | with_reducible refine w_bl ?_
  | ((with_reducible refine' w_mulI ?vv ?_); (case vv => walk_at "side"))
  | ((with_reducible refine' w_rI ?vv ?_); (case vv => walk_at "side"))
  | with_reducible refine w_int1 ?_
  | with_reducible refine w_int1b ?_
  | with_reducible refine w_tup ?_
  | with_reducible refine w_lst ?_
  | with_reducible refine w_un ?_
  | with_reducible refine w_rU ?_
  | with_reducible refine w_not ?_
  | with_reducible refine w_notV ?_
  | with_reducible refine w_ifE ?_
  | with_reducible refine w_nT ?_
  | with_reducible refine w_nF ?_
  | with_reducible refine iteT ?_
  | with_reducible refine iteF ?_
  | ((with_reducible refine' w_ixT ?vv ?ww ?_); (case vv => walk_at "tr"); (case ww => walk_at "ix"))
  | ((with_reducible refine' w_ixL ?vv ?ww ?_); (case vv => walk_at "tr"); (case ww => walk_at "ix"))
  | with_reducible refine w_gSub ?_
  | ((with_reducible refine' w_setL ?vv ?ww ?_); (case vv => walk_at "tr"); (case ww => first | rfl | decide | assumption))
  | ((with_reducible refine' w_lenL ?vv ?_); (case vv => walk_at "tr"))
  | ((with_reducible refine' w_lenT ?vv ?_); (case vv => walk_at "tr"))
  | with_reducible refine w_max2 ?_
  | with_reducible refine w_max3 ?_
  | with_reducible refine w_din ?_
  | with_reducible refine w_dnotin ?_
  | with_reducible refine w_dput ?_
  | with_reducible refine w_min2 ?_
  | with_reducible refine w_bm ?_
  | with_reducible refine w_bm0 ?_
  | ((with_reducible refine' w_tyL ?vv ?_); (case vv => walk_at "tr"))
  | ((with_reducible refine' w_append ?vv ?ww ?_); (case vv => walk_at "tr"); (case ww => walk_at "size"))
  | ((with_reducible refine' w_size ?vv ?_); (case vv => walk_at "size"))
  | with_reducible refine w_forL ?_
  | with_reducible refine w_forT ?_
  | with_reducible refine w_forR1 ?_
  | with_reducible refine w_forR2 ?_
  | with_reducible refine w_lcL ?_
  | with_reducible refine w_lcT ?_
  | with_reducible refine w_lcR1 ?_
  | with_reducible refine w_yes ?_
  | with_reducible refine w_sl ?_
  | with_reducible refine w_noPart ?_
  | with_reducible refine w_part ?_
  | with_reducible refine w_int ?_
  | ((with_reducible refine' w_slL ?vv ?_); (case vv => walk_at "tr"))
  | ((with_reducible refine' w_seqL ?vv ?ww ?_); (case vv => walk_at "tr"); (case ww => rfl))
  | ((with_reducible refine' w_seqT ?vv ?ww ?_); (case vv => walk_at "tr"); (case ww => rfl))
  | with_reducible refine w_gNil ?_
  | with_reducible refine w_gCons ?_
  | with_reducible refine w_forZ ?_
  | with_reducible refine w_forM ?_
  | with_reducible refine w_forE ?_
  | with_reducible refine w_forV ?_
  | with_reducible refine w_lcZ ?_
  | with_reducible refine w_lcE ?_
  | ((with_reducible refine' w_isi (b := true) ?vv ?ww ?_); (case vv => walk_at "ty"); (case ww => decide +kernel))
  | ((with_reducible refine' w_isi (b := false) ?vv ?ww ?_); (case vv => walk_at "ty"); (case ww => decide +kernel))
  | with_reducible refine w_revL ?_
  | with_reducible refine w_pairN ?_
  | with_reducible refine w_pairC ?_
  | with_reducible refine w_dget ?_
  | with_reducible refine w_met ?_
  | ((with_reducible refine' w_metAt ?vv ?ww ?_); (case vv => walk_at "tr"); (case ww => rfl))
  | with_reducible refine w_mkI ?_
  | with_reducible refine w_fld ?_
  | ((with_reducible refine' w_fldAt ?vv ?cc ?nn ?ww ?_); (case vv => walk_at "tr"); (case cc => walk_at "cls"); (case nn => walk_at "na"); (case ww => rfl))
  | with_reducible refine w_sfld ?_
  | ((with_reducible refine' w_sfldAt ?vv ?cc ?nn ?ll ?ee ?_); (case vv => walk_at "tr"); (case cc => walk_at "cls"); (case nn => walk_at "na"); (case ll => simp); (case ee => rfl))
  | ((with_reducible refine' w_tupL ?vv ?_); (case vv => walk_at "tr"))
  | ((with_reducible refine' w_tupT ?vv ?_); (case vv => walk_at "tr"))
  | ((with_reducible refine' w_listL ?vv ?_); (case vv => walk_at "tr"))
  | ((with_reducible refine' w_listT ?vv ?_); (case vv => walk_at "tr"))
  | with_reducible refine w_tyS ?_
  | with_reducible refine w_lcZM ?_
  | with_reducible refine w_js ?_
  | with_reducible refine w_jsN ?_
  | ((with_reducible refine' w_jsP ?vv ?_); (case vv => walk_at "size"))
  | with_reducible refine w_fmt ?_
  | with_reducible refine w_forRR ?_
  | with_reducible refine w_retN ?_
  | with_reducible refine w_break ?_
  | with_reducible refine w_cont ?_)
local macro_rules | `(tactic| walk_at "w") => `(tactic| first
  | walk_at "v"
  | with_reducible refine w_or ?_
  | with_reducible refine w_and ?_
  | with_reducible refine w_andV ?_
  | with_reducible refine w_orV ?_)
local macro_rules | `(tactic| walk_at "wd") => `(tactic| first
  | walk_at "w"
  | ((with_reducible refine' w_decT ?vv ?_); (case vv => decide +kernel))
  | ((with_reducible refine' w_decF ?vv ?_); (case vv => decide +kernel)))
local macro_rules | `(tactic| walk_at "tz") => `(tactic| (intro S z; (repeat walk_at "w"); exact z))
local macro_rules | `(tactic| walk_at "wf") => `(tactic| first
  | walk_at "wd"
  | ((with_reducible refine' w_decF ?vv ?_); (case vv => with_reducible assumption)))
/-! ### what meets -/
def bt : Option Nat → Nat
  | none => 8
  | some n => n
def bitsN (L : List (Option Nat)) : Nat := L.foldl (fun a p => a ||| 2 ^ bt p) 0
def LowP (L : List (Option Nat)) : Prop := ∀ n, some n ∈ L → n ≤ 7
theorem bits_acc (i : Nat) : ∀ (L : List (Option Nat)) (a : Nat), (L.foldl (fun a p => a ||| 2 ^ bt p) a).testBit i = (a.testBit i || decide (∃ p ∈ L, bt p = i))
  | [], a => by simp
  | p :: L, a => by
    rw [List.foldl_cons, bits_acc i L, Nat.testBit_or, Nat.testBit_two_pow, Bool.or_assoc]
    congr 1
    rw [Bool.eq_iff_iff]
    simp only [Bool.or_eq_true, decide_eq_true_eq, List.mem_cons]
    constructor
    · rintro (h | ⟨q, h1, h2⟩)
      · exact ⟨p, .inl rfl, h⟩
      · exact ⟨q, .inr h1, h2⟩
    · rintro ⟨q, rfl | h1, h2⟩
      · exact .inl h2
      · exact .inr ⟨q, h1, h2⟩
theorem bits_at (L : List (Option Nat)) (i : Nat) : (bitsN L).testBit i = decide (∃ p ∈ L, bt p = i) := by unfold bitsN; rw [bits_acc, Nat.zero_testBit, Bool.false_or]
theorem bits_snoc (L : List (Option Nat)) (p : Option Nat) : bitsN (L ++ [p]) = bitsN L ||| 2 ^ bt p := by unfold bitsN; rw [List.foldl_append]; rfl
theorem bits_congr {L M : List (Option Nat)} (h : ∀ p, p ∈ L ↔ p ∈ M) : bitsN L = bitsN M := Nat.eq_of_testBit_eq fun i => by
  rw [bits_at, bits_at, decide_eq_decide]
  exact ⟨fun ⟨p, a, b⟩ => ⟨p, (h p).mp a, b⟩, fun ⟨p, a, b⟩ => ⟨p, (h p).mpr a, b⟩⟩
theorem bt_inj {p q : Option Nat} (hp : ∀ n, p = some n → n ≤ 7) (hq : ∀ n, q = some n → n ≤ 7) (h : bt p = bt q) : p = q := by
  cases p with
  | none => cases q with
    | none => rfl
    | some m => have := hq m rfl; simp only [bt] at h; omega
  | some n => cases q with
    | none => have := hp n rfl; simp only [bt] at h; omega
    | some m => simp only [bt] at h; rw [h]
theorem nz_iff {x : Nat} : x ≠ 0 ↔ ∃ i, x.testBit i = true := by
  constructor
  · intro h
    apply Classical.byContradiction
    intro g
    refine h (Nat.eq_of_testBit_eq fun i => ?_)
    rw [Nat.zero_testBit]
    cases e : x.testBit i with
    | false => rfl
    | true => exact (g ⟨i, e⟩).elim
  · rintro ⟨i, h⟩ rfl
    rw [Nat.zero_testBit] at h; cases h
theorem and_nz {L M : List (Option Nat)} (hL : LowP L) (hM : LowP M) : (bitsN L &&& bitsN M) ≠ 0 ↔ ∃ p, p ∈ L ∧ p ∈ M := by
  rw [nz_iff]
  constructor
  · rintro ⟨i, h⟩
    rw [Nat.testBit_and, Bool.and_eq_true, bits_at, bits_at, decide_eq_true_eq, decide_eq_true_eq] at h
    obtain ⟨⟨p, hp, e1⟩, ⟨q, hq, e2⟩⟩ := h
    have e : p = q := bt_inj (fun n z => hL n (z ▸ hp)) (fun n z => hM n (z ▸ hq)) (e1.trans e2.symm)
    exact ⟨p, hp, e ▸ hq⟩
  · rintro ⟨p, h1, h2⟩
    refine ⟨bt p, ?_⟩
    rw [Nat.testBit_and, Bool.and_eq_true, bits_at, bits_at, decide_eq_true_eq, decide_eq_true_eq]
    exact ⟨⟨p, h1, rfl⟩, ⟨p, h2, rfl⟩⟩
theorem bits_app (L M : List (Option Nat)) : bitsN (L ++ M) = bitsN L ||| bitsN M := Nat.eq_of_testBit_eq fun i => by
  rw [Nat.testBit_or, bits_at, bits_at, bits_at, Bool.eq_iff_iff, Bool.or_eq_true, decide_eq_true_eq, decide_eq_true_eq, decide_eq_true_eq]
  constructor
  · rintro ⟨p, h, e⟩
    rcases List.mem_append.mp h with g | g
    · exact .inl ⟨p, g, e⟩
    · exact .inr ⟨p, g, e⟩
  · rintro (⟨p, h, e⟩ | ⟨p, h, e⟩)
    · exact ⟨p, List.mem_append.mpr (.inl h), e⟩
    · exact ⟨p, List.mem_append.mpr (.inr h), e⟩
/-- two steps meet -/
def meetP (a b : Stp) : Prop := (∃ p, p ∈ a.wr ∧ (p ∈ b.rd ∨ p ∈ b.wr)) ∨ ∃ p, p ∈ b.wr ∧ p ∈ a.rd
instance (a b : Stp) : Decidable (meetP a b) := by
  unfold meetP
  have h1 : Decidable (∃ p, p ∈ a.wr ∧ (p ∈ b.rd ∨ p ∈ b.wr)) := inferInstanceAs (Decidable (∃ p, p ∈ a.wr ∧ _))
  have h2 : Decidable (∃ p, p ∈ b.wr ∧ p ∈ a.rd) := inferInstanceAs (Decidable (∃ p, p ∈ b.wr ∧ _))
  exact inferInstance
def meetS (a b : Stp) : Bool := decide (meetP a b)
theorem meetP_comm {a b : Stp} (h : meetP a b) : meetP b a := by
  rcases h with ⟨p, h1, h2 | h2⟩ | ⟨p, h1, h2⟩
  · exact .inr ⟨p, h1, h2⟩
  · exact .inl ⟨p, h2, .inr h1⟩
  · exact .inl ⟨p, h1, .inl h2⟩
theorem meetS_comm (a b : Stp) : meetS a b = meetS b a := decide_eq_decide.mpr ⟨meetP_comm, meetP_comm⟩
theorem meetS_self (a : Stp) : meetS a a = true := by
  have : ∃ p, p ∈ a.wr := by cases a <;> exact ⟨_, by unfold Stp.wr; simp [Stp.chg, Stp.way]; first | exact .inl rfl | exact rfl⟩
  obtain ⟨p, hp⟩ := this
  exact decide_eq_true (.inl ⟨p, hp, .inr hp⟩)
def touB (a : Stp) : Nat := bitsN a.wr ||| bitsN a.rd
theorem met_iff {a b : Stp} (ha : a.ok) (hb : b.ok) : ((bitsN a.wr &&& touB b) ||| (bitsN b.wr &&& touB a)) ≠ 0 ↔ meetP a b := by
  have l1 : LowP a.wr := a.wr_ok ha
  have l2 : LowP b.wr := b.wr_ok hb
  have l3 : LowP (a.wr ++ a.rd) := fun n h => (List.mem_append.mp h).elim (a.wr_ok ha n) (a.rd_ok ha n)
  have l4 : LowP (b.wr ++ b.rd) := fun n h => (List.mem_append.mp h).elim (b.wr_ok hb n) (b.rd_ok hb n)
  unfold touB
  rw [← bits_app, ← bits_app]
  have or0 : ∀ x y : Nat, (x ||| y) ≠ 0 ↔ x ≠ 0 ∨ y ≠ 0 := fun x y => by
    rw [nz_iff, nz_iff, nz_iff]
    constructor
    · rintro ⟨i, h⟩
      rw [Nat.testBit_or, Bool.or_eq_true] at h
      rcases h with h | h
      · exact .inl ⟨i, h⟩
      · exact .inr ⟨i, h⟩
    · rintro (⟨i, h⟩ | ⟨i, h⟩) <;> exact ⟨i, by rw [Nat.testBit_or, h]; simp⟩
  rw [or0, and_nz l1 l4, and_nz l2 l3]
  unfold meetP
  simp only [List.mem_append]
  constructor
  · rintro (⟨p, h1, h2 | h2⟩ | ⟨p, h1, h2 | h2⟩)
    · exact .inl ⟨p, h1, .inr h2⟩
    · exact .inl ⟨p, h1, .inl h2⟩
    · exact .inl ⟨p, h2, .inr h1⟩
    · exact .inr ⟨p, h1, h2⟩
  · rintro (⟨p, h1, h2 | h2⟩ | ⟨p, h1, h2⟩)
    · exact .inl ⟨p, h1, .inr h2⟩
    · exact .inl ⟨p, h1, .inl h2⟩
    · exact .inr ⟨p, h1, .inr h2⟩
theorem rn_inj : ∀ n, n ≤ 7 → ∀ m, m ≤ 7 → rn n = rn m → n = m := by decide +kernel
theorem rn_way : ∀ n, n ≤ 7 → rn n ≠ ("way" : Str) := by decide +kernel
theorem pn_inj {p q : Option Nat} (hp : ∀ n, p = some n → n ≤ 7) (hq : ∀ n, q = some n → n ≤ 7) (h : pn p = pn q) : p = q := by
  cases p with
  | none => cases q with
    | none => rfl
    | some m => exact (rn_way m (hq m rfl) h.symm).elim
  | some n => cases q with
    | none => exact (rn_way n (hp n rfl) h).elim
    | some m => rw [rn_inj n (hp n rfl) m (hq m rfl) h]
theorem pick_pn {M : List (Option Nat)} : ∀ {ks : List Str}, (∀ k ∈ ks, k ∈ M.map pn) → ∃ L : List (Option Nat), ks = L.map pn ∧ ∀ p ∈ L, p ∈ M
  | [], _ => ⟨[], rfl, fun _ h => (List.not_mem_nil h).elim⟩
  | k :: ks, h => by
    obtain ⟨L, e, hL⟩ := pick_pn (ks := ks) fun x hx => h x (List.mem_cons_of_mem _ hx)
    obtain ⟨p, hp, rfl⟩ := List.mem_map.mp (h k List.mem_cons_self)
    exact ⟨p :: L, by rw [e]; rfl, fun x hx => by
      rcases List.mem_cons.mp hx with rfl | hx
      · exact hp
      · exact hL x hx⟩
theorem bitOrN (a b : Nat) : Builtin.bitOr (a : Int) (b : Int) = ((a ||| b : Nat) : Int) := by rw [Bits.bitOr_pp (by omega) (by omega)]; rfl
theorem bitAndN (a b : Nat) : Builtin.bitAnd (a : Int) (b : Int) = ((a &&& b : Nat) : Int) := by rw [bitAnd_pp (by omega) (by omega)]; rfl
theorem rn_cut : ∀ n : Nat, n ≤ 7 → PySem.intText? (cutS (rn n) (some 1) none) = some ((n : Nat) : Int) ∧ (cutS (rn n) (some 1) none).length ≤ 640 := by decide +kernel
def spBits (K : PySem.W.Frag) : Sp := fun vs H Q _ => ∃ (q : Addr) (L : List (Option Nat)), vs = [.ref q] ∧ SqL K H q ((L.map pn).map V.str) ∧ LowP L ∧ L.length < 64 ∧ Q (.int (bitsN L : Nat)) H
theorem len_bits_of {K : PySem.W.Frag} {vs H Q E} (h : spBits K vs H Q E) : vs.length = 1 := by obtain ⟨_, _, rfl, _⟩ := h; rfl
def spTou (K : PySem.W.Frag) : Sp := fun vs H Q _ => ∃ p C s, vs = [.ref p] ∧ C ∈ fam_Step ∧ StepAt K H p C s ∧ s.ok ∧ ∀ t H', H' t = some (.tup [.int (bitsN s.wr : Nat), .int (touB s : Nat)]) → Same H H' → H t = none → Q (.ref t) H'
theorem len_touched {K : PySem.W.Frag} {vs H Q E} (h : spTou K vs H Q E) : vs.length = 1 := by obtain ⟨_, _, _, rfl, _⟩ := h; rfl
def spMet (K : PySem.W.Frag) : Sp := fun vs H Q _ => ∃ t u a b, vs = [.ref t, .ref u] ∧ SqT K H t [.int (bitsN a.wr : Nat), .int (touB a : Nat)] ∧ SqT K H u [.int (bitsN b.wr : Nat), .int (touB b : Nat)] ∧ a.ok ∧ b.ok ∧ Q (.bl (meetS a b)) H
theorem len_met {K : PySem.W.Frag} {vs H Q E} (h : spMet K vs H Q E) : vs.length = 2 := by obtain ⟨_, _, _, _, rfl, _⟩ := h; rfl
theorem stp_fam (s : Stp) : s.cls ∈ fam_Step := by cases s <;> simp [Stp.cls, fam_Step]
section
variable {P : Program} {w : World} {K : PySem.W.Frag} {mg : Str → Option Value}
theorem ok_bits_of [c : Facts K mg] [ct : FactsT w K] : XL.Fn P w K mg "bits_of" 1 ["places"] ((spBits K)) := by
  obtain ⟨fd, F⟩ := c.d_bits_of
  refine XL.Fn.mk' F c.g_bits_of sc_bits_of (k := 0) (fun vs H Q E h => ?_) (fun _ _ _ _ _ _ us hl => match us, hl with | [_], _ => rfl) (fun base cdv A outer s H vs Q E hr h => ?_)
  · exact len_bits_of h
  · have nd := sc_bits_of.nd
    have hu := hu_of hr.r
    refine ⟨_, (PSs.nox (pss_cons (ps_set (i := 1) nd rfl (Or.inl rfl) pe_int)
      (pss_cons (ps_for PassesOwn.never rfl (pi_list (pv 0)) (pg_name (i := 2) nd rfl (Or.inl rfl)) (pss_one (ps_if (pt_cmpR (op_eqA (K := K) rfl hr.units) (pv 2) pe_str (nomark _)) (pss_one (ps_set (i := 1) nd rfl (Or.inl rfl) (pe_op op_or (pv 1) (pe_gI (by rfl) c.g_WAY)))) (pss_one (ps_set (i := 1) nd rfl (Or.inl rfl) (pe_op op_or (pv 1) (pe_op op_shl pe_int (pe_callTy call_intS (by rfl) c.f_int boot_int (pa_cons (pe_slice (sl_any (K := K) rfl) (pv 2) (po_some pe_int) po_none) pa_nil)))))))))
      (pss_one (ps_ret (pv 1)))))), ?_⟩
    try dsimp only [cxOf, Cx.nox, Cx.wish]
    obtain ⟨q1, L, rfl, hq, low, hl, q⟩ := h
    have hz : sizeLine = 16777216 := sizeLine_eq
    repeat walk_at "w"
    refine fl_list ((L.map pn).map V.str) (fun i σ H' => ∃ o, σ = [some (.ref q1), some (.int (bitsN (L.take i) : Nat)), o] ∧ H' = H) hq ⟨_, rfl, rfl⟩ (fun i σ H' hi hp => ?_) (fun i x σ H' hx hp => ?_) (fun σ H' hp => ?_)
    · obtain ⟨_, _, rfl⟩ := hp
      exact hq
    · obtain ⟨o, rfl, rfl⟩ := hp
      rw [List.getElem?_map] at hx
      obtain ⟨tx, hx', rfl⟩ := Option.map_eq_some_iff.mp hx
      rw [List.getElem?_map] at hx'
      obtain ⟨p, hp, rfl⟩ := Option.map_eq_some_iff.mp hx'
      have hpm := List.mem_of_getElem? hp
      rw [tk_snoc hp, bits_snoc]
      cases p with
      | none =>
        repeat walk_at "w"
        rw [decide_eq_true (show pn none = ("way" : Str) from rfl)]
        repeat walk_at "w"
        exact ⟨_, by rw [show (256 : Int) = ((2 ^ bt none : Nat) : Int) from rfl, bitOrN]; rfl, rfl⟩
      | some n =>
        have n7 := low n hpm
        repeat walk_at "w"
        rw [decide_eq_false (show ¬ pn (some n) = ("way" : Str) from rn_way n n7)]
        repeat walk_at "w"
        refine w_slS (by show (rn n).length ≤ _; have := rn_len n n7; rw [hz]; omega) ?_
        repeat walk_at "w"
        refine w_intS (rn_cut n n7).1 (rn_cut n n7).2 ?_
        refine w_rI ⟨by omega, by omega, by decide⟩ ?_
        repeat walk_at "w"
        exact ⟨_, by rw [show (1 : Int) * 2 ^ ((n : Nat) : Int).toNat = ((2 ^ bt (some n) : Nat) : Int) by rw [Int.one_mul, Int.toNat_natCast]; show _ = ((2 ^ n : Nat) : Int); norm_cast, bitOrN]; rfl, rfl⟩
    · obtain ⟨o, rfl, rfl⟩ := hp
      rw [List.length_map, List.length_map, List.take_length]
      repeat walk_at "w"
      exact q
theorem ok_touched [c : Facts K mg] [ct : FactsT w K] (G_bits_of : XL.Fn P w K mg "bits_of" 1 ["places"] ((spBits K))) (GU_reads : ∀ C ∈ fam_Step, XL.FnA P w K mg (He.ma K (He.ga K C) "reads") 2 ["self"] ((spRds K C))) (GU_writes : ∀ C ∈ fam_Step, XL.FnA P w K mg (He.ma K (He.ga K C) "writes") 2 ["self"] ((spWrs K C))) : XL.Fn P w K mg "touched" 3 ["step"] ((spTou K)) := by
  obtain ⟨fd, F⟩ := c.d_touched
  refine XL.Fn.mk' F c.g_touched sc_touched (k := 2) (fun vs H Q E h => ?_) (fun _ _ _ _ _ _ us hl => match us, hl with | [_], _ => rfl) (fun base cdv A outer s H vs Q E hr h => ?_)
  · exact len_touched h
  · have nd := sc_touched.nd
    have hu := hu_of hr.r
    have hr_bits_of : XL.Rm 1 _ := hr.mono (by omega)
    have hrU_reads : XL.Rm 2 _ := hr.mono (by omega)
    have hrU_writes : XL.Rm 2 _ := hr.mono (by omega)
    refine ⟨_, (PSs.nox (pss_cons (ps_set (i := 1) nd rfl (Or.inl rfl) (XL.pe_fn G_bits_of hr_bits_of (by rfl) (pa_cons (XL.pe_metU0 GU_writes rfl (clU_Step (K := K) (mg := mg)) (meU_Step_writes (K := K) (mg := mg)) hrU_writes (pv 0)) pa_nil)))
      (pss_one (ps_ret (pe_tup (pa_cons (pv 1) (pa_cons (pe_op op_or (pv 1) (XL.pe_fn G_bits_of hr_bits_of (by rfl) (pa_cons (XL.pe_metU0 GU_reads rfl (clU_Step (K := K) (mg := mg)) (meU_Step_reads (K := K) (mg := mg)) hrU_reads (pv 0)) pa_nil))) pa_nil))))))), ?_⟩
    try dsimp only [cxOf, Cx.nox, Cx.wish]
    obtain ⟨p, C, s, rfl, hC, hs, ok, q⟩ := h
    obtain ⟨dx, as, hp⟩ := hs.at
    repeat walk_at "w"
    refine w_metU C hC ?_
    repeat walk_at "w"
    refine w_metAt hp (stp_no (by decide +kernel) s as) ?_
    repeat walk_at "w"
    refine ⟨p, s, rfl, hs, ok, fun q1 H1 f1 s1 n1 => ?_⟩
    repeat walk_at "w"
    refine ⟨q1, s.wr, rfl, SqL.of f1, s.wr_ok ok, by have := wr_len s; omega, ?_⟩
    have hs1 := hs.sm s1
    have hp1 := s1 _ _ hp
    repeat walk_at "w"
    refine w_metU C hC ?_
    repeat walk_at "w"
    refine w_metAt hp1 (stp_no (by decide +kernel) s as) ?_
    repeat walk_at "w"
    refine ⟨p, s, rfl, hs1, ok, fun q2 H2 ks f2 k1 k2 k3 k4 s2 n2 => ?_⟩
    obtain ⟨L, rfl, hL⟩ := pick_pn (M := s.rd) fun k hk => (k3 k).mp hk
    have lowL : LowP L := fun n hn => s.rd_ok ok n (hL _ hn)
    have eL : bitsN L = bitsN s.rd := bits_congr fun p => ⟨hL p, fun hp => by
      obtain ⟨p', hp', e⟩ := List.mem_map.mp ((k3 (pn p)).mpr (List.mem_map.mpr ⟨p, hp, rfl⟩))
      rw [← pn_inj (fun n z => lowL n (z ▸ hp')) (fun n z => s.rd_ok ok n (z ▸ hp)) e]; exact hp'⟩
    repeat walk_at "w"
    refine ⟨q2, L, rfl, SqL.of f2, lowL, by rw [List.length_map] at k4; exact k4, ?_⟩
    repeat walk_at "w"
    rw [eL, bitOrN]
    exact w_new fun t H3 n3 s3 f3 => q t H3 f3 (s1.trans (s2.trans s3)) (s1.free (s2.free n3))
theorem ok_met [c : Facts K mg] [ct : FactsT w K] : XL.Fn P w K mg "met" 1 ["one", "other"] ((spMet K)) := by
  obtain ⟨fd, F⟩ := c.d_met
  refine XL.Fn.mk' F c.g_met sc_met (k := 0) (fun vs H Q E h => ?_) (fun _ _ _ _ _ _ us hl => match us, hl with | [_, _], _ => rfl) (fun base cdv A outer s H vs Q E hr h => ?_)
  · exact len_met h
  · have nd := sc_met.nd
    have hu := hu_of hr.r
    refine ⟨_, (PSs.nox (pss_one (ps_ret (pe_cmpR (op_neA (K := K) rfl hr.units) (pe_op op_or (pe_op op_and (pe_ix (ix_any (K := K) rfl) (pv 0) pe_int (fun _ _ => rfl)) (pe_ix (ix_any (K := K) rfl) (pv 1) pe_int (fun _ _ => rfl))) (pe_op op_and (pe_ix (ix_any (K := K) rfl) (pv 1) pe_int (fun _ _ => rfl)) (pe_ix (ix_any (K := K) rfl) (pv 0) pe_int (fun _ _ => rfl)))) pe_int (nomark _))))), ?_⟩
    try dsimp only [cxOf, Cx.nox, Cx.wish]
    obtain ⟨t, u, a, b, rfl, ht, hu', oa, ob, q⟩ := h
    repeat walk_at "w"
    rw [bitAndN, bitAndN, bitOrN]
    have e : (!decide ((((bitsN a.wr &&& touB b ||| bitsN b.wr &&& touB a) : Nat) : Int) = 0)) = meetS a b := by
      rw [Bool.eq_iff_iff, Bool.not_eq_true', decide_eq_false_iff_not, meetS, decide_eq_true_eq, ← met_iff oa ob]
      omega
    rw [e]
    exact q
end

end J
namespace J
open PySem PySem.Spec PyProof.Rows L2
local macro_rules | `(tactic| walk_at "cls") => `(tactic| first
  | with_reducible exact Facts.cl_Step
  | with_reducible exact Facts.cl_Get
  | with_reducible exact Facts.cl_Ask
  | with_reducible exact Facts.cl_Cell
  | with_reducible exact Facts.cl_Two
  | with_reducible exact Facts.cl_Put
  | with_reducible exact Facts.cl_Tell
  | with_reducible exact Facts.cl_Store)
local macro_rules | `(tactic| walk_at "na") => `(tactic| first
  | with_reducible exact Facts.na_Get_to
  | with_reducible exact Facts.na_Get_sel
  | with_reducible exact Facts.na_Ask_to
  | with_reducible exact Facts.na_Ask_sel
  | with_reducible exact Facts.na_Cell_to
  | with_reducible exact Facts.na_Cell_source
  | with_reducible exact Facts.na_Two_to
  | with_reducible exact Facts.na_Two_op
  | with_reducible exact Facts.na_Two_one
  | with_reducible exact Facts.na_Two_other
  | with_reducible exact Facts.na_Put_sel
  | with_reducible exact Facts.na_Put_source
  | with_reducible exact Facts.na_Tell_sel
  | with_reducible exact Facts.na_Tell_source
  | with_reducible exact Facts.na_Store_at
  | with_reducible exact Facts.na_Store_source)
local macro_rules | `(tactic| walk_at "ty") => `(tactic| first
  | with_reducible exact ty_int
  | with_reducible exact ty_bl
  | with_reducible exact ty_str
  | with_reducible exact ty_non
  | ((with_reducible refine' ty_lst ?vv); (case vv => walk_at "tr"))
  | ((with_reducible refine' ty_sqT ?vv); (case vv => walk_at "tr"))
  | ((with_reducible refine' ty_dic ?vv); (case vv => walk_at "tr")))
local macro_rules | `(tactic| walk_at "ix") => `(tactic| first | exact at0 | exact at1 | exact at2 | assumption)
local macro_rules | `(tactic| walk_at "size") => `(tactic| first
  | assumption
  | (show _ < sizeLine; rw [sizeLine_eq]; (try simp only [List.length_cons, List.length_nil, List.length_append, List.length_map]); omega)
  | (show _ ≤ sizeLine; rw [sizeLine_eq]; (try simp only [List.length_cons, List.length_nil, List.length_append, List.length_map]); omega))
local macro_rules | `(tactic| walk_at "side") => `(tactic| first
  | assumption
  | ((with_reducible refine cdw ?_ ?_) <;> omega)
  | omega
  | (exact ⟨by omega, by omega⟩)
  | (exact Or.inl ⟨by omega, by omega⟩)
  | (exact Or.inr ⟨by omega, by omega⟩)
  | decide
  | (simp only [List.length_cons, List.length_nil, List.length_append, List.length_map]; omega)
  | (show _ ≤ _; decide))
local macro_rules | `(tactic| walk_at "as") => `(tactic| with_reducible assumption)
local macro_rules | `(tactic| walk_at "tr") => `(tactic| first
  | with_reducible assumption
  | with_reducible exact upd_same
  | ((with_reducible refine' SqL.of ?hh); (case hh => walk_at "as"))
  | ((with_reducible refine' SqT.of ?hh); (case hh => walk_at "as"))
  | ((with_reducible refine' Same.stm ?ee ?gg); (case ee => walk_at "as"); (case gg => walk_at "tr"))
  | ((with_reducible refine' Same.sqT ?ee ?gg); (case ee => walk_at "as"); (case gg => walk_at "tr"))
  | ((with_reducible refine' Same.sqL ?ee ?gg); (case ee => walk_at "as"); (case gg => walk_at "tr"))
  | ((with_reducible refine' Same.at ?ee ?gg); (case ee => walk_at "as"); (case gg => walk_at "tr"))
  | ((with_reducible refine' But.stm ?ee ?ff ?gg); (case ee => walk_at "as"); (case ff => walk_at "ne"); (case gg => walk_at "tr"))
  | ((with_reducible refine' But.tup ?ee ?ff ?gg); (case ee => walk_at "as"); (case ff => walk_at "tr1"); (case gg => walk_at "tr"))
  | ((with_reducible refine' But.sqT ?ee ?ff ?gg); (case ee => walk_at "as"); (case ff => walk_at "tr1"); (case gg => walk_at "tr"))
  | ((with_reducible refine' But.tupL ?ee ?ff ?gg); (case ee => walk_at "as"); (case ff => walk_at "tr1"); (case gg => walk_at "tr"))
  | ((with_reducible refine' But.sqTL ?ee ?ff ?gg); (case ee => walk_at "as"); (case ff => walk_at "tr1"); (case gg => walk_at "tr"))
  | ((with_reducible refine' But.sqL ?ee ?ff ?gg); (case ee => walk_at "as"); (case ff => walk_at "ne"); (case gg => walk_at "tr"))
  | ((with_reducible refine' But.at ?ee ?ff ?gg); (case ee => walk_at "as"); (case ff => walk_at "ne"); (case gg => walk_at "tr")))
local macro_rules | `(tactic| walk_at "ts") => `(tactic| first
  | with_reducible assumption
  | with_reducible exact TS.refl _
  | ((with_reducible refine' TS.trans ?gg (TS.of ?ee)); (case ee => walk_at "as"); (case gg => walk_at "ts"))
  | ((with_reducible refine' TS.trans ?gg (TS.butS ?ee ?ff)); (case ee => walk_at "as"); (case ff => walk_at "tr1"); (case gg => walk_at "ts"))
  | ((with_reducible refine' TS.trans ?gg (TS.butL ?ee ?ff)); (case ee => walk_at "as"); (case ff => walk_at "tr1"); (case gg => walk_at "ts"))
  | ((with_reducible refine' TS.trans ?gg (TS.butI ?ee ?ff)); (case ee => walk_at "as"); (case ff => walk_at "tr1"); (case gg => walk_at "ts")))
local macro_rules | `(tactic| walk_at "sm") => `(tactic| first
  | with_reducible assumption
  | with_reducible exact Same.refl _
  | ((with_reducible refine' Same.trans ?gg ?ee); (case ee => walk_at "as"); (case gg => walk_at "sm"))
  | ((with_reducible refine' But.new ?gg ?nn ?ee); (case ee => walk_at "as"); (case nn => walk_at "fr"); (case gg => walk_at "sm")))
local macro_rules | `(tactic| walk_at "fr") => `(tactic| first
  | with_reducible assumption
  | ((with_reducible refine' Same.back ?ee ?nn); (case nn => walk_at "as"); (case ee => walk_at "sm"))
  | ((with_reducible refine' But.back ?ee ?ff ?nn); (case nn => walk_at "as"); (case ff => walk_at "ne0"); (case ee => walk_at "bu")))
local macro_rules | `(tactic| walk_at "bu") => `(tactic| first
  | with_reducible assumption
  | with_reducible exact But.refl _ _
  | ((with_reducible refine' But.trans ?gg ?ee); (case ee => walk_at "as"); (case gg => walk_at "bu"))
  | ((with_reducible refine' But.trans ?gg (But.of ?ee)); (case ee => walk_at "as"); (case gg => walk_at "bu"))
  | ((with_reducible refine' But.new2 ?gg ?nn ?ee); (case ee => walk_at "as"); (case nn => walk_at "frB"); (case gg => walk_at "bu")))
local macro_rules | `(tactic| walk_at "frB") => `(tactic| first
  | with_reducible assumption
  | ((with_reducible refine' Same.back ?ee ?nn); (case nn => walk_at "as"); (case ee => walk_at "sm"))
  | ((with_reducible refine' But.back' ?ee ?ff ?nn); (case nn => walk_at "as"); (case ee => walk_at "bu"); (case ff => walk_at "tr1")))
local macro_rules | `(tactic| walk_at "tr1") => `(tactic| first
  | with_reducible assumption
  | ((with_reducible refine' Same.stm ?ee ?gg); (case ee => walk_at "as"); (case gg => walk_at "tr1"))
  | ((with_reducible refine' Same.at ?ee ?gg); (case ee => walk_at "as"); (case gg => walk_at "tr1"))
  | ((with_reducible refine' But.at ?ee ?ff ?gg); (case ee => walk_at "as"); (case ff => walk_at "ne0"); (case gg => walk_at "tr1"))
  | ((with_reducible refine' But.stm ?ee ?ff ?gg); (case ee => walk_at "as"); (case ff => walk_at "ne0"); (case gg => walk_at "tr1")))
local macro_rules | `(tactic| walk_at "ne0") => `(tactic| first
  | with_reducible assumption
  | (with_reducible apply Ne.symm; with_reducible assumption))
local macro_rules | `(tactic| walk_at "ne") => `(tactic| first
  | with_reducible assumption
  | (with_reducible apply Ne.symm; with_reducible assumption)
  | ((with_reducible refine' stm_ne ?hh ?nn); (case nn => walk_at "as"); (case hh => walk_at "tr1"))
  | ((with_reducible refine' ne_of_none ?hh ?nn); (case nn => walk_at "as"); (case hh => walk_at "tr1"))
  | ((with_reducible apply Ne.symm); (with_reducible refine' ne_of_none ?hh ?nn); (case nn => walk_at "as"); (case hh => walk_at "tr1")))
local macro_rules | `(tactic| walk_at "v") => `(tactic| first
  | with_reducible refine w_seq ?_
  | ((with_reducible refine' w_var ?vv ?_); (case vv => exact rfl))
  | with_reducible refine w_c ?_
  | with_reducible refine w_op ?_
  | with_reducible refine w_asg ?_
  | with_reducible refine w_gName ?_
  | with_reducible refine w_ret ?_
  | with_reducible refine w_ifS ?_
  | with_reducible refine w_drop ?_
  | with_reducible refine w_next ?_
  | with_reducible refine w_cons ?_
  | with_reducible refine w_nil ?_
  | with_reducible refine w_call ?_
  | with_reducible refine w_cb ?_
  | with_reducible refine w_rI0 ?_
  | with_reducible refine w_addI ?_
  | with_reducible refine w_eqI ?_
  | with_reducible refine w_neI ?_
  | with_reducible refine w_eqS ?_
  | with_reducible refine w_neS ?_
  | with_reducible refine w_eqB ?_
  | with_reducible refine w_neB ?_
  | with_reducible refine w_chain ?_
  | with_reducible refine w_test ?_
  | with_reducible refine w_tB ?_
  | with_reducible refine w_bl ?_
  | ((with_reducible refine' w_mulI ?vv ?_); (case vv => walk_at "side"))
  | ((with_reducible refine' w_rI ?vv ?_); (case vv => walk_at "side"))
  | with_reducible refine w_int1 ?_
  | with_reducible refine w_int1b ?_
  | with_reducible refine w_tup ?_
  | with_reducible refine w_lst ?_
  | with_reducible refine w_un ?_
  | with_reducible refine w_rU ?_
  | with_reducible refine w_not ?_
  | with_reducible refine w_notV ?_
  | with_reducible refine w_ifE ?_
  | with_reducible refine w_nT ?_
  | with_reducible refine w_nF ?_
  | with_reducible refine iteT ?_
  | with_reducible refine iteF ?_
  | ((with_reducible refine' w_ixT ?vv ?ww ?_); (case vv => walk_at "tr"); (case ww => walk_at "ix"))
  | ((with_reducible refine' w_ixL ?vv ?ww ?_); (case vv => walk_at "tr"); (case ww => walk_at "ix"))
  | with_reducible refine w_gSub ?_
  | ((with_reducible refine' w_setL ?vv ?ww ?_); (case vv => walk_at "tr"); (case ww => first | rfl | decide | assumption))
  | ((with_reducible refine' w_lenL ?vv ?_); (case vv => walk_at "tr"))
  | ((with_reducible refine' w_lenT ?vv ?_); (case vv => walk_at "tr"))
  | with_reducible refine w_max2 ?_
  | with_reducible refine w_max3 ?_
  | with_reducible refine w_din ?_
  | with_reducible refine w_dnotin ?_
  | with_reducible refine w_dput ?_
  | with_reducible refine w_min2 ?_
  | with_reducible refine w_bm ?_
  | with_reducible refine w_bm0 ?_
  | ((with_reducible refine' w_tyL ?vv ?_); (case vv => walk_at "tr"))
  | ((with_reducible refine' w_append ?vv ?ww ?_); (case vv => walk_at "tr"); (case ww => walk_at "size"))
  | ((with_reducible refine' w_size ?vv ?_); (case vv => walk_at "size"))
  | with_reducible refine w_forL ?_
  | with_reducible refine w_forT ?_
  | with_reducible refine w_forR1 ?_
  | with_reducible refine w_forR2 ?_
  | with_reducible refine w_lcL ?_
  | with_reducible refine w_lcT ?_
  | with_reducible refine w_lcR1 ?_
  | with_reducible refine w_yes ?_
  | with_reducible refine w_sl ?_
  | with_reducible refine w_noPart ?_
  | with_reducible refine w_part ?_
  | with_reducible refine w_int ?_
  | ((with_reducible refine' w_slL ?vv ?_); (case vv => walk_at "tr"))
  | ((with_reducible refine' w_seqL ?vv ?ww ?_); (case vv => walk_at "tr"); (case ww => rfl))
  | ((with_reducible refine' w_seqT ?vv ?ww ?_); (case vv => walk_at "tr"); (case ww => rfl))
  | with_reducible refine w_gNil ?_
  | with_reducible refine w_gCons ?_
  | with_reducible refine w_forZ ?_
  | with_reducible refine w_forM ?_
  | with_reducible refine w_forE ?_
  | with_reducible refine w_forV ?_
  | with_reducible refine w_lcZ ?_
  | with_reducible refine w_lcE ?_
  | ((with_reducible refine' w_isi (b := true) ?vv ?ww ?_); (case vv => walk_at "ty"); (case ww => decide +kernel))
  | ((with_reducible refine' w_isi (b := false) ?vv ?ww ?_); (case vv => walk_at "ty"); (case ww => decide +kernel))
  | with_reducible refine w_revL ?_
  | with_reducible refine w_pairN ?_
  | with_reducible refine w_pairC ?_
  | with_reducible refine w_dget ?_
  | with_reducible refine w_met ?_
  | ((with_reducible refine' w_metAt ?vv ?ww ?_); (case vv => walk_at "tr"); (case ww => rfl))
  | with_reducible refine w_mkI ?_
  | with_reducible refine w_fld ?_
  | ((with_reducible refine' w_fldAt ?vv ?cc ?nn ?ww ?_); (case vv => walk_at "tr"); (case cc => walk_at "cls"); (case nn => walk_at "na"); (case ww => rfl))
  | with_reducible refine w_sfld ?_
  | ((with_reducible refine' w_sfldAt ?vv ?cc ?nn ?ll ?ee ?_); (case vv => walk_at "tr"); (case cc => walk_at "cls"); (case nn => walk_at "na"); (case ll => simp); (case ee => rfl))
  | ((with_reducible refine' w_tupL ?vv ?_); (case vv => walk_at "tr"))
  | ((with_reducible refine' w_tupT ?vv ?_); (case vv => walk_at "tr"))
  | ((with_reducible refine' w_listL ?vv ?_); (case vv => walk_at "tr"))
  | ((with_reducible refine' w_listT ?vv ?_); (case vv => walk_at "tr"))
  | with_reducible refine w_tyS ?_
  | with_reducible refine w_lcZM ?_
  | with_reducible refine w_js ?_
  | with_reducible refine w_jsN ?_
  | ((with_reducible refine' w_jsP ?vv ?_); (case vv => walk_at "size"))
  | with_reducible refine w_fmt ?_
  | with_reducible refine w_forRR ?_
  | with_reducible refine w_retN ?_
  | with_reducible refine w_break ?_
  | with_reducible refine w_cont ?_)
local macro_rules | `(tactic| walk_at "w") => `(tactic| first
  | walk_at "v"
  | with_reducible refine w_or ?_
  | with_reducible refine w_and ?_
  | with_reducible refine w_andV ?_
  | with_reducible refine w_orV ?_)
local macro_rules | `(tactic| walk_at "wd") => `(tactic| first
  | walk_at "w"
  | ((with_reducible refine' w_decT ?vv ?_); (case vv => decide +kernel))
  | ((with_reducible refine' w_decF ?vv ?_); (case vv => decide +kernel)))
local macro_rules | `(tactic| walk_at "tz") => `(tactic| (intro S z; (repeat walk_at "w"); exact z))
local macro_rules | `(tactic| walk_at "wf") => `(tactic| first
  | walk_at "wd"
  | ((with_reducible refine' w_decF ?vv ?_); (case vv => with_reducible assumption)))
/-! ### k23: the law's own look at steps -/
def innD (d : PyData) : Option Nat := match d with
  | .tuple [.str s, .int n] => if s = ("in" : Str) then some n.toNat else none
  | _ => none
theorem innD_src (c : Src) : innD c.d = c.inn? := by
  cases c with
  | inn n => show (if ("in" : Str) = ("in" : Str) then some ((n : Int)).toNat else none) = some n; rw [if_pos rfl, Int.toNat_natCast]
  | num n => show (if ("number" : Str) = ("in" : Str) then some ((n : Int)).toNat else none) = none; exact if_neg (by decide +kernel)
  | fld n => show (if ("field" : Str) = ("in" : Str) then some ((n : Int)).toNat else none) = none; exact if_neg (by decide +kernel)
theorem innD_sel (l : Sel) : innD l.d = none := by
  obtain ⟨b, n⟩ := l
  cases b with
  | true => show (if ("by" : Str) = ("in" : Str) then some ((n : Int)).toNat else none) = none; exact if_neg (by decide +kernel)
  | false => show (if ("is" : Str) = ("in" : Str) then some ((n : Int)).toNat else none) = none; exact if_neg (by decide +kernel)
theorem innD_args (s : Stp) : (PyData.str s.tag :: s.args).filterMap innD = s.srcs.filterMap Src.inn? := by
  have i : ∀ n : Int, innD (.int n) = none := fun _ => rfl
  have t : ∀ n : Str, innD (.str n) = none := fun _ => rfl
  cases s <;> simp [Stp.args, Stp.srcs, List.filterMap_cons, innD_src, innD_sel, i, t]
theorem args_kind {s : Stp} (h : s.ok) : ∀ d ∈ PyData.str s.tag :: s.args, (∃ n : Int, d = .int n) ∨ (∃ o, d = .str o) ∨ (∃ l : Sel, d = l.d) ∨ ∃ c : Src, d = c.d ∧ c.ok := by
  intro d hd
  have h1 := h.1
  rcases List.mem_cons.mp hd with rfl | hd
  · exact .inr (.inl ⟨_, rfl⟩)
  · cases s <;> simp only [Stp.args, List.mem_cons, List.not_mem_nil, or_false] at hd <;> (try rcases hd with rfl | rfl | rfl | rfl) <;> (try rcases hd with rfl | rfl) <;>
      first | exact .inl ⟨_, rfl⟩ | exact .inr (.inl ⟨_, rfl⟩) | exact .inr (.inr (.inl ⟨_, rfl⟩)) | exact .inr (.inr (.inr ⟨_, rfl, h1 _ (by simp [Stp.srcs])⟩))
theorem chg_kind (s : Stp) : (∃ n r, s.chg = [n] ∧ s.args = .int ((n : Nat) : Int) :: r ∧ decide (s.tag ∈ ([("get" : Str), "ask", "cell", "two"] : List Str)) = true) ∨ (s.chg = [] ∧ decide (s.tag ∈ ([("get" : Str), "ask", "cell", "two"] : List Str)) = false) := by
  cases s <;> first | exact .inl ⟨_, _, rfl, rfl, decide_eq_true (by simp only [Stp.tag]; decide +kernel)⟩ | exact .inr ⟨rfl, decide_eq_false (by simp only [Stp.tag]; decide +kernel)⟩
theorem way_kind (s : Stp) : decide (s.tag = ("two" : Str)) = !s.way := by
  cases s <;> first | exact decide_eq_false (by simp only [Stp.tag]; decide +kernel) | exact decide_eq_true rfl
theorem pn_mem {p : Option Nat} {L : List (Option Nat)} (hp : ∀ n, p = some n → n ≤ 7) (hL : LowP L) : decide (pn p ∈ L.map pn) = decide (p ∈ L) := by
  rw [decide_eq_decide, List.mem_map]
  exact ⟨fun ⟨q, h, e⟩ => by rw [← pn_inj (fun n z => hL n (z ▸ h)) hp e]; exact h, fun h => ⟨p, h, rfl⟩⟩
theorem rs_len : ∀ n : Nat, n ≤ 7 → ("r" : Str).length + (toString ((n : Nat) : Int) : Str).length ≤ 100 := by decide +kernel
theorem rn_ok : ∀ n, n ≤ 7 → PyData.strOk (rn n) = true := by decide +kernel
theorem pn_ok {p : Option Nat} (hp : ∀ n, p = some n → n ≤ 7) : PyData.strOk (pn p) = true := by
  cases p with
  | none => decide +kernel
  | some n => exact rn_ok n (hp n rfl)
theorem pns_ok {L : List (Option Nat)} (hL : LowP L) : ((L.map pn).all PyData.strOk) = true := by
  rw [List.all_eq_true]
  intro t ht
  obtain ⟨p, hp, rfl⟩ := List.mem_map.mp ht
  exact pn_ok fun n z => hL n (z ▸ hp)
def spLTou (K : PySem.W.Frag) : Sp := fun vs H Q _ => ∃ (v : V) (s : Stp), vs = [v] ∧ Dp K H v s.d ∧ s.ok ∧ ∀ t a b H', H' t = some (.tup [.ref a, .ref b]) → H' a = some (.lst ((s.rd.map pn).map V.str)) → H' b = some (.lst ((s.wr.map pn).map V.str)) → Same H H' → Q (.ref t) H'
theorem len_law_touched {K : PySem.W.Frag} {vs H Q E} (h : spLTou K vs H Q E) : vs.length = 1 := by obtain ⟨_, _, rfl, _⟩ := h; rfl
def spLMeet (K : PySem.W.Frag) : Sp := fun vs H Q _ => ∃ (v u : V) (a b : Stp), vs = [v, u] ∧ Dp K H v a.d ∧ Dp K H u b.d ∧ a.ok ∧ b.ok ∧ ∀ H', Same H H' → Q (.bl (meetS a b)) H'
theorem len_law_meet {K : PySem.W.Frag} {vs H Q E} (h : spLMeet K vs H Q E) : vs.length = 2 := by obtain ⟨_, _, _, _, rfl, _⟩ := h; rfl
section
variable {P : Program} {w : World} {K : PySem.W.Frag} {mg : Str → Option Value}
theorem ok_law_touched [c : Facts K mg] [ct : FactsT w K] : XL.Fn P w K mg "_law_touched" 1 ["told"] ((spLTou K)) := by
  obtain ⟨fd, F⟩ := c.d_law_touched
  refine XL.Fn.mk' F c.g_law_touched sc_law_touched (k := 0) (fun vs H Q E h => ?_) (fun _ _ _ _ _ _ us hl => match us, hl with | [_], _ => rfl) (fun base cdv A outer s H vs Q E hr h => ?_)
  · exact len_law_touched h
  · have nd := sc_law_touched.nd
    have hu := hu_of hr.r
    refine ⟨_, (PSs.nox (pss_cons (ps_setLc (i := 1) (own := [("part", 3)]) rfl nd rfl rfl (sw_true rfl rfl rfl (by decide +kernel)) (pi_tup (pv 0)) (blkOk_by (N := N_law_touched) (sc := defScope s_law_touched) (by decide +kernel)) (fun _ _ _ _ _ => (pg_name (i := 3) nd rfl (Or.inl rfl))) (fun _ _ _ _ _ => pts_one (PW.pt (pw_and (pt_val (pe_callB (call_isiA (K := K) rfl) (by rfl) c.f_isinstance boot_isinstance (pa_cons (pv 3) (pa_cons (pe_bltn (v := .ty "tuple") (by rfl) c.f_tuple boot_tuple rfl) pa_nil)))) (pw_and1 (pt_cmpR (op_eqA (K := K) rfl hr.units) (pe_ix (ix_any (K := K) rfl) (pv 3) pe_int (fun _ _ => rfl)) pe_str (nomark _)))))) (fun _ _ _ _ _ => (pe_op (op_addA (K := K) rfl) pe_str (pe_callTy call_strA (by rfl) c.f_str boot_str (pa_cons (pe_ix (ix_any (K := K) rfl) (pv 3) pe_int (fun _ _ => rfl)) pa_nil)))))
      (pss_cons (ps_set (i := 2) nd rfl (Or.inl rfl) (pe_lst pa_nil))
      (pss_cons (ps_if (pt_cmpR (op_inA (K := K) rfl) (pe_ix (ix_any (K := K) rfl) (pv 0) pe_int (fun _ _ => rfl)) (pe_tup (pa_cons pe_str (pa_cons pe_str (pa_cons pe_str (pa_cons pe_str pa_nil))))) (by rfl)) (pss_one (ps_expr (pe_bm PySem.F.plainAttrs_list PySem.F.slot_list_append PySem.F.type_list_append mt_append (pv 2) (pa_cons (pe_op (op_addA (K := K) rfl) pe_str (pe_callTy call_strA (by rfl) c.f_str boot_str (pa_cons (pe_ix (ix_any (K := K) rfl) (pv 0) pe_int (fun _ _ => rfl)) pa_nil))) pa_nil)))) pss_nil)
      (pss_cons (ps_if (pt_cmpR (op_neA (K := K) rfl hr.units) (pe_ix (ix_any (K := K) rfl) (pv 0) pe_int (fun _ _ => rfl)) pe_str (nomark _)) (pss_cons (ps_expr (pe_bm PySem.F.plainAttrs_list PySem.F.slot_list_append PySem.F.type_list_append mt_append (pv 1) (pa_cons pe_str pa_nil)))
      (pss_one (ps_expr (pe_bm PySem.F.plainAttrs_list PySem.F.slot_list_append PySem.F.type_list_append mt_append (pv 2) (pa_cons pe_str pa_nil))))) pss_nil)
      (pss_one (ps_ret (pe_tup (pa_cons (pv 1) (pa_cons (pv 2) pa_nil)))))))))), ?_⟩
    try dsimp only [cxOf, Cx.nox, Cx.wish]
    obtain ⟨v, s, rfl, hv, ok, q⟩ := h
    obtain ⟨a, us, rfl, ha, hus⟩ := tp_n hv
    have hz : sizeLine = 16777216 := sizeLine_eq
    have hul := dpa_len hus
    have hal := args_len s
    have hall : DpAll K H (.str s.tag :: us) (.str s.tag :: s.args) := .cons (.str _) hus
    have tupA : tupAll (PyData.str s.tag :: s.args) = true := by rw [tupAll, args_tup]; rfl
    repeat walk_at "w"
    refine lc_T (.str s.tag :: us) (fun D j ys H' => Same H H' ∧ ys = ((((PyData.str s.tag :: s.args).take j).filterMap innD).map rn).map V.str) ha (fun D H' hD e f => ⟨e, rfl⟩) (fun D hD j ys H' hj hy hp => hp.1.sqT ha) (fun D hD j x ys H' hx hll hy hp => ?_) (fun D hD ys H2 hll hy hp => ?_)
    · obtain ⟨e, rfl⟩ := hp
      obtain ⟨d, hd1, hd2⟩ := dpa_at' (dpAll_ts (TS.of e) _ _ tupA hall) hx
      have hm := List.mem_of_getElem? hd1
      have sz : (((((PyData.str s.tag :: s.args).take j).filterMap innD).map rn).map V.str).length < sizeLine := by
        rw [hz, List.length_map, List.length_map]
        have := List.length_filterMap_le innD ((PyData.str s.tag :: s.args).take j)
        rw [List.length_take, List.length_cons] at this
        omega
      have skip : innD d = none → LcSkip D (fun j ys H' => Same H H' ∧ ys = ((((PyData.str s.tag :: s.args).take j).filterMap innD).map rn).map V.str) j H' := fun h => lc_skip hy hll ⟨e, by
        rw [tk_snoc hd1, List.filterMap_append]; simp [h]⟩
      rcases args_kind ok d hm with ⟨n, rfl⟩ | ⟨o, rfl⟩ | ⟨l, rfl⟩ | ⟨c, rfl, oc⟩
      · cases dp_int hd2
        repeat walk_at "w"
        exact skip rfl
      · cases dp_str hd2
        repeat walk_at "w"
        exact skip rfl
      · obtain ⟨t, u, rfl, ht, hu'⟩ := tp_1 hd2
        repeat walk_at "w"
        have ne : ¬ l.tag = ("in" : Str) := by obtain ⟨b, n⟩ := l; cases b <;> (simp only [Sel.tag, if_true, if_false, Bool.false_eq_true]; decide +kernel)
        rw [decide_eq_false ne]
        repeat walk_at "w"
        exact skip (innD_sel l)
      · obtain ⟨t, u, rfl, ht, hu'⟩ := tp_1 hd2
        cases dp_int hu'
        have hi := innD_src c
        repeat walk_at "w"
        cases c with
        | inn n =>
          have n7 : n ≤ 7 := oc
          rw [decide_eq_true (show (Src.inn n).tag = ("in" : Str) from rfl)]
          repeat walk_at "w"
          refine w_strI (log_small (n := n) (by omega)) ?_
          refine w_addS (by rw [hz]; exact Nat.le_trans (rs_len n n7) (by decide)) ?_
          refine lc_end hy hll sz fun H4 e4 f4 => ⟨But.new e hD e4, ?_⟩
          rw [tk_snoc hd1, List.filterMap_append]
          simp only [List.filterMap_cons, hi, List.filterMap_nil, List.map_append, List.map_cons, List.map_nil, Src.inn?]
          rfl
        | num n =>
          rw [decide_eq_false (show ¬ (Src.num n).tag = ("in" : Str) by show ¬ ("number" : Str) = "in"; decide +kernel)]
          repeat walk_at "w"
          exact skip hi
        | fld n =>
          rw [decide_eq_false (show ¬ (Src.fld n).tag = ("in" : Str) by show ¬ ("field" : Str) = "in"; decide +kernel)]
          repeat walk_at "w"
          exact skip hi
    · obtain ⟨e, rfl⟩ := hp
      rw [List.length_cons, hul, ← List.length_cons (a := PyData.str s.tag), List.take_length, innD_args] at hy
      repeat walk_at "w"
      have sq : Same H H2 := e
      refine w_new fun W H3 n3 s3 f3 => ?_
      repeat walk_at "w"
      have ha3 := s3.sqT (e.sqT ha)
      have hus3 := dpAll_ts (TS.of (e.trans s3)) _ _ (args_tup s) hus
      repeat walk_at "w"
      refine w_new fun T H4 n4 s4 f4 => ?_
      refine w_inST (ys := ["get", "ask", "cell", "two"]) (SqT.of f4) ?_
      have ha4 := s4.sqT ha3
      have hD4 := s4 _ _ (s3 _ _ hy)
      have hW4 := s4 _ _ f3
      have nDW : D ≠ W := ne_of_none hy n3
      have nDH : H D = none := hD
      have nWH : H W = none := e.free n3
      have e4 : Same H H4 := e.trans (s3.trans s4)
      rw [rd_pn] at q
      rw [wr_pn] at q
      have wk := way_kind s
      have fl : (s.srcs.filterMap Src.inn?).length ≤ 2 := Nat.le_trans (List.length_filterMap_le _ _) (srcs_len s)
      have cl := chg_len s
      repeat walk_at "w"
      rcases chg_kind s with ⟨n, r, hc, hargs, ht⟩ | ⟨hc, ht⟩
      · have n7 : n ≤ 7 := ok.2.2.1 n (by rw [hc]; exact List.mem_cons_self)
        rw [hargs] at hus3
        obtain ⟨u0, us, rfl, h0, hus4⟩ := dpa_cons hus3
        cases dp_int h0
        rw [ht]
        repeat walk_at "w"
        refine w_strI (log_small (n := n) (by omega)) ?_
        refine w_addS (by rw [hz]; exact Nat.le_trans (rs_len n n7) (by decide)) ?_
        repeat walk_at "w"
        try refine w_append hW4 (by rw [hz]; simp) ?_
        refine w_chg fun H5 e5 f5 => ?_
        have hD5 := e5 _ _ nDW hD4
        have e5' : Same H H5 := But.new e4 nWH e5
        have ha5 : SqT K H5 a (.str s.tag :: .int (n : Nat) :: us) := e5.sqTL hW4 ha4
        have hW5 : H5 W = some (.lst ((s.chg.map rn).map V.str)) := by rw [hc]; exact f5
        cases hw2 : s.way with
        | true =>
          rw [hw2, Bool.not_true] at wk
          rw [hw2] at q
          repeat walk_at "w"
          rw [wk]
          repeat walk_at "w"
          try refine w_append hD5 (by rw [hz, List.length_map, List.length_map]; omega) ?_
          refine w_chg fun H7 e7 f7 => ?_
          have hW7 := e7 _ _ nDW.symm hW5
          repeat walk_at "w"
          try refine w_append hW7 (by rw [hz, List.length_map, List.length_map]; omega) ?_
          refine w_chg fun H8 e8 f8 => ?_
          have hD8 := e8 _ _ nDW f7
          repeat walk_at "w"
          refine w_new fun R H9 n9 s9 f9 => ?_
          refine q R D W H9 f9 ?_ ?_ ((But.new (But.new e5' nDH e7) nWH e8).trans s9)
          · rw [if_pos rfl, List.map_append]; exact s9 _ _ hD8
          · rw [if_pos rfl, List.map_append]; exact s9 _ _ f8
        | false =>
          rw [hw2, Bool.not_false] at wk
          rw [hw2] at q
          repeat walk_at "w"
          rw [wk]
          repeat walk_at "w"
          refine w_new fun R H9 n9 s9 f9 => ?_
          refine q R D W H9 f9 ?_ ?_ (e5'.trans s9)
          · rw [if_neg (by decide), List.append_nil]; exact s9 _ _ hD5
          · rw [if_neg (by decide), List.append_nil]; exact s9 _ _ hW5
      · rw [ht]
        have hW4' : H4 W = some (.lst ((s.chg.map rn).map V.str)) := by rw [hc]; exact hW4
        cases hw2 : s.way with
        | true =>
          rw [hw2, Bool.not_true] at wk
          rw [hw2] at q
          repeat walk_at "w"
          rw [wk]
          repeat walk_at "w"
          try refine w_append hD4 (by rw [hz, List.length_map, List.length_map]; omega) ?_
          refine w_chg fun H7 e7 f7 => ?_
          have hW7 := e7 _ _ nDW.symm hW4'
          repeat walk_at "w"
          try refine w_append hW7 (by rw [hz, List.length_map, List.length_map]; omega) ?_
          refine w_chg fun H8 e8 f8 => ?_
          have hD8 := e8 _ _ nDW f7
          repeat walk_at "w"
          refine w_new fun R H9 n9 s9 f9 => ?_
          refine q R D W H9 f9 ?_ ?_ ((But.new (But.new e4 nDH e7) nWH e8).trans s9)
          · rw [if_pos rfl, List.map_append]; exact s9 _ _ hD8
          · rw [if_pos rfl, List.map_append]; exact s9 _ _ f8
        | false =>
          rw [hw2, Bool.not_false] at wk
          rw [hw2] at q
          repeat walk_at "w"
          rw [wk]
          repeat walk_at "w"
          refine w_new fun R H9 n9 s9 f9 => ?_
          refine q R D W H9 f9 ?_ ?_ (e4.trans s9)
          · rw [if_neg (by decide), List.append_nil]; exact s9 _ _ hD4
          · rw [if_neg (by decide), List.append_nil]; exact s9 _ _ hW4'
theorem ok_law_meet [c : Facts K mg] [ct : FactsT w K] (G__law_touched : XL.Fn P w K mg "_law_touched" 1 ["told"] ((spLTou K))) : XL.Fn P w K mg "_law_meet" 2 ["one", "other"] ((spLMeet K)) := by
  obtain ⟨fd, F⟩ := c.d_law_meet
  refine XL.Fn.mk' F c.g_law_meet sc_law_meet (k := 1) (fun vs H Q E h => ?_) (fun _ _ _ _ _ _ us hl => match us, hl with | [_, _], _ => rfl) (fun base cdv A outer s H vs Q E hr h => ?_)
  · exact len_law_meet h
  · have nd := sc_law_meet.nd
    have hu := hu_of hr.r
    have hr__law_touched : XL.Rm 1 _ := hr.mono (by omega)
    refine ⟨_, (PSs.nox (pss_cons (ps_set (i := 2) nd rfl (Or.inr rfl) (XL.pe_fn G__law_touched hr__law_touched (by rfl) (pa_cons (pv 0) pa_nil)))
      (pss_cons (ps_set (i := 3) nd rfl (Or.inr rfl) (XL.pe_fn G__law_touched hr__law_touched (by rfl) (pa_cons (pv 1) pa_nil)))
      (pss_cons (ps_if (pt_cmpR (op_neA (K := K) rfl hr.units) (pe_lc (own := [("place", 4)]) rfl nd (pi_list (pe_ix (ix_any (K := K) rfl) (pv 2) pe_int (fun _ _ => rfl))) (blkOk_by (N := N_law_meet) (sc := defScope s_law_meet) (by decide +kernel)) (fun _ _ _ _ _ => (pg_name (i := 4) nd rfl (Or.inl rfl))) (fun _ _ _ _ _ => pts_one (pt_cmpR (op_inA (K := K) rfl) (pv 4) (pe_op (op_addA (K := K) rfl) (pe_ix (ix_any (K := K) rfl) (pv 3) pe_int (fun _ _ => rfl)) (pe_ix (ix_any (K := K) rfl) (pv 3) pe_int (fun _ _ => rfl))) (by rfl))) (fun _ _ _ _ _ => (pv 4))) (pe_lst pa_nil) (nomark _)) (pss_one (ps_ret pe_bl)) pss_nil)
      (pss_one (ps_ret (pe_cmpR (op_neA (K := K) rfl hr.units) (pe_lc (own := [("place", 4)]) rfl nd (pi_list (pe_ix (ix_any (K := K) rfl) (pv 3) pe_int (fun _ _ => rfl))) (blkOk_by (N := N_law_meet) (sc := defScope s_law_meet) (by decide +kernel)) (fun _ _ _ _ _ => (pg_name (i := 4) nd rfl (Or.inl rfl))) (fun _ _ _ _ _ => pts_one (pt_cmpR (op_inA (K := K) rfl) (pv 4) (pe_ix (ix_any (K := K) rfl) (pv 2) pe_int (fun _ _ => rfl)) (by rfl))) (fun _ _ _ _ _ => (pv 4))) (pe_lst pa_nil) (nomark _)))))))), ?_⟩
    try dsimp only [cxOf, Cx.nox, Cx.wish]
    obtain ⟨v, u, a, b, rfl, hv, hu', oa, ob, q⟩ := h
    have hz : sizeLine = 16777216 := sizeLine_eq
    repeat walk_at "w"
    refine ⟨v, a, rfl, hv, oa, fun t1 r1 w1 H1 ht1 hr1 hw1 s1 => ?_⟩
    repeat walk_at "w"
    refine ⟨u, b, rfl, dp_ts (TS.of s1) _ _ (stp_tup b) hu', ob, fun t2 r2 w2 H2 ht2 hr2 hw2 s2 => ?_⟩
    have s12 := s1.trans s2
    have ht12 := s2 _ _ ht1
    have hr12 := s2 _ _ hr1
    have hw12 := s2 _ _ hw1
    have la := rd_len a
    have lb := rd_len b
    have lwa := wr_len a
    have lwb := wr_len b
    repeat walk_at "w"
    have m1 : ∀ p ∈ a.wr, decide (pn p ∈ b.rd.map pn ++ b.wr.map pn) = decide (p ∈ b.rd ∨ p ∈ b.wr) := fun p hp => by
      rw [← List.map_append, pn_mem (fun n z => a.wr_ok oa n (z ▸ hp)) (fun n h => (List.mem_append.mp h).elim (b.rd_ok ob n) (b.wr_ok ob n)), decide_eq_decide, List.mem_append]
    have m2 : ∀ p ∈ b.wr, decide (pn p ∈ a.rd.map pn) = decide (p ∈ a.rd) := fun p hp => pn_mem (fun n z => b.wr_ok ob n (z ▸ hp)) fun n h => a.rd_ok oa n h
    refine lc_L ((a.wr.map pn).map V.str) (fun D j ys H' => Same H2 H' ∧ ys = (((a.wr.take j).filter fun p => decide (p ∈ b.rd ∨ p ∈ b.wr)).map pn).map V.str) (SqL.of hw12) (fun D H' hD e f => ⟨e, rfl⟩) (fun D hD j ys H' hj hy hp => SqL.of (hp.1 _ _ hw12)) (fun D hD j x ys H' hx hll hy hp => ?_) (fun D hD ys H3 hll hy hp => ?_)
    · obtain ⟨e, rfl⟩ := hp
      rw [List.getElem?_map] at hx
      obtain ⟨tx, hx', rfl⟩ := Option.map_eq_some_iff.mp hx
      rw [List.getElem?_map] at hx'
      obtain ⟨p, hp, rfl⟩ := Option.map_eq_some_iff.mp hx'
      have hr2' := e _ _ hr2
      have hw2' := e _ _ hw2
      repeat walk_at "w"
      refine w_addL hr2' hw2' (by rw [hz]; simp only [List.length_map]; omega) ?_
      refine w_new fun Z H4 n4 s4 f4 => ?_
      refine w_inSL (ys := b.rd.map pn ++ b.wr.map pn) (SqL.of (by rw [List.map_append]; exact f4)) ?_
      have hy4 := s4 _ _ hy
      rw [m1 p (List.mem_of_getElem? hp)]
      refine ⟨_, rfl, ?_⟩
      refine ite2 (fun hk => ?_) (fun hk => ?_)
      · repeat walk_at "w"
        refine lc_end hy4 hll (by rw [hz, List.length_map, List.length_map]; have := List.length_filter_le (fun p => decide (p ∈ b.rd ∨ p ∈ b.wr)) (a.wr.take j); rw [List.length_take] at this; omega) fun H5 e5 f5 => ⟨But.new (e.trans s4) hD e5, ?_⟩
        rw [tk_snoc hp, List.filter_append, List.filter_cons, if_pos hk, List.filter_nil, List.map_append, List.map_append]; rfl
      · refine lc_skip hy4 hll ⟨e.trans s4, ?_⟩
        rw [tk_snoc hp, List.filter_append, List.filter_cons, if_neg hk, List.filter_nil, List.append_nil]
    · obtain ⟨e, rfl⟩ := hp
      rw [List.length_map, List.length_map, List.take_length] at hy
      repeat walk_at "w"
      refine w_new fun z0 H4 n4 s4 f4 => ?_
      have hy4 := s4 _ _ hy
      refine w_neSL (SqL.of hy4) (SqL.of (show H4 z0 = some (.lst (([] : List Str).map V.str)) from f4)) (pns_ok fun n h => a.wr_ok oa n (List.mem_filter.mp h).1) rfl ?_
      repeat walk_at "w"
      have fil : ∀ (L : List (Option Nat)) (f : Option Nat → Bool), ((L.filter f).map pn = []) ↔ ¬ ∃ p, p ∈ L ∧ f p = true := fun L f => by
        rw [List.map_eq_nil_iff, List.filter_eq_nil_iff]
        exact ⟨fun h ⟨p, a, b⟩ => h p a b, fun h p a b => h ⟨p, a, b⟩⟩
      refine ite2 (fun hk => ?_) (fun hk => ?_)
      · rw [Bool.not_eq_true', decide_eq_false_iff_not, fil, Classical.not_not] at hk
        obtain ⟨p, h1, h2⟩ := hk
        have me : meetS a b = true := decide_eq_true (.inl ⟨p, h1, of_decide_eq_true h2⟩)
        repeat walk_at "w"
        rw [← me]
        exact q H4 (s12.trans (e.trans s4))
      · rw [Bool.not_eq_true', decide_eq_false_iff_not, fil, Classical.not_not] at hk
        have hw24 := s4 _ _ (e _ _ hw2)
        have hr14 := s4 _ _ (e _ _ hr12)
        have s24 := e.trans s4
        have ht14 := s24 _ _ ht12
        have ht24 := s24 _ _ ht2
        repeat walk_at "w"
        refine lc_L ((b.wr.map pn).map V.str) (fun D j ys H' => Same H4 H' ∧ ys = (((b.wr.take j).filter fun p => decide (p ∈ a.rd)).map pn).map V.str) (SqL.of hw24) (fun D H' hD e f => ⟨e, rfl⟩) (fun D hD j ys H' hj hy hp => SqL.of (hp.1 _ _ hw24)) (fun D hD j x ys H' hx hll hy hp => ?_) (fun D hD ys H5 hll hy hp => ?_)
        · obtain ⟨e', rfl⟩ := hp
          rw [List.getElem?_map] at hx
          obtain ⟨tx, hx', rfl⟩ := Option.map_eq_some_iff.mp hx
          rw [List.getElem?_map] at hx'
          obtain ⟨p, hp, rfl⟩ := Option.map_eq_some_iff.mp hx'
          have hr1' := e' _ _ hr14
          have ht1' := e' _ _ ht14
          repeat walk_at "w"
          refine w_inSL (ys := a.rd.map pn) (SqL.of hr1') ?_
          rw [m2 p (List.mem_of_getElem? hp)]
          refine ⟨_, rfl, ?_⟩
          refine ite2 (fun hk => ?_) (fun hk => ?_)
          · repeat walk_at "w"
            refine lc_end hy hll (by rw [hz, List.length_map, List.length_map]; have := List.length_filter_le (fun p => decide (p ∈ a.rd)) (b.wr.take j); rw [List.length_take] at this; omega) fun H5 e5 f5 => ⟨But.new e' hD e5, ?_⟩
            rw [tk_snoc hp, List.filter_append, List.filter_cons, if_pos hk, List.filter_nil, List.map_append, List.map_append]; rfl
          · refine lc_skip hy hll ⟨e', ?_⟩
            rw [tk_snoc hp, List.filter_append, List.filter_cons, if_neg hk, List.filter_nil, List.append_nil]
        · obtain ⟨e', rfl⟩ := hp
          rw [List.length_map, List.length_map, List.take_length] at hy
          repeat walk_at "w"
          refine w_new fun z0 H6 n6 s6 f6 => ?_
          have hy6 := s6 _ _ hy
          refine w_neSL (SqL.of hy6) (SqL.of (show H6 z0 = some (.lst (([] : List Str).map V.str)) from f6)) (pns_ok fun n h => b.wr_ok ob n (List.mem_filter.mp h).1) rfl ?_
          have me : (!decide ((b.wr.filter fun p => decide (p ∈ a.rd)).map pn = [])) = meetS a b := by
            rw [Bool.eq_iff_iff, Bool.not_eq_true', decide_eq_false_iff_not, fil, Classical.not_not, meetS, decide_eq_true_eq]
            constructor
            · rintro ⟨p, h1, h2⟩
              exact .inr ⟨p, h1, of_decide_eq_true h2⟩
            · rintro (⟨p, h1, h2⟩ | ⟨p, h1, h2⟩)
              · exact (hk ⟨p, h1, decide_eq_true h2⟩).elim
              · exact ⟨p, h1, decide_eq_true h2⟩
          rw [me]
          exact q H6 (s12.trans (s24.trans (e'.trans s6)))
end

end J
namespace J
open PySem PySem.Spec PyProof.Rows L2
local macro_rules | `(tactic| walk_at "cls") => `(tactic| first
  | with_reducible exact Facts.cl_Step
  | with_reducible exact Facts.cl_Get
  | with_reducible exact Facts.cl_Ask
  | with_reducible exact Facts.cl_Cell
  | with_reducible exact Facts.cl_Two
  | with_reducible exact Facts.cl_Put
  | with_reducible exact Facts.cl_Tell
  | with_reducible exact Facts.cl_Store)
local macro_rules | `(tactic| walk_at "na") => `(tactic| first
  | with_reducible exact Facts.na_Get_to
  | with_reducible exact Facts.na_Get_sel
  | with_reducible exact Facts.na_Ask_to
  | with_reducible exact Facts.na_Ask_sel
  | with_reducible exact Facts.na_Cell_to
  | with_reducible exact Facts.na_Cell_source
  | with_reducible exact Facts.na_Two_to
  | with_reducible exact Facts.na_Two_op
  | with_reducible exact Facts.na_Two_one
  | with_reducible exact Facts.na_Two_other
  | with_reducible exact Facts.na_Put_sel
  | with_reducible exact Facts.na_Put_source
  | with_reducible exact Facts.na_Tell_sel
  | with_reducible exact Facts.na_Tell_source
  | with_reducible exact Facts.na_Store_at
  | with_reducible exact Facts.na_Store_source)
local macro_rules | `(tactic| walk_at "ty") => `(tactic| first
  | with_reducible exact ty_int
  | with_reducible exact ty_bl
  | with_reducible exact ty_str
  | with_reducible exact ty_non
  | ((with_reducible refine' ty_lst ?vv); (case vv => walk_at "tr"))
  | ((with_reducible refine' ty_sqT ?vv); (case vv => walk_at "tr"))
  | ((with_reducible refine' ty_dic ?vv); (case vv => walk_at "tr")))
local macro_rules | `(tactic| walk_at "ix") => `(tactic| first | exact at0 | exact at1 | exact at2 | assumption)
local macro_rules | `(tactic| walk_at "size") => `(tactic| first
  | assumption
  | (show _ < sizeLine; rw [sizeLine_eq]; (try simp only [List.length_cons, List.length_nil, List.length_append, List.length_map]); omega)
  | (show _ ≤ sizeLine; rw [sizeLine_eq]; (try simp only [List.length_cons, List.length_nil, List.length_append, List.length_map]); omega))
local macro_rules | `(tactic| walk_at "side") => `(tactic| first
  | assumption
  | ((with_reducible refine cdw ?_ ?_) <;> omega)
  | omega
  | (exact ⟨by omega, by omega⟩)
  | (exact Or.inl ⟨by omega, by omega⟩)
  | (exact Or.inr ⟨by omega, by omega⟩)
  | decide
  | (simp only [List.length_cons, List.length_nil, List.length_append, List.length_map]; omega)
  | (show _ ≤ _; decide))
local macro_rules | `(tactic| walk_at "as") => `(tactic| with_reducible assumption)
local macro_rules | `(tactic| walk_at "tr") => `(tactic| first
  | with_reducible assumption
  | with_reducible exact upd_same
  | ((with_reducible refine' SqL.of ?hh); (case hh => walk_at "as"))
  | ((with_reducible refine' SqT.of ?hh); (case hh => walk_at "as"))
  | ((with_reducible refine' Same.stm ?ee ?gg); (case ee => walk_at "as"); (case gg => walk_at "tr"))
  | ((with_reducible refine' Same.sqT ?ee ?gg); (case ee => walk_at "as"); (case gg => walk_at "tr"))
  | ((with_reducible refine' Same.sqL ?ee ?gg); (case ee => walk_at "as"); (case gg => walk_at "tr"))
  | ((with_reducible refine' Same.at ?ee ?gg); (case ee => walk_at "as"); (case gg => walk_at "tr"))
  | ((with_reducible refine' But.stm ?ee ?ff ?gg); (case ee => walk_at "as"); (case ff => walk_at "ne"); (case gg => walk_at "tr"))
  | ((with_reducible refine' But.tup ?ee ?ff ?gg); (case ee => walk_at "as"); (case ff => walk_at "tr1"); (case gg => walk_at "tr"))
  | ((with_reducible refine' But.sqT ?ee ?ff ?gg); (case ee => walk_at "as"); (case ff => walk_at "tr1"); (case gg => walk_at "tr"))
  | ((with_reducible refine' But.tupL ?ee ?ff ?gg); (case ee => walk_at "as"); (case ff => walk_at "tr1"); (case gg => walk_at "tr"))
  | ((with_reducible refine' But.sqTL ?ee ?ff ?gg); (case ee => walk_at "as"); (case ff => walk_at "tr1"); (case gg => walk_at "tr"))
  | ((with_reducible refine' But.sqL ?ee ?ff ?gg); (case ee => walk_at "as"); (case ff => walk_at "ne"); (case gg => walk_at "tr"))
  | ((with_reducible refine' But.at ?ee ?ff ?gg); (case ee => walk_at "as"); (case ff => walk_at "ne"); (case gg => walk_at "tr")))
local macro_rules | `(tactic| walk_at "ts") => `(tactic| first
  | with_reducible assumption
  | with_reducible exact TS.refl _
  | ((with_reducible refine' TS.trans ?gg (TS.of ?ee)); (case ee => walk_at "as"); (case gg => walk_at "ts"))
  | ((with_reducible refine' TS.trans ?gg (TS.butS ?ee ?ff)); (case ee => walk_at "as"); (case ff => walk_at "tr1"); (case gg => walk_at "ts"))
  | ((with_reducible refine' TS.trans ?gg (TS.butL ?ee ?ff)); (case ee => walk_at "as"); (case ff => walk_at "tr1"); (case gg => walk_at "ts"))
  | ((with_reducible refine' TS.trans ?gg (TS.butI ?ee ?ff)); (case ee => walk_at "as"); (case ff => walk_at "tr1"); (case gg => walk_at "ts")))
local macro_rules | `(tactic| walk_at "sm") => `(tactic| first
  | with_reducible assumption
  | with_reducible exact Same.refl _
  | ((with_reducible refine' Same.trans ?gg ?ee); (case ee => walk_at "as"); (case gg => walk_at "sm"))
  | ((with_reducible refine' But.new ?gg ?nn ?ee); (case ee => walk_at "as"); (case nn => walk_at "fr"); (case gg => walk_at "sm")))
local macro_rules | `(tactic| walk_at "fr") => `(tactic| first
  | with_reducible assumption
  | ((with_reducible refine' Same.back ?ee ?nn); (case nn => walk_at "as"); (case ee => walk_at "sm"))
  | ((with_reducible refine' But.back ?ee ?ff ?nn); (case nn => walk_at "as"); (case ff => walk_at "ne0"); (case ee => walk_at "bu")))
local macro_rules | `(tactic| walk_at "bu") => `(tactic| first
  | with_reducible assumption
  | with_reducible exact But.refl _ _
  | ((with_reducible refine' But.trans ?gg ?ee); (case ee => walk_at "as"); (case gg => walk_at "bu"))
  | ((with_reducible refine' But.trans ?gg (But.of ?ee)); (case ee => walk_at "as"); (case gg => walk_at "bu"))
  | ((with_reducible refine' But.new2 ?gg ?nn ?ee); (case ee => walk_at "as"); (case nn => walk_at "frB"); (case gg => walk_at "bu")))
local macro_rules | `(tactic| walk_at "frB") => `(tactic| first
  | with_reducible assumption
  | ((with_reducible refine' Same.back ?ee ?nn); (case nn => walk_at "as"); (case ee => walk_at "sm"))
  | ((with_reducible refine' But.back' ?ee ?ff ?nn); (case nn => walk_at "as"); (case ee => walk_at "bu"); (case ff => walk_at "tr1")))
local macro_rules | `(tactic| walk_at "tr1") => `(tactic| first
  | with_reducible assumption
  | ((with_reducible refine' Same.stm ?ee ?gg); (case ee => walk_at "as"); (case gg => walk_at "tr1"))
  | ((with_reducible refine' Same.at ?ee ?gg); (case ee => walk_at "as"); (case gg => walk_at "tr1"))
  | ((with_reducible refine' But.at ?ee ?ff ?gg); (case ee => walk_at "as"); (case ff => walk_at "ne0"); (case gg => walk_at "tr1"))
  | ((with_reducible refine' But.stm ?ee ?ff ?gg); (case ee => walk_at "as"); (case ff => walk_at "ne0"); (case gg => walk_at "tr1")))
local macro_rules | `(tactic| walk_at "ne0") => `(tactic| first
  | with_reducible assumption
  | (with_reducible apply Ne.symm; with_reducible assumption))
local macro_rules | `(tactic| walk_at "ne") => `(tactic| first
  | with_reducible assumption
  | (with_reducible apply Ne.symm; with_reducible assumption)
  | ((with_reducible refine' stm_ne ?hh ?nn); (case nn => walk_at "as"); (case hh => walk_at "tr1"))
  | ((with_reducible refine' ne_of_none ?hh ?nn); (case nn => walk_at "as"); (case hh => walk_at "tr1"))
  | ((with_reducible apply Ne.symm); (with_reducible refine' ne_of_none ?hh ?nn); (case nn => walk_at "as"); (case hh => walk_at "tr1")))
local macro_rules | `(tactic| walk_at "v") => `(tactic| first
  | with_reducible refine w_seq ?_
  | ((with_reducible refine' w_var ?vv ?_); (case vv => exact rfl))
  | with_reducible refine w_c ?_
  | with_reducible refine w_op ?_
  | with_reducible refine w_asg ?_
  | with_reducible refine w_gName ?_
  | with_reducible refine w_ret ?_
  | with_reducible refine w_ifS ?_
  | with_reducible refine w_drop ?_
  | with_reducible refine w_next ?_
  | with_reducible refine w_cons ?_
  | with_reducible refine w_nil ?_
  | with_reducible refine w_call ?_
  | with_reducible refine w_cb ?_
  | with_reducible refine w_rI0 ?_
  | with_reducible refine w_addI ?_
  | with_reducible refine w_eqI ?_
  | with_reducible refine w_neI ?_
  | with_reducible refine w_eqS ?_
  | with_reducible refine w_neS ?_
  | with_reducible refine w_eqB ?_
  | with_reducible refine w_neB ?_
  | with_reducible refine w_chain ?_
  | with_reducible refine w_test ?_
  | with_reducible refine w_tB ?_
  | with_reducible refine w_bl ?_
  | ((with_reducible refine' w_mulI ?vv ?_); (case vv => walk_at "side"))
  | ((with_reducible refine' w_rI ?vv ?_); (case vv => walk_at "side"))
  | with_reducible refine w_int1 ?_
  | with_reducible refine w_int1b ?_
  | with_reducible refine w_tup ?_
  | with_reducible refine w_lst ?_
  | with_reducible refine w_un ?_
  | with_reducible refine w_rU ?_
  | with_reducible refine w_not ?_
  | with_reducible refine w_notV ?_
  | with_reducible refine w_ifE ?_
  | with_reducible refine w_nT ?_
  | with_reducible refine w_nF ?_
  | with_reducible refine iteT ?_
  | with_reducible refine iteF ?_
  | ((with_reducible refine' w_ixT ?vv ?ww ?_); (case vv => walk_at "tr"); (case ww => walk_at "ix"))
  | ((with_reducible refine' w_ixL ?vv ?ww ?_); (case vv => walk_at "tr"); (case ww => walk_at "ix"))
  | with_reducible refine w_gSub ?_
  | ((with_reducible refine' w_setL ?vv ?ww ?_); (case vv => walk_at "tr"); (case ww => first | rfl | decide | assumption))
  | ((with_reducible refine' w_lenL ?vv ?_); (case vv => walk_at "tr"))
  | ((with_reducible refine' w_lenT ?vv ?_); (case vv => walk_at "tr"))
  | with_reducible refine w_max2 ?_
  | with_reducible refine w_max3 ?_
  | with_reducible refine w_din ?_
  | with_reducible refine w_dnotin ?_
  | with_reducible refine w_dput ?_
  | with_reducible refine w_min2 ?_
  | with_reducible refine w_bm ?_
  | with_reducible refine w_bm0 ?_
  | ((with_reducible refine' w_tyL ?vv ?_); (case vv => walk_at "tr"))
  | ((with_reducible refine' w_append ?vv ?ww ?_); (case vv => walk_at "tr"); (case ww => walk_at "size"))
  | ((with_reducible refine' w_size ?vv ?_); (case vv => walk_at "size"))
  | with_reducible refine w_forL ?_
  | with_reducible refine w_forT ?_
  | with_reducible refine w_forR1 ?_
  | with_reducible refine w_forR2 ?_
  | with_reducible refine w_lcL ?_
  | with_reducible refine w_lcT ?_
  | with_reducible refine w_lcR1 ?_
  | with_reducible refine w_yes ?_
  | with_reducible refine w_sl ?_
  | with_reducible refine w_noPart ?_
  | with_reducible refine w_part ?_
  | with_reducible refine w_int ?_
  | ((with_reducible refine' w_slL ?vv ?_); (case vv => walk_at "tr"))
  | ((with_reducible refine' w_seqL ?vv ?ww ?_); (case vv => walk_at "tr"); (case ww => rfl))
  | ((with_reducible refine' w_seqT ?vv ?ww ?_); (case vv => walk_at "tr"); (case ww => rfl))
  | with_reducible refine w_gNil ?_
  | with_reducible refine w_gCons ?_
  | with_reducible refine w_forZ ?_
  | with_reducible refine w_forM ?_
  | with_reducible refine w_forE ?_
  | with_reducible refine w_forV ?_
  | with_reducible refine w_lcZ ?_
  | with_reducible refine w_lcE ?_
  | ((with_reducible refine' w_isi (b := true) ?vv ?ww ?_); (case vv => walk_at "ty"); (case ww => decide +kernel))
  | ((with_reducible refine' w_isi (b := false) ?vv ?ww ?_); (case vv => walk_at "ty"); (case ww => decide +kernel))
  | with_reducible refine w_revL ?_
  | with_reducible refine w_pairN ?_
  | with_reducible refine w_pairC ?_
  | with_reducible refine w_dget ?_
  | with_reducible refine w_met ?_
  | ((with_reducible refine' w_metAt ?vv ?ww ?_); (case vv => walk_at "tr"); (case ww => rfl))
  | with_reducible refine w_mkI ?_
  | with_reducible refine w_fld ?_
  | ((with_reducible refine' w_fldAt ?vv ?cc ?nn ?ww ?_); (case vv => walk_at "tr"); (case cc => walk_at "cls"); (case nn => walk_at "na"); (case ww => rfl))
  | with_reducible refine w_sfld ?_
  | ((with_reducible refine' w_sfldAt ?vv ?cc ?nn ?ll ?ee ?_); (case vv => walk_at "tr"); (case cc => walk_at "cls"); (case nn => walk_at "na"); (case ll => simp); (case ee => rfl))
  | ((with_reducible refine' w_tupL ?vv ?_); (case vv => walk_at "tr"))
  | ((with_reducible refine' w_tupT ?vv ?_); (case vv => walk_at "tr"))
  | ((with_reducible refine' w_listL ?vv ?_); (case vv => walk_at "tr"))
  | ((with_reducible refine' w_listT ?vv ?_); (case vv => walk_at "tr"))
  | with_reducible refine w_tyS ?_
  | with_reducible refine w_lcZM ?_
  | with_reducible refine w_js ?_
  | with_reducible refine w_jsN ?_
  | ((with_reducible refine' w_jsP ?vv ?_); (case vv => walk_at "size"))
  | with_reducible refine w_fmt ?_
  | with_reducible refine w_forRR ?_
  | with_reducible refine w_retN ?_
  | with_reducible refine w_break ?_
  | with_reducible refine w_cont ?_)
local macro_rules | `(tactic| walk_at "w") => `(tactic| first
  | walk_at "v"
  | with_reducible refine w_or ?_
  | with_reducible refine w_and ?_
  | with_reducible refine w_andV ?_
  | with_reducible refine w_orV ?_)
local macro_rules | `(tactic| walk_at "wd") => `(tactic| first
  | walk_at "w"
  | ((with_reducible refine' w_decT ?vv ?_); (case vv => decide +kernel))
  | ((with_reducible refine' w_decF ?vv ?_); (case vv => decide +kernel)))
local macro_rules | `(tactic| walk_at "tz") => `(tactic| (intro S z; (repeat walk_at "w"); exact z))
local macro_rules | `(tactic| walk_at "wf") => `(tactic| first
  | walk_at "wd"
  | ((with_reducible refine' w_decF ?vv ?_); (case vv => with_reducible assumption)))
/-! ### steps packed -/
theorem snocInd {α : Type} {p : List α → Prop} (h0 : p []) (h1 : ∀ l a, p l → p (l ++ [a])) (l : List α) : p l := by
  rw [← List.reverse_reverse l]
  induction l.reverse with
  | nil => exact h0
  | cons a m ih => rw [List.reverse_cons]; exact h1 _ _ ih
def nextN (P : List (Stp × Nat)) (s : Stp) : Nat := P.foldl (fun f p => if f ≤ p.2 ∧ meetS p.1 s = true then p.2 + 1 else f) 0
def prs (L : List Stp) : List (Stp × Nat) := L.foldl (fun P s => P ++ [(s, nextN P s)]) []
theorem prs_snoc (L : List Stp) (s : Stp) : prs (L ++ [s]) = prs L ++ [(s, nextN (prs L) s)] := by unfold prs; rw [List.foldl_append]; rfl
theorem prs_fst (L : List Stp) : (prs L).map (·.1) = L := by
  induction L using snocInd with
  | h0 => rfl
  | h1 L s ih => rw [prs_snoc, List.map_append, ih]; rfl
theorem prs_len (L : List Stp) : (prs L).length = L.length := by
  have := congrArg List.length (prs_fst L)
  rwa [List.length_map] at this
def tops (P : List (Stp × Nat)) : Nat := P.foldl (fun m p => max m (p.2 + 1)) 0
theorem top_snoc (P : List (Stp × Nat)) (p : Stp × Nat) : tops (P ++ [p]) = max (tops P) (p.2 + 1) := by unfold tops; rw [List.foldl_append]; rfl
theorem nextN_snoc (P : List (Stp × Nat)) (p : Stp × Nat) (s : Stp) : nextN (P ++ [p]) s = if nextN P s ≤ p.2 ∧ meetS p.1 s = true then p.2 + 1 else nextN P s := by unfold nextN; rw [List.foldl_append]; rfl
theorem nextN_top (P : List (Stp × Nat)) (s : Stp) : nextN P s ≤ tops P := by
  induction P using snocInd with
  | h0 => exact Nat.le_refl _
  | h1 P p ih =>
    rw [nextN_snoc, top_snoc]
    split <;> omega
/-- the numbers of the steps of beat k -/
def beatF (P : List (Stp × Nat)) (k : Nat) : List Nat := (List.range P.length).filter fun i => decide ((P.map (·.2))[i]? = some k)
theorem beatF_snoc (P : List (Stp × Nat)) (p : Stp × Nat) (k : Nat) : beatF (P ++ [p]) k = beatF P k ++ if p.2 = k then [P.length] else [] := by
  unfold beatF
  rw [List.length_append, List.length_singleton, List.range_succ, List.filter_append]
  congr 1
  · refine List.filter_congr fun i hi => ?_
    rw [List.map_append, List.getElem?_append_left (by rw [List.length_map]; exact List.mem_range.mp hi)]
  · rw [List.filter_cons, List.map_append, List.getElem?_append_right (by rw [List.length_map]; exact Nat.le_refl _), List.length_map, Nat.sub_self]
    show (if decide (some p.2 = some k) = true then _ else _) = _
    simp only [decide_eq_true_eq, Option.some.injEq, List.filter_nil]
theorem beatF_top (P : List (Stp × Nat)) (k : Nat) (h : tops P ≤ k) : beatF P k = [] := by
  induction P using snocInd with
  | h0 => rfl
  | h1 P p ih =>
    rw [top_snoc] at h
    rw [beatF_snoc, ih (by omega), if_neg (by omega)]; rfl
theorem beatF_len (P : List (Stp × Nat)) (k : Nat) : (beatF P k).length ≤ P.length := by
  unfold beatF
  have := List.length_filter_le (fun i => decide ((P.map (·.2))[i]? = some k)) (List.range P.length)
  rwa [List.length_range] at this
theorem top_len (L : List Stp) : tops (prs L) ≤ L.length := by
  induction L using snocInd with
  | h0 => exact Nat.le_refl _
  | h1 L s ih =>
    rw [prs_snoc, top_snoc, List.length_append]
    have := nextN_top (prs L) s
    simp only [List.length_singleton]
    omega
theorem prs_lt {L : List Stp} {p : Stp × Nat} (h : p ∈ prs L) : p.2 < tops (prs L) := by
  induction L using snocInd with
  | h0 => cases h
  | h1 L s ih =>
    rw [prs_snoc] at h ⊢
    rw [top_snoc]
    rcases List.mem_append.mp h with g | g
    · have := ih g; omega
    · rw [List.mem_singleton.mp g]; omega
def numV (P : List (Stp × Nat)) : List V := (P.map fun p => ((p.2 : Nat) : Int)).map V.int
/-- what is touched, step by step -/
def RowAt (K : PySem.W.Frag) (H : Hp) (ts : List V) (L : List Stp) : Prop := ts.length = L.length ∧ ∀ (i : Nat) (c : Stp), L[i]? = some c → ∃ t, ts[i]? = some (.ref t) ∧ SqT K H t [.int (bitsN c.wr : Nat), .int (touB c : Nat)]
theorem RowAt.sm {K : PySem.W.Frag} {H H' : Hp} {ts : List V} {L : List Stp} (h : RowAt K H ts L) (e : Same H H') : RowAt K H' ts L := ⟨h.1, fun i c hc => by
  obtain ⟨t, a, b⟩ := h.2 i c hc
  exact ⟨t, a, e.sqT b⟩⟩
theorem RowAt.ts {K : PySem.W.Frag} {H H' : Hp} {ts : List V} {L : List Stp} (h : RowAt K H ts L) (e : TS H H') : RowAt K H' ts L := ⟨h.1, fun i c hc => by
  obtain ⟨t, a, b⟩ := h.2 i c hc
  exact ⟨t, a, e.sqT b⟩⟩
/-- the beats, each a list of its own -/
def BeatsAt (H : Hp) (B : Addr) (bs : List Addr) (P : List (Stp × Nat)) : Prop := H B = some (.lst (bs.map V.ref)) ∧ bs.length = tops P ∧ bs.Nodup ∧ B ∉ bs ∧ ∀ (k : Nat) (b : Addr), bs[k]? = some b → H b = some (.lst (((beatF P k).map fun i : Nat => (i : Int)).map V.int))
def spBeat (K : PySem.W.Frag) : Sp := fun vs H Q _ => ∃ (r nL : Addr) (j : Nat) (ts : List V) (L : List Stp) (s : Stp), vs = [.ref r, .int (j : Int), .ref nL] ∧ SqL K H r ts ∧ RowAt K H ts L ∧ (∀ c ∈ L, c.ok) ∧ L[j]? = some s ∧ SqL K H nL (numV (prs (L.take j))) ∧ ∀ H', Same H H' → Q (.int (nextN (prs (L.take j)) s : Nat)) H'
theorem len_beat_of {K : PySem.W.Frag} {vs H Q E} (h : spBeat K vs H Q E) : vs.length = 3 := by obtain ⟨_, _, _, _, _, _, rfl, _⟩ := h; rfl
/-- the steps of L as things, in a list or a tuple -/
def StepsIn (K : PySem.W.Frag) (H : Hp) (ps : List Addr) (L : List Stp) : Prop := ps.length = L.length ∧ ∀ (i : Nat) (c : Stp), L[i]? = some c → ∃ p, ps[i]? = some p ∧ StepAt K H p c.cls c
theorem StepsIn.sm {K : PySem.W.Frag} {H H' : Hp} {ps : List Addr} {L : List Stp} (h : StepsIn K H ps L) (e : Same H H') : StepsIn K H' ps L := ⟨h.1, fun i c hc => by
  obtain ⟨p, a, b⟩ := h.2 i c hc
  exact ⟨p, a, b.sm e⟩⟩
def spPacked (K : PySem.W.Frag) : Sp := fun vs H Q _ => ∃ (q : Addr) (ps : List Addr) (L : List Stp), vs = [.ref q] ∧ (SqL K H q (ps.map V.ref) ∨ SqT K H q (ps.map V.ref)) ∧ StepsIn K H ps L ∧ (∀ c ∈ L, c.ok) ∧ L.length ≤ 1000 ∧
  ∀ B bs H', BeatsAt H' B bs (prs L) → Same H H' → H B = none → (∀ b ∈ bs, H b = none) → Q (.ref B) H'
theorem len_packed {K : PySem.W.Frag} {vs H Q E} (h : spPacked K vs H Q E) : vs.length = 1 := by obtain ⟨_, _, _, rfl, _⟩ := h; rfl
section
variable {P : Program} {w : World} {K : PySem.W.Frag} {mg : Str → Option Value}
theorem ok_beat_of [c : Facts K mg] [ct : FactsT w K] (G_met : XL.Fn P w K mg "met" 1 ["one", "other"] ((spMet K))) : XL.Fn P w K mg "beat_of" 4 ["row", "at", "numbers"] ((spBeat K)) := by
  obtain ⟨fd, F⟩ := c.d_beat_of
  refine XL.Fn.mk' F c.g_beat_of sc_beat_of (k := 3) (fun vs H Q E h => ?_) (fun _ _ _ _ _ _ us hl => match us, hl with | [_, _, _], _ => rfl) (fun base cdv A outer s H vs Q E hr h => ?_)
  · exact len_beat_of h
  · have nd := sc_beat_of.nd
    have hu := hu_of hr.r
    have hr_met : XL.Rm 1 _ := hr.mono (by omega)
    refine ⟨_, (PSs.nox (pss_cons (ps_set (i := 3) nd rfl (Or.inl rfl) pe_int)
      (pss_cons (ps_for PassesOwn.never rfl (pi_enum (by rfl) c.f_enumerate (pa_cons (pv 2) pa_nil)) (pg_seq 2 (K := K) rfl rfl (pgs_cons (pg_name (i := 4) nd rfl (Or.inl rfl)) (pgs_cons (pg_name (i := 5) nd rfl (Or.inl rfl)) pgs_nil))) (pss_one (ps_if (PW.pt (pw_and (pt_cmpR op_ge (pv 5) (pv 3) (nomark _)) (pw_and1 (pt_val (XL.pe_fn G_met hr_met (by rfl) (pa_cons (pe_ix (ix_any (K := K) rfl) (pv 0) (pv 4) (fun _ _ => rfl)) (pa_cons (pe_ix (ix_any (K := K) rfl) (pv 0) (pv 1) (fun _ _ => rfl)) pa_nil))))))) (pss_one (ps_set (i := 3) nd rfl (Or.inl rfl) (pe_op (op_addA (K := K) rfl) (pv 5) pe_int))) pss_nil)))
      (pss_one (ps_ret (pv 3)))))), ?_⟩
    try dsimp only [cxOf, Cx.nox, Cx.wish]
    obtain ⟨r, nL, j, ts, L, s, rfl, hr', row, ok, hj, hn, q⟩ := h
    have hjl := (List.getElem?_eq_some_iff.mp hj).1
    have hPl : (prs (L.take j)).length = j := by rw [prs_len, List.length_take]; omega
    have hnl : (numV (prs (L.take j))).length = j := by unfold numV; rw [List.length_map, List.length_map, hPl]
    have sok := ok s (List.mem_of_getElem? hj)
    repeat walk_at "w"
    refine fl_enum (fun i σ H' => ∃ o4 o5, σ = [some (.ref r), some (.int (j : Int)), some (.ref nL), some (.int (nextN ((prs (L.take j)).take i) s : Nat)), o4, o5] ∧ Same H H') hn ⟨_, _, rfl, Same.refl _⟩ (fun i σ H' hi hp => ?_) (fun i x T σ H5 H6 hx hp nT s56 fT => ?_) (fun σ H5 hp => ?_)
    · obtain ⟨_, _, _, e⟩ := hp
      exact e.sqL hn
    · obtain ⟨o4, o5, rfl, e5⟩ := hp
      have e6 := e5.trans s56
      unfold numV at hx
      rw [List.getElem?_map] at hx
      obtain ⟨n, hx', rfl⟩ := Option.map_eq_some_iff.mp hx
      rw [List.getElem?_map] at hx'
      obtain ⟨⟨c, m⟩, hcm, rfl⟩ := Option.map_eq_some_iff.mp hx'
      have hc : L[i]? = some c := by
        have e1 : ((prs (L.take j)).map (·.1))[i]? = some c := by rw [List.getElem?_map, hcm]; rfl
        rw [prs_fst] at e1
        have hi : i < j := by
          have := (List.getElem?_eq_some_iff.mp hcm).1
          omega
        rwa [List.getElem?_take_of_lt hi] at e1
      obtain ⟨t1, a1, b1⟩ := (row.sm e6).2 i c hc
      obtain ⟨t2, a2, b2⟩ := (row.sm e6).2 j s hj
      have hr6 := e6.sqL hr'
      rw [tk_snoc hcm, nextN_snoc]
      repeat walk_at "w"
      refine ite2 (fun hk => ?_) (fun hk => ?_)
      · rw [decide_eq_true_eq] at hk
        repeat walk_at "w"
        refine w_ixL hr6 (atI_of (by omega) (by rw [Int.toNat_natCast]; exact a1)) ?_
        repeat walk_at "w"
        refine w_ixL hr6 (atI_of (by omega) (by rw [Int.toNat_natCast]; exact a2)) ?_
        repeat walk_at "w"
        refine ⟨t1, t2, c, s, rfl, b1, b2, ok c (List.mem_of_getElem? hc), sok, ?_⟩
        cases hm : meetS c s with
        | true =>
          repeat walk_at "w"
          rw [if_pos ⟨by omega, rfl⟩]
          exact ⟨_, _, rfl, e6⟩
        | false =>
          repeat walk_at "w"
          rw [if_neg (fun z => nomatch z.2)]
          exact ⟨_, _, rfl, e6⟩
      · rw [decide_eq_true_eq] at hk
        repeat walk_at "w"
        rw [if_neg (fun z => by have := z.1; omega)]
        exact ⟨_, _, rfl, e6⟩
    · obtain ⟨o4, o5, rfl, e5⟩ := hp
      rw [hnl, show List.take j (prs (List.take j L)) = prs (List.take j L) from List.take_of_length_le (by omega)]
      repeat walk_at "w"
      exact q H5 e5
theorem ok_packed [c : Facts K mg] [ct : FactsT w K] (G_beat_of : XL.Fn P w K mg "beat_of" 4 ["row", "at", "numbers"] ((spBeat K))) (G_touched : XL.Fn P w K mg "touched" 3 ["step"] ((spTou K))) : XL.Fn P w K mg "packed" 5 ["steps"] ((spPacked K)) := by
  obtain ⟨fd, F⟩ := c.d_packed
  refine XL.Fn.mk' F c.g_packed sc_packed (k := 4) (fun vs H Q E h => ?_) (fun _ _ _ _ _ _ us hl => match us, hl with | [_], _ => rfl) (fun base cdv A outer s H vs Q E hr h => ?_)
  · exact len_packed h
  · have nd := sc_packed.nd
    have hu := hu_of hr.r
    have hr_beat_of : XL.Rm 4 _ := hr.mono (by omega)
    have hr_touched : XL.Rm 3 _ := hr.mono (by omega)
    refine ⟨_, (PSs.nox (pss_cons (ps_setLc (i := 1) (own := [("step", 6)]) rfl nd rfl rfl (sw_true rfl rfl rfl (by decide +kernel)) (NDX.PI.or (pi_list (pv 0)) (pi_tup (pv 0))) (blkOk_by (N := N_packed) (sc := defScope s_packed) (by decide +kernel)) (fun _ _ _ _ _ => (pg_name (i := 6) nd rfl (Or.inl rfl))) (fun _ _ _ _ _ => pts_nil) (fun _ _ _ _ _ => (XL.pe_fn G_touched hr_touched (by rfl) (pa_cons (pv 6) pa_nil))))
      (pss_cons (ps_set (i := 2) nd rfl (Or.inl rfl) (pe_lst pa_nil))
      (pss_cons (ps_set (i := 3) nd rfl (Or.inl rfl) (pe_lst pa_nil))
      (pss_cons (ps_for PassesOwn.never rfl (pi_range1 (by rfl) c.f_range (pa_cons (pe_callB (call_lenA (K := K) rfl) (by rfl) c.f_len boot_len (pa_cons (pv 1) pa_nil)) pa_nil)) (pg_name (i := 4) nd rfl (Or.inl rfl)) (pss_cons (ps_set (i := 5) nd rfl (Or.inl rfl) (XL.pe_fn G_beat_of hr_beat_of (by rfl) (pa_cons (pv 1) (pa_cons (pv 4) (pa_cons (pv 2) pa_nil)))))
      (pss_cons (ps_if (pt_cmpR (op_eqA (K := K) rfl hr.units) (pv 5) (pe_callB (call_lenA (K := K) rfl) (by rfl) c.f_len boot_len (pa_cons (pv 3) pa_nil)) (nomark _)) (pss_one (ps_expr (pe_bm PySem.F.plainAttrs_list PySem.F.slot_list_append PySem.F.type_list_append mt_append (pv 3) (pa_cons (pe_lst pa_nil) pa_nil)))) pss_nil)
      (pss_cons (ps_expr (pe_bm PySem.F.plainAttrs_list PySem.F.slot_list_append PySem.F.type_list_append mt_append (pe_ix (ix_any (K := K) rfl) (pv 3) (pv 5) (fun _ _ => rfl)) (pa_cons (pv 4) pa_nil)))
      (pss_one (ps_expr (pe_bm PySem.F.plainAttrs_list PySem.F.slot_list_append PySem.F.type_list_append mt_append (pv 2) (pa_cons (pv 5) pa_nil))))))))
      (pss_one (ps_ret (pv 3)))))))), ?_⟩
    try dsimp only [cxOf, Cx.nox, Cx.wish]
    obtain ⟨q1, ps, L, rfl, hq, hst, ok, hL, q⟩ := h
    have hz : sizeLine = 16777216 := sizeLine_eq
    repeat walk_at "w"
    refine NDX.w_lcLT (ps.map V.ref) (fun R r => by walk_at "w"; exact r) (fun D j ys H' => Same H H' ∧ ys.length = j ∧ ∀ (i : Nat) (c : Stp), i < j → L[i]? = some c → ∃ t, ys[i]? = some (.ref t) ∧ SqT K H' t [.int (bitsN c.wr : Nat), .int (touB c : Nat)]) hq
      (fun D H' hD e f => ⟨e, rfl, fun _ _ h => by omega⟩) (fun D i ys H' h => h.1) (fun D hD j x ys H' hx hll hy hp => ?_) (fun D hD ys H3 hll hy hp => ?_)
    · obtain ⟨e, hyl, hys⟩ := hp
      rw [List.getElem?_map] at hx
      obtain ⟨p, hpj, rfl⟩ := Option.map_eq_some_iff.mp hx
      have hjl := (List.getElem?_eq_some_iff.mp hpj).1
      obtain ⟨c, hc⟩ : ∃ c, L[j]? = some c := ⟨_, List.getElem?_eq_getElem (by rw [← hst.1]; exact hjl)⟩
      obtain ⟨p', hp', hsc⟩ := (hst.sm e).2 j c hc
      rw [hpj] at hp'
      cases Option.some.inj hp'
      repeat walk_at "w"
      refine ⟨p, c.cls, c, rfl, stp_fam c, hsc, ok c (List.mem_of_getElem? hc), fun t H5 f5 s5 n5 => ?_⟩
      have hy5 := s5 _ _ hy
      refine lc_end hy5 hll (by rw [hz, hyl]; have := hst.1; omega) fun H6 e6 f6 => ⟨But.new (e.trans s5) hD e6, by rw [List.length_append, hyl]; rfl, fun i c' hi hc' => ?_⟩
      by_cases h : i < j
      · obtain ⟨t', g1, g2⟩ := hys i c' h hc'
        exact ⟨t', by rw [List.getElem?_append_left (by omega)]; exact g1, e6.sqTL hy5 (s5.sqT g2)⟩
      · obtain rfl : i = j := by omega
        rw [hc] at hc'
        cases Option.some.inj hc'
        exact ⟨t, by rw [List.getElem?_append_right (by omega), hyl, Nat.sub_self]; rfl, e6.sqTL hy5 (SqT.of f5)⟩
    · obtain ⟨e, hyl, hys⟩ := hp
      have hpl := hst.1
      rw [List.length_map] at hyl
      have row : RowAt K H3 ys L := ⟨by omega, fun i c hc => hys i c (by have := (List.getElem?_eq_some_iff.mp hc).1; rw [List.length_map]; omega) hc⟩
      repeat walk_at "w"
      refine w_new fun N H4 n4 s4 f4 => ?_
      repeat walk_at "w"
      refine w_new fun B H5 n5 s5 f5 => ?_
      have hy5 := s5 _ _ (s4 _ _ hy)
      have hN5 := s5 _ _ f4
      have nN3 : H3 N = none := n4
      have nB3 : H3 B = none := s4.free n5
      have hNB : N ≠ B := ne_of_none f4 n5
      repeat walk_at "w"
      refine fl_rng1 (fun i σ H' => ∃ o4 o5 o6, σ = [some (.ref q1), some (.ref D), some (.ref N), some (.ref B), o4, o5, o6] ∧ ∃ bs, Same H3 H' ∧ H' N = some (.lst (numV (prs (L.take i)))) ∧ BeatsAt H' B bs (prs (L.take i)) ∧ (∀ b ∈ bs, H3 b = none) ∧ N ∉ bs) (by omega) (by omega)
        ⟨_, _, _, rfl, [], s4.trans s5, hN5, ⟨f5, rfl, List.nodup_nil, List.not_mem_nil, fun k b h => nomatch h⟩, fun b h => (List.not_mem_nil h).elim, List.not_mem_nil⟩ (fun i σ H' hi hp => ?_) (fun σ H' hp => ?_)
      · obtain ⟨o4, o5, o6, rfl, bs, sm, hN, ⟨hB, hlen, hnd, hBn, hb⟩, hfr, hNn⟩ := hp
        have hil : i < L.length := by omega
        obtain ⟨s, hs⟩ : ∃ s, L[i]? = some s := ⟨_, List.getElem?_eq_getElem hil⟩
        have hD' := sm _ _ hy
        have hPl : (prs (L.take i)).length = i := by rw [prs_len, List.length_take]; omega
        have hnl : (numV (prs (L.take i))).length = i := by unfold numV; rw [List.length_map, List.length_map, hPl]
        have hnt := nextN_top (prs (L.take i)) s
        have htl := top_len (L.take i)
        rw [List.length_take] at htl
        repeat walk_at "w"
        refine ⟨D, N, i, ys, L, s, rfl, SqL.of hD', row.sm sm, ok, hs, SqL.of hN, fun H6 s6 => ?_⟩
        have hB6 := s6 _ _ hB
        have hN6 := s6 _ _ hN
        repeat walk_at "w"
        refine ite2 (fun hk => ?_) (fun hk => ?_)
        · rw [decide_eq_true_eq, List.length_map] at hk
          have hk' : nextN (prs (L.take i)) s = bs.length := by omega
          repeat walk_at "w"
          refine w_new fun b0 H7 n7 s7 f7 => ?_
          have hB7 := s7 _ _ hB6
          repeat walk_at "w"
          try refine w_append hB7 (by rw [hz, List.length_map]; omega) ?_
          refine w_chg fun H8 e8 f8 => ?_
          have hB : H8 B = some (.lst ((bs ++ [b0]).map V.ref)) := by rw [List.map_append]; exact f8
          have nb0B : b0 ≠ B := fun z => by rw [z, hB6] at n7; cases n7
          have nb0N : b0 ≠ N := fun z => by rw [z, hN6] at n7; cases n7
          have nb0bs : b0 ∉ bs := fun z => by
            obtain ⟨k, hk⟩ := List.mem_iff_getElem?.mp z
            have := s6 _ _ (hb k b0 hk)
            rw [n7] at this; cases this
          have hs8 : Same H3 H8 := But.new (sm.trans (s6.trans s7)) nB3 e8
          have hN8 := e8 _ _ hNB (s7 _ _ hN6)
          have hlen8 : (bs ++ [b0]).length = max (tops (prs (L.take i))) (nextN (prs (L.take i)) s + 1) := by rw [List.length_append, List.length_singleton, hlen]; omega
          have hnd : (bs ++ [b0]).Nodup := List.nodup_append.mpr ⟨hnd, List.nodup_cons.mpr ⟨List.not_mem_nil, List.nodup_nil⟩, fun x hx y hy z => nb0bs (by rw [← List.mem_singleton.mp hy, ← z]; exact hx)⟩
          have hBn : B ∉ bs ++ [b0] := fun z => (List.mem_append.mp z).elim hBn fun z => nb0B (List.mem_singleton.mp z).symm
          have hNn : N ∉ bs ++ [b0] := fun z => (List.mem_append.mp z).elim hNn fun z => nb0N (List.mem_singleton.mp z).symm
          have hfr : ∀ b ∈ bs ++ [b0], H3 b = none := fun b hb' => (List.mem_append.mp hb').elim (hfr b) fun z => by
            rw [List.mem_singleton.mp z]; exact sm.free (s6.free n7)
          have hb : ∀ (k : Nat) (b : Addr), (bs ++ [b0])[k]? = some b → H8 b = some (.lst (((beatF (prs (L.take i)) k).map fun i : Nat => (i : Int)).map V.int)) := fun k b hk2 => by
            by_cases c : k < bs.length
            · rw [List.getElem?_append_left c] at hk2
              have hm := List.mem_of_getElem? hk2
              exact e8 _ _ (fun z => (hBn (List.mem_append.mpr (.inl (z ▸ hm))))) (s7 _ _ (s6 _ _ (hb k b hk2)))
            · rw [List.getElem?_append_right (by omega)] at hk2
              have hk0 : k - bs.length = 0 := by
                have := (List.getElem?_eq_some_iff.mp hk2).1
                simp only [List.length_singleton] at this
                omega
              rw [hk0] at hk2
              cases Option.some.inj hk2
              rw [beatF_top _ _ (by omega)]
              exact e8 _ _ nb0B f7
          clear f8 hB7
          generalize bs ++ [b0] = bs8 at hB hlen8 hnd hBn hNn hfr hb
          obtain ⟨b, hbk⟩ : ∃ b, bs8[nextN (prs (L.take i)) s]? = some b := ⟨_, List.getElem?_eq_getElem (by omega)⟩
          have hbm := List.mem_of_getElem? hbk
          have fb := hb _ b hbk
          have nNb : N ≠ b := fun z => hNn (z ▸ hbm)
          have nBb : B ≠ b := fun z => hBn (z ▸ hbm)
          repeat walk_at "w"
          try refine w_ixL (SqL.of hB) (atI_of (by omega) (by rw [Int.toNat_natCast, List.getElem?_map, hbk]; rfl)) ?_
          repeat walk_at "w"
          try refine w_append fb (by rw [hz, List.length_map, List.length_map]; have := beatF_len (prs (L.take i)) (nextN (prs (L.take i)) s); omega) ?_
          refine w_chg fun H9 e9 f9 => ?_
          have hN9 := e9 _ _ nNb hN8
          repeat walk_at "w"
          try refine w_append hN9 (by rw [hz, hnl]; omega) ?_
          refine w_chg fun H10 e10 f10 => ?_
          have eP : prs (L.take (i + 1)) = prs (L.take i) ++ [(s, nextN (prs (L.take i)) s)] := by rw [tk_snoc hs, prs_snoc]
          refine ⟨_, _, _, rfl, bs8, But.new (But.new hs8 (hfr b hbm) e9) nN3 e10, ?_, ⟨e10 _ _ hNB.symm (e9 _ _ nBb hB), ?_, hnd, hBn, fun k b' hk' => ?_⟩, hfr, hNn⟩
          · rw [f10, eP]; unfold numV; rw [List.map_append, List.map_append]; rfl
          · rw [hlen8, eP, top_snoc]
          · rw [eP, beatF_snoc, hPl]
            have hbm' := List.mem_of_getElem? hk'
            have nb'N : b' ≠ N := fun z => hNn (z ▸ hbm')
            by_cases c : b' = b
            · subst c
              have ek : nextN (prs (L.take i)) s = k := (List.getElem?_inj (show nextN (prs (L.take i)) s < bs8.length by omega) hnd).mp (hbk.trans hk'.symm)
              subst ek
              rw [e10 _ _ nb'N f9, if_pos rfl, List.map_append, List.map_append]; rfl
            · have ek : ¬ nextN (prs (L.take i)) s = k := fun z => c (Option.some.inj ((hk'.symm.trans (z ▸ rfl : bs8[k]? = bs8[nextN (prs (L.take i)) s]?)).trans hbk))
              rw [e10 _ _ nb'N (e9 _ _ c (hb k b' hk')), if_neg ek, List.append_nil]
        · rw [decide_eq_true_eq, List.length_map] at hk
          have hs8 : Same H3 H6 := sm.trans s6
          have hB := hB6
          have hN8 := hN6
          have hlen8 : bs.length = max (tops (prs (L.take i))) (nextN (prs (L.take i)) s + 1) := by omega
          have hb : ∀ (k : Nat) (b : Addr), bs[k]? = some b → H6 b = some (.lst (((beatF (prs (L.take i)) k).map fun i : Nat => (i : Int)).map V.int)) := fun k b hk2 => s6 _ _ (hb k b hk2)
          generalize bs = bs8 at hB hlen8 hnd hBn hNn hfr hb
          obtain ⟨b, hbk⟩ : ∃ b, bs8[nextN (prs (L.take i)) s]? = some b := ⟨_, List.getElem?_eq_getElem (by omega)⟩
          have hbm := List.mem_of_getElem? hbk
          have fb := hb _ b hbk
          have nNb : N ≠ b := fun z => hNn (z ▸ hbm)
          have nBb : B ≠ b := fun z => hBn (z ▸ hbm)
          repeat walk_at "w"
          try refine w_ixL (SqL.of hB) (atI_of (by omega) (by rw [Int.toNat_natCast, List.getElem?_map, hbk]; rfl)) ?_
          repeat walk_at "w"
          try refine w_append fb (by rw [hz, List.length_map, List.length_map]; have := beatF_len (prs (L.take i)) (nextN (prs (L.take i)) s); omega) ?_
          refine w_chg fun H9 e9 f9 => ?_
          have hN9 := e9 _ _ nNb hN8
          repeat walk_at "w"
          try refine w_append hN9 (by rw [hz, hnl]; omega) ?_
          refine w_chg fun H10 e10 f10 => ?_
          have eP : prs (L.take (i + 1)) = prs (L.take i) ++ [(s, nextN (prs (L.take i)) s)] := by rw [tk_snoc hs, prs_snoc]
          refine ⟨_, _, _, rfl, bs8, But.new (But.new hs8 (hfr b hbm) e9) nN3 e10, ?_, ⟨e10 _ _ hNB.symm (e9 _ _ nBb hB), ?_, hnd, hBn, fun k b' hk' => ?_⟩, hfr, hNn⟩
          · rw [f10, eP]; unfold numV; rw [List.map_append, List.map_append]; rfl
          · rw [hlen8, eP, top_snoc]
          · rw [eP, beatF_snoc, hPl]
            have hbm' := List.mem_of_getElem? hk'
            have nb'N : b' ≠ N := fun z => hNn (z ▸ hbm')
            by_cases c : b' = b
            · subst c
              have ek : nextN (prs (L.take i)) s = k := (List.getElem?_inj (show nextN (prs (L.take i)) s < bs8.length by omega) hnd).mp (hbk.trans hk'.symm)
              subst ek
              rw [e10 _ _ nb'N f9, if_pos rfl, List.map_append, List.map_append]; rfl
            · have ek : ¬ nextN (prs (L.take i)) s = k := fun z => c (Option.some.inj ((hk'.symm.trans (z ▸ rfl : bs8[k]? = bs8[nextN (prs (L.take i)) s]?)).trans hbk))
              rw [e10 _ _ nb'N (e9 _ _ c (hb k b' hk')), if_neg ek, List.append_nil]
      · obtain ⟨o4, o5, o6, rfl, bs, sm, hN, hBA, hfr, hNn⟩ := hp
        rw [show L.take _ = L from List.take_of_length_le (by omega)] at hBA
        repeat walk_at "w"
        exact q B bs H' hBA (e.trans sm) (e.free nB3) fun b hb => e.free (hfr b hb)
end

end J
namespace J
open PySem PySem.Spec PyProof.Rows L2
local macro_rules | `(tactic| walk_at "cls") => `(tactic| first
  | with_reducible exact Facts.cl_Step
  | with_reducible exact Facts.cl_Get
  | with_reducible exact Facts.cl_Ask
  | with_reducible exact Facts.cl_Cell
  | with_reducible exact Facts.cl_Two
  | with_reducible exact Facts.cl_Put
  | with_reducible exact Facts.cl_Tell
  | with_reducible exact Facts.cl_Store)
local macro_rules | `(tactic| walk_at "na") => `(tactic| first
  | with_reducible exact Facts.na_Get_to
  | with_reducible exact Facts.na_Get_sel
  | with_reducible exact Facts.na_Ask_to
  | with_reducible exact Facts.na_Ask_sel
  | with_reducible exact Facts.na_Cell_to
  | with_reducible exact Facts.na_Cell_source
  | with_reducible exact Facts.na_Two_to
  | with_reducible exact Facts.na_Two_op
  | with_reducible exact Facts.na_Two_one
  | with_reducible exact Facts.na_Two_other
  | with_reducible exact Facts.na_Put_sel
  | with_reducible exact Facts.na_Put_source
  | with_reducible exact Facts.na_Tell_sel
  | with_reducible exact Facts.na_Tell_source
  | with_reducible exact Facts.na_Store_at
  | with_reducible exact Facts.na_Store_source)
local macro_rules | `(tactic| walk_at "ty") => `(tactic| first
  | with_reducible exact ty_int
  | with_reducible exact ty_bl
  | with_reducible exact ty_str
  | with_reducible exact ty_non
  | ((with_reducible refine' ty_lst ?vv); (case vv => walk_at "tr"))
  | ((with_reducible refine' ty_sqT ?vv); (case vv => walk_at "tr"))
  | ((with_reducible refine' ty_dic ?vv); (case vv => walk_at "tr")))
local macro_rules | `(tactic| walk_at "ix") => `(tactic| first | exact at0 | exact at1 | exact at2 | assumption)
local macro_rules | `(tactic| walk_at "size") => `(tactic| first
  | assumption
  | (show _ < sizeLine; rw [sizeLine_eq]; (try simp only [List.length_cons, List.length_nil, List.length_append, List.length_map]); omega)
  | (show _ ≤ sizeLine; rw [sizeLine_eq]; (try simp only [List.length_cons, List.length_nil, List.length_append, List.length_map]); omega))
local macro_rules | `(tactic| walk_at "side") => `(tactic| first
  | assumption
  | ((with_reducible refine cdw ?_ ?_) <;> omega)
  | omega
  | (exact ⟨by omega, by omega⟩)
  | (exact Or.inl ⟨by omega, by omega⟩)
  | (exact Or.inr ⟨by omega, by omega⟩)
  | decide
  | (simp only [List.length_cons, List.length_nil, List.length_append, List.length_map]; omega)
  | (show _ ≤ _; decide))
local macro_rules | `(tactic| walk_at "as") => `(tactic| with_reducible assumption)
local macro_rules | `(tactic| walk_at "tr") => `(tactic| first
  | with_reducible assumption
  | with_reducible exact upd_same
  | ((with_reducible refine' SqL.of ?hh); (case hh => walk_at "as"))
  | ((with_reducible refine' SqT.of ?hh); (case hh => walk_at "as"))
  | ((with_reducible refine' Same.stm ?ee ?gg); (case ee => walk_at "as"); (case gg => walk_at "tr"))
  | ((with_reducible refine' Same.sqT ?ee ?gg); (case ee => walk_at "as"); (case gg => walk_at "tr"))
  | ((with_reducible refine' Same.sqL ?ee ?gg); (case ee => walk_at "as"); (case gg => walk_at "tr"))
  | ((with_reducible refine' Same.at ?ee ?gg); (case ee => walk_at "as"); (case gg => walk_at "tr"))
  | ((with_reducible refine' But.stm ?ee ?ff ?gg); (case ee => walk_at "as"); (case ff => walk_at "ne"); (case gg => walk_at "tr"))
  | ((with_reducible refine' But.tup ?ee ?ff ?gg); (case ee => walk_at "as"); (case ff => walk_at "tr1"); (case gg => walk_at "tr"))
  | ((with_reducible refine' But.sqT ?ee ?ff ?gg); (case ee => walk_at "as"); (case ff => walk_at "tr1"); (case gg => walk_at "tr"))
  | ((with_reducible refine' But.tupL ?ee ?ff ?gg); (case ee => walk_at "as"); (case ff => walk_at "tr1"); (case gg => walk_at "tr"))
  | ((with_reducible refine' But.sqTL ?ee ?ff ?gg); (case ee => walk_at "as"); (case ff => walk_at "tr1"); (case gg => walk_at "tr"))
  | ((with_reducible refine' But.sqL ?ee ?ff ?gg); (case ee => walk_at "as"); (case ff => walk_at "ne"); (case gg => walk_at "tr"))
  | ((with_reducible refine' But.at ?ee ?ff ?gg); (case ee => walk_at "as"); (case ff => walk_at "ne"); (case gg => walk_at "tr")))
local macro_rules | `(tactic| walk_at "ts") => `(tactic| first
  | with_reducible assumption
  | with_reducible exact TS.refl _
  | ((with_reducible refine' TS.trans ?gg (TS.of ?ee)); (case ee => walk_at "as"); (case gg => walk_at "ts"))
  | ((with_reducible refine' TS.trans ?gg (TS.butS ?ee ?ff)); (case ee => walk_at "as"); (case ff => walk_at "tr1"); (case gg => walk_at "ts"))
  | ((with_reducible refine' TS.trans ?gg (TS.butL ?ee ?ff)); (case ee => walk_at "as"); (case ff => walk_at "tr1"); (case gg => walk_at "ts"))
  | ((with_reducible refine' TS.trans ?gg (TS.butI ?ee ?ff)); (case ee => walk_at "as"); (case ff => walk_at "tr1"); (case gg => walk_at "ts")))
local macro_rules | `(tactic| walk_at "sm") => `(tactic| first
  | with_reducible assumption
  | with_reducible exact Same.refl _
  | ((with_reducible refine' Same.trans ?gg ?ee); (case ee => walk_at "as"); (case gg => walk_at "sm"))
  | ((with_reducible refine' But.new ?gg ?nn ?ee); (case ee => walk_at "as"); (case nn => walk_at "fr"); (case gg => walk_at "sm")))
local macro_rules | `(tactic| walk_at "fr") => `(tactic| first
  | with_reducible assumption
  | ((with_reducible refine' Same.back ?ee ?nn); (case nn => walk_at "as"); (case ee => walk_at "sm"))
  | ((with_reducible refine' But.back ?ee ?ff ?nn); (case nn => walk_at "as"); (case ff => walk_at "ne0"); (case ee => walk_at "bu")))
local macro_rules | `(tactic| walk_at "bu") => `(tactic| first
  | with_reducible assumption
  | with_reducible exact But.refl _ _
  | ((with_reducible refine' But.trans ?gg ?ee); (case ee => walk_at "as"); (case gg => walk_at "bu"))
  | ((with_reducible refine' But.trans ?gg (But.of ?ee)); (case ee => walk_at "as"); (case gg => walk_at "bu"))
  | ((with_reducible refine' But.new2 ?gg ?nn ?ee); (case ee => walk_at "as"); (case nn => walk_at "frB"); (case gg => walk_at "bu")))
local macro_rules | `(tactic| walk_at "frB") => `(tactic| first
  | with_reducible assumption
  | ((with_reducible refine' Same.back ?ee ?nn); (case nn => walk_at "as"); (case ee => walk_at "sm"))
  | ((with_reducible refine' But.back' ?ee ?ff ?nn); (case nn => walk_at "as"); (case ee => walk_at "bu"); (case ff => walk_at "tr1")))
local macro_rules | `(tactic| walk_at "tr1") => `(tactic| first
  | with_reducible assumption
  | ((with_reducible refine' Same.stm ?ee ?gg); (case ee => walk_at "as"); (case gg => walk_at "tr1"))
  | ((with_reducible refine' Same.at ?ee ?gg); (case ee => walk_at "as"); (case gg => walk_at "tr1"))
  | ((with_reducible refine' But.at ?ee ?ff ?gg); (case ee => walk_at "as"); (case ff => walk_at "ne0"); (case gg => walk_at "tr1"))
  | ((with_reducible refine' But.stm ?ee ?ff ?gg); (case ee => walk_at "as"); (case ff => walk_at "ne0"); (case gg => walk_at "tr1")))
local macro_rules | `(tactic| walk_at "ne0") => `(tactic| first
  | with_reducible assumption
  | (with_reducible apply Ne.symm; with_reducible assumption))
local macro_rules | `(tactic| walk_at "ne") => `(tactic| first
  | with_reducible assumption
  | (with_reducible apply Ne.symm; with_reducible assumption)
  | ((with_reducible refine' stm_ne ?hh ?nn); (case nn => walk_at "as"); (case hh => walk_at "tr1"))
  | ((with_reducible refine' ne_of_none ?hh ?nn); (case nn => walk_at "as"); (case hh => walk_at "tr1"))
  | ((with_reducible apply Ne.symm); (with_reducible refine' ne_of_none ?hh ?nn); (case nn => walk_at "as"); (case hh => walk_at "tr1")))
local macro_rules | `(tactic| walk_at "v") => `(tactic| first
  | with_reducible refine w_seq ?_
  | ((with_reducible refine' w_var ?vv ?_); (case vv => exact rfl))
  | with_reducible refine w_c ?_
  | with_reducible refine w_op ?_
  | with_reducible refine w_asg ?_
  | with_reducible refine w_gName ?_
  | with_reducible refine w_ret ?_
  | with_reducible refine w_ifS ?_
  | with_reducible refine w_drop ?_
  | with_reducible refine w_next ?_
  | with_reducible refine w_cons ?_
  | with_reducible refine w_nil ?_
  | with_reducible refine w_call ?_
  | with_reducible refine w_cb ?_
  | with_reducible refine w_rI0 ?_
  | with_reducible refine w_addI ?_
  | with_reducible refine w_eqI ?_
  | with_reducible refine w_neI ?_
  | with_reducible refine w_eqS ?_
  | with_reducible refine w_neS ?_
  | with_reducible refine w_eqB ?_
  | with_reducible refine w_neB ?_
  | with_reducible refine w_chain ?_
  | with_reducible refine w_test ?_
  | with_reducible refine w_tB ?_
  | with_reducible refine w_bl ?_
  | ((with_reducible refine' w_mulI ?vv ?_); (case vv => walk_at "side"))
  | ((with_reducible refine' w_rI ?vv ?_); (case vv => walk_at "side"))
  | with_reducible refine w_int1 ?_
  | with_reducible refine w_int1b ?_
  | with_reducible refine w_tup ?_
  | with_reducible refine w_lst ?_
  | with_reducible refine w_un ?_
  | with_reducible refine w_rU ?_
  | with_reducible refine w_not ?_
  | with_reducible refine w_notV ?_
  | with_reducible refine w_ifE ?_
  | with_reducible refine w_nT ?_
  | with_reducible refine w_nF ?_
  | with_reducible refine iteT ?_
  | with_reducible refine iteF ?_
  | ((with_reducible refine' w_ixT ?vv ?ww ?_); (case vv => walk_at "tr"); (case ww => walk_at "ix"))
  | ((with_reducible refine' w_ixL ?vv ?ww ?_); (case vv => walk_at "tr"); (case ww => walk_at "ix"))
  | with_reducible refine w_gSub ?_
  | ((with_reducible refine' w_setL ?vv ?ww ?_); (case vv => walk_at "tr"); (case ww => first | rfl | decide | assumption))
  | ((with_reducible refine' w_lenL ?vv ?_); (case vv => walk_at "tr"))
  | ((with_reducible refine' w_lenT ?vv ?_); (case vv => walk_at "tr"))
  | with_reducible refine w_max2 ?_
  | with_reducible refine w_max3 ?_
  | with_reducible refine w_din ?_
  | with_reducible refine w_dnotin ?_
  | with_reducible refine w_dput ?_
  | with_reducible refine w_min2 ?_
  | with_reducible refine w_bm ?_
  | with_reducible refine w_bm0 ?_
  | ((with_reducible refine' w_tyL ?vv ?_); (case vv => walk_at "tr"))
  | ((with_reducible refine' w_append ?vv ?ww ?_); (case vv => walk_at "tr"); (case ww => walk_at "size"))
  | ((with_reducible refine' w_size ?vv ?_); (case vv => walk_at "size"))
  | with_reducible refine w_forL ?_
  | with_reducible refine w_forT ?_
  | with_reducible refine w_forR1 ?_
  | with_reducible refine w_forR2 ?_
  | with_reducible refine w_lcL ?_
  | with_reducible refine w_lcT ?_
  | with_reducible refine w_lcR1 ?_
  | with_reducible refine w_yes ?_
  | with_reducible refine w_sl ?_
  | with_reducible refine w_noPart ?_
  | with_reducible refine w_part ?_
  | with_reducible refine w_int ?_
  | ((with_reducible refine' w_slL ?vv ?_); (case vv => walk_at "tr"))
  | ((with_reducible refine' w_seqL ?vv ?ww ?_); (case vv => walk_at "tr"); (case ww => rfl))
  | ((with_reducible refine' w_seqT ?vv ?ww ?_); (case vv => walk_at "tr"); (case ww => rfl))
  | with_reducible refine w_gNil ?_
  | with_reducible refine w_gCons ?_
  | with_reducible refine w_forZ ?_
  | with_reducible refine w_forM ?_
  | with_reducible refine w_forE ?_
  | with_reducible refine w_forV ?_
  | with_reducible refine w_lcZ ?_
  | with_reducible refine w_lcE ?_
  | ((with_reducible refine' w_isi (b := true) ?vv ?ww ?_); (case vv => walk_at "ty"); (case ww => decide +kernel))
  | ((with_reducible refine' w_isi (b := false) ?vv ?ww ?_); (case vv => walk_at "ty"); (case ww => decide +kernel))
  | with_reducible refine w_revL ?_
  | with_reducible refine w_pairN ?_
  | with_reducible refine w_pairC ?_
  | with_reducible refine w_dget ?_
  | with_reducible refine w_met ?_
  | ((with_reducible refine' w_metAt ?vv ?ww ?_); (case vv => walk_at "tr"); (case ww => rfl))
  | with_reducible refine w_mkI ?_
  | with_reducible refine w_fld ?_
  | ((with_reducible refine' w_fldAt ?vv ?cc ?nn ?ww ?_); (case vv => walk_at "tr"); (case cc => walk_at "cls"); (case nn => walk_at "na"); (case ww => rfl))
  | with_reducible refine w_sfld ?_
  | ((with_reducible refine' w_sfldAt ?vv ?cc ?nn ?ll ?ee ?_); (case vv => walk_at "tr"); (case cc => walk_at "cls"); (case nn => walk_at "na"); (case ll => simp); (case ee => rfl))
  | ((with_reducible refine' w_tupL ?vv ?_); (case vv => walk_at "tr"))
  | ((with_reducible refine' w_tupT ?vv ?_); (case vv => walk_at "tr"))
  | ((with_reducible refine' w_listL ?vv ?_); (case vv => walk_at "tr"))
  | ((with_reducible refine' w_listT ?vv ?_); (case vv => walk_at "tr"))
  | with_reducible refine w_tyS ?_
  | with_reducible refine w_lcZM ?_
  | with_reducible refine w_js ?_
  | with_reducible refine w_jsN ?_
  | ((with_reducible refine' w_jsP ?vv ?_); (case vv => walk_at "size"))
  | with_reducible refine w_fmt ?_
  | with_reducible refine w_forRR ?_
  | with_reducible refine w_retN ?_
  | with_reducible refine w_break ?_
  | with_reducible refine w_cont ?_)
local macro_rules | `(tactic| walk_at "w") => `(tactic| first
  | walk_at "v"
  | with_reducible refine w_or ?_
  | with_reducible refine w_and ?_
  | with_reducible refine w_andV ?_
  | with_reducible refine w_orV ?_)
local macro_rules | `(tactic| walk_at "wd") => `(tactic| first
  | walk_at "w"
  | ((with_reducible refine' w_decT ?vv ?_); (case vv => decide +kernel))
  | ((with_reducible refine' w_decF ?vv ?_); (case vv => decide +kernel)))
local macro_rules | `(tactic| walk_at "tz") => `(tactic| (intro S z; (repeat walk_at "w"); exact z))
local macro_rules | `(tactic| walk_at "wf") => `(tactic| first
  | walk_at "wd"
  | ((with_reducible refine' w_decF ?vv ?_); (case vv => with_reducible assumption)))
theorem pi_listA {X : Cx} {K : PySem.W.Frag} {tg l : Expr} {tl : TE} (hK : X.K = K) (hl : PE X l tl) : PI X tg l (iList K tl) := by subst hK; exact pi_list hl
theorem pi_tupA {X : Cx} {K : PySem.W.Frag} {tg l : Expr} {tl : TE} (hK : X.K = K) (hl : PE X l tl) : PI X tg l (iTup K tl) := by subst hK; exact pi_tup hl
section
variable {K : PySem.W.Frag} {σ : L2.St} {H : Hp} {Q : VK} {nx : L2.St → Hp → Prop} {rt : VK} {bk ct : L2.St → Hp → Prop} {tt : TT} {t : L2.TS}
theorem w_while2 (Pv : Nat → L2.St → Hp → Prop) (m : Nat) (h0 : Pv m σ H) (hs : ∀ m σ H, Pv m σ H → tt σ H fun b H1 => if b = true then ∃ N : L2.St → Hp → Prop, (∀ σ' H', N σ' H' → ∃ m', m' < m ∧ Pv m' σ' H') ∧ t ⟨N, rt, nx, N⟩ σ H1 else nx σ H1) :
    tWhile tt t ⟨nx, rt, bk, ct⟩ σ H := ⟨Pv, ⟨m, h0⟩, hs⟩
theorem w_whB2 {m : Nat} {Pv : Nat → L2.St → Hp → Prop} (k : t ⟨fun σ' H' => ∃ m', m' < m ∧ Pv m' σ' H', rt, nx, fun σ' H' => ∃ m', m' < m ∧ Pv m' σ' H'⟩ σ H) : ∃ N : L2.St → Hp → Prop, (∀ σ' H', N σ' H' → ∃ m', m' < m ∧ Pv m' σ' H') ∧ t ⟨N, rt, nx, N⟩ σ H :=
  ⟨_, fun _ _ z => z, k⟩
theorem flat_ints (ns : List Int) : (ns.map V.int).all flatV = true := by
  rw [List.all_eq_true]
  intro x hx
  obtain ⟨_, _, rfl⟩ := List.mem_map.mp hx
  rfl
theorem in_ints (x : Int) (ns : List Int) : inV (.int x) (ns.map V.int) = decide (x ∈ ns) := by
  induction ns with
  | nil => rfl
  | cons n ns ih =>
    have e : inV (.int x) ((n :: ns).map V.int) = (eqV (.int n) (.int x) || inV (.int x) (ns.map V.int)) := rfl
    rw [e, ih]
    by_cases h : n = x
    · subst h; simp [eqV]
    · have : x ≠ n := fun z => h z.symm
      simp [eqV, h, this]
theorem w_inIL {p : Addr} {x : Int} {ns : List Int} (h : SqL K H p (ns.map V.int)) (k : Q (.bl (decide (x ∈ ns))) H) : rInA K false (.int x) (.ref p) H Q := w_inL h rfl (flat_ints ns) (by rw [in_ints]; exact k)
theorem w_niIL {p : Addr} {x : Int} {ns : List Int} (h : SqL K H p (ns.map V.int)) (k : Q (.bl (!decide (x ∈ ns))) H) : rInA K true (.int x) (.ref p) H Q := w_niL h rfl (flat_ints ns) (by rw [in_ints]; exact k)
end
/-- methods within comprehensions -/
theorem pe_bmA {X : Cx} {K : PySem.W.Frag} {T id : String} {name : Str} {r : V → List V → Hp → VK → Prop} {o e : Expr} {es : List Expr} {to : TE} {t : TA} {apos cpos : Pos} (hK : X.K = K) (pa : PlainAttrs T) (slot : Slot T name id) (hty : typeOf (.builtin id) = pure (.type "method_descriptor")) (hm : MtR X id r) (ho : PE X o to) (ha : PA X (e :: es) t)
    (hbase : attributeBase o name X.env (eval o X.env) = eval o X.env := by rfl)
    (hfew : ((backTo cpos (starEach (e :: es) X.env)).all (fun x => !x.1) && (backToKw cpos (keywordEach [] X.env)).all (fun x => x.1.isSome)
      && decide ((e :: es).length + ([] : List Keyword).length + (if ([] : List Keyword).isEmpty then 0 else 1) < 30)) = true := by rfl)
    (hline : (apos.endLine == cpos.line) = true := by rfl) (hs : starEach (e :: es) X.env = (false, eval e X.env) :: starEach es X.env := by rfl) (hplain : (backTo cpos (starEach es X.env)).any (·.1) = false := by rfl) :
    PE X (.Call (.Attribute o name apos) (e :: es) [] cpos) (tBM K T r to t) := by
  subst hK
  exact pe_bm pa slot hty hm ho ha hbase hfew hline hs hplain
theorem pe_bm0A {X : Cx} {K : PySem.W.Frag} {T id : String} {name : Str} {r : V → List V → Hp → VK → Prop} {o : Expr} {to : TE} {apos cpos : Pos} (hK : X.K = K) (pa : PlainAttrs T) (slot : Slot T name id) (hty : typeOf (.builtin id) = pure (.type "method_descriptor")) (hm : MtR X id r) (ho : PE X o to)
    (hbase : attributeBase o name X.env (eval o X.env) = eval o X.env := by rfl) (hline : (apos.endLine == cpos.line) = true := by rfl) : PE X (.Call (.Attribute o name apos) [] [] cpos) (tBM0 K T r to) := by
  subst hK
  exact pe_bm0 pa slot hty hm ho hbase hline

end J
namespace J
open PySem PySem.Spec PyProof.Rows L2
local macro_rules | `(tactic| walk_at "cls") => `(tactic| first
  | with_reducible exact Facts.cl_Step
  | with_reducible exact Facts.cl_Get
  | with_reducible exact Facts.cl_Ask
  | with_reducible exact Facts.cl_Cell
  | with_reducible exact Facts.cl_Two
  | with_reducible exact Facts.cl_Put
  | with_reducible exact Facts.cl_Tell
  | with_reducible exact Facts.cl_Store)
local macro_rules | `(tactic| walk_at "na") => `(tactic| first
  | with_reducible exact Facts.na_Get_to
  | with_reducible exact Facts.na_Get_sel
  | with_reducible exact Facts.na_Ask_to
  | with_reducible exact Facts.na_Ask_sel
  | with_reducible exact Facts.na_Cell_to
  | with_reducible exact Facts.na_Cell_source
  | with_reducible exact Facts.na_Two_to
  | with_reducible exact Facts.na_Two_op
  | with_reducible exact Facts.na_Two_one
  | with_reducible exact Facts.na_Two_other
  | with_reducible exact Facts.na_Put_sel
  | with_reducible exact Facts.na_Put_source
  | with_reducible exact Facts.na_Tell_sel
  | with_reducible exact Facts.na_Tell_source
  | with_reducible exact Facts.na_Store_at
  | with_reducible exact Facts.na_Store_source)
local macro_rules | `(tactic| walk_at "ty") => `(tactic| first
  | with_reducible exact ty_int
  | with_reducible exact ty_bl
  | with_reducible exact ty_str
  | with_reducible exact ty_non
  | ((with_reducible refine' ty_lst ?vv); (case vv => walk_at "tr"))
  | ((with_reducible refine' ty_sqT ?vv); (case vv => walk_at "tr"))
  | ((with_reducible refine' ty_dic ?vv); (case vv => walk_at "tr")))
local macro_rules | `(tactic| walk_at "ix") => `(tactic| first | exact at0 | exact at1 | exact at2 | assumption)
local macro_rules | `(tactic| walk_at "size") => `(tactic| first
  | assumption
  | (show _ < sizeLine; rw [sizeLine_eq]; (try simp only [List.length_cons, List.length_nil, List.length_append, List.length_map]); omega)
  | (show _ ≤ sizeLine; rw [sizeLine_eq]; (try simp only [List.length_cons, List.length_nil, List.length_append, List.length_map]); omega))
local macro_rules | `(tactic| walk_at "side") => `(tactic| first
  | assumption
  | ((with_reducible refine cdw ?_ ?_) <;> omega)
  | omega
  | (exact ⟨by omega, by omega⟩)
  | (exact Or.inl ⟨by omega, by omega⟩)
  | (exact Or.inr ⟨by omega, by omega⟩)
  | decide
  | (simp only [List.length_cons, List.length_nil, List.length_append, List.length_map]; omega)
  | (show _ ≤ _; decide))
local macro_rules | `(tactic| walk_at "as") => `(tactic| with_reducible assumption)
local macro_rules | `(tactic| walk_at "tr") => `(tactic| first
  | with_reducible assumption
  | with_reducible exact upd_same
  | ((with_reducible refine' SqL.of ?hh); (case hh => walk_at "as"))
  | ((with_reducible refine' SqT.of ?hh); (case hh => walk_at "as"))
  | ((with_reducible refine' Same.stm ?ee ?gg); (case ee => walk_at "as"); (case gg => walk_at "tr"))
  | ((with_reducible refine' Same.sqT ?ee ?gg); (case ee => walk_at "as"); (case gg => walk_at "tr"))
  | ((with_reducible refine' Same.sqL ?ee ?gg); (case ee => walk_at "as"); (case gg => walk_at "tr"))
  | ((with_reducible refine' Same.at ?ee ?gg); (case ee => walk_at "as"); (case gg => walk_at "tr"))
  | ((with_reducible refine' But.stm ?ee ?ff ?gg); (case ee => walk_at "as"); (case ff => walk_at "ne"); (case gg => walk_at "tr"))
  | ((with_reducible refine' But.tup ?ee ?ff ?gg); (case ee => walk_at "as"); (case ff => walk_at "tr1"); (case gg => walk_at "tr"))
  | ((with_reducible refine' But.sqT ?ee ?ff ?gg); (case ee => walk_at "as"); (case ff => walk_at "tr1"); (case gg => walk_at "tr"))
  | ((with_reducible refine' But.tupL ?ee ?ff ?gg); (case ee => walk_at "as"); (case ff => walk_at "tr1"); (case gg => walk_at "tr"))
  | ((with_reducible refine' But.sqTL ?ee ?ff ?gg); (case ee => walk_at "as"); (case ff => walk_at "tr1"); (case gg => walk_at "tr"))
  | ((with_reducible refine' But.sqL ?ee ?ff ?gg); (case ee => walk_at "as"); (case ff => walk_at "ne"); (case gg => walk_at "tr"))
  | ((with_reducible refine' But.at ?ee ?ff ?gg); (case ee => walk_at "as"); (case ff => walk_at "ne"); (case gg => walk_at "tr")))
local macro_rules | `(tactic| walk_at "ts") => `(tactic| first
  | with_reducible assumption
  | with_reducible exact TS.refl _
  | ((with_reducible refine' TS.trans ?gg (TS.of ?ee)); (case ee => walk_at "as"); (case gg => walk_at "ts"))
  | ((with_reducible refine' TS.trans ?gg (TS.butS ?ee ?ff)); (case ee => walk_at "as"); (case ff => walk_at "tr1"); (case gg => walk_at "ts"))
  | ((with_reducible refine' TS.trans ?gg (TS.butL ?ee ?ff)); (case ee => walk_at "as"); (case ff => walk_at "tr1"); (case gg => walk_at "ts"))
  | ((with_reducible refine' TS.trans ?gg (TS.butI ?ee ?ff)); (case ee => walk_at "as"); (case ff => walk_at "tr1"); (case gg => walk_at "ts")))
local macro_rules | `(tactic| walk_at "sm") => `(tactic| first
  | with_reducible assumption
  | with_reducible exact Same.refl _
  | ((with_reducible refine' Same.trans ?gg ?ee); (case ee => walk_at "as"); (case gg => walk_at "sm"))
  | ((with_reducible refine' But.new ?gg ?nn ?ee); (case ee => walk_at "as"); (case nn => walk_at "fr"); (case gg => walk_at "sm")))
local macro_rules | `(tactic| walk_at "fr") => `(tactic| first
  | with_reducible assumption
  | ((with_reducible refine' Same.back ?ee ?nn); (case nn => walk_at "as"); (case ee => walk_at "sm"))
  | ((with_reducible refine' But.back ?ee ?ff ?nn); (case nn => walk_at "as"); (case ff => walk_at "ne0"); (case ee => walk_at "bu")))
local macro_rules | `(tactic| walk_at "bu") => `(tactic| first
  | with_reducible assumption
  | with_reducible exact But.refl _ _
  | ((with_reducible refine' But.trans ?gg ?ee); (case ee => walk_at "as"); (case gg => walk_at "bu"))
  | ((with_reducible refine' But.trans ?gg (But.of ?ee)); (case ee => walk_at "as"); (case gg => walk_at "bu"))
  | ((with_reducible refine' But.new2 ?gg ?nn ?ee); (case ee => walk_at "as"); (case nn => walk_at "frB"); (case gg => walk_at "bu")))
local macro_rules | `(tactic| walk_at "frB") => `(tactic| first
  | with_reducible assumption
  | ((with_reducible refine' Same.back ?ee ?nn); (case nn => walk_at "as"); (case ee => walk_at "sm"))
  | ((with_reducible refine' But.back' ?ee ?ff ?nn); (case nn => walk_at "as"); (case ee => walk_at "bu"); (case ff => walk_at "tr1")))
local macro_rules | `(tactic| walk_at "tr1") => `(tactic| first
  | with_reducible assumption
  | ((with_reducible refine' Same.stm ?ee ?gg); (case ee => walk_at "as"); (case gg => walk_at "tr1"))
  | ((with_reducible refine' Same.at ?ee ?gg); (case ee => walk_at "as"); (case gg => walk_at "tr1"))
  | ((with_reducible refine' But.at ?ee ?ff ?gg); (case ee => walk_at "as"); (case ff => walk_at "ne0"); (case gg => walk_at "tr1"))
  | ((with_reducible refine' But.stm ?ee ?ff ?gg); (case ee => walk_at "as"); (case ff => walk_at "ne0"); (case gg => walk_at "tr1")))
local macro_rules | `(tactic| walk_at "ne0") => `(tactic| first
  | with_reducible assumption
  | (with_reducible apply Ne.symm; with_reducible assumption))
local macro_rules | `(tactic| walk_at "ne") => `(tactic| first
  | with_reducible assumption
  | (with_reducible apply Ne.symm; with_reducible assumption)
  | ((with_reducible refine' stm_ne ?hh ?nn); (case nn => walk_at "as"); (case hh => walk_at "tr1"))
  | ((with_reducible refine' ne_of_none ?hh ?nn); (case nn => walk_at "as"); (case hh => walk_at "tr1"))
  | ((with_reducible apply Ne.symm); (with_reducible refine' ne_of_none ?hh ?nn); (case nn => walk_at "as"); (case hh => walk_at "tr1")))
local macro_rules | `(tactic| walk_at "v") => `(tactic| first
  | with_reducible refine w_seq ?_
  | ((with_reducible refine' w_var ?vv ?_); (case vv => exact rfl))
  | with_reducible refine w_c ?_
  | with_reducible refine w_op ?_
  | with_reducible refine w_asg ?_
  | with_reducible refine w_gName ?_
  | with_reducible refine w_ret ?_
  | with_reducible refine w_ifS ?_
  | with_reducible refine w_drop ?_
  | with_reducible refine w_next ?_
  | with_reducible refine w_cons ?_
  | with_reducible refine w_nil ?_
  | with_reducible refine w_call ?_
  | with_reducible refine w_cb ?_
  | with_reducible refine w_rI0 ?_
  | with_reducible refine w_addI ?_
  | with_reducible refine w_eqI ?_
  | with_reducible refine w_neI ?_
  | with_reducible refine w_eqS ?_
  | with_reducible refine w_neS ?_
  | with_reducible refine w_eqB ?_
  | with_reducible refine w_neB ?_
  | with_reducible refine w_chain ?_
  | with_reducible refine w_test ?_
  | with_reducible refine w_tB ?_
  | with_reducible refine w_bl ?_
  | ((with_reducible refine' w_mulI ?vv ?_); (case vv => walk_at "side"))
  | ((with_reducible refine' w_rI ?vv ?_); (case vv => walk_at "side"))
  | with_reducible refine w_int1 ?_
  | with_reducible refine w_int1b ?_
  | with_reducible refine w_tup ?_
  | with_reducible refine w_lst ?_
  | with_reducible refine w_un ?_
  | with_reducible refine w_rU ?_
  | with_reducible refine w_not ?_
  | with_reducible refine w_notV ?_
  | with_reducible refine w_ifE ?_
  | with_reducible refine w_nT ?_
  | with_reducible refine w_nF ?_
  | with_reducible refine iteT ?_
  | with_reducible refine iteF ?_
  | ((with_reducible refine' w_ixT ?vv ?ww ?_); (case vv => walk_at "tr"); (case ww => walk_at "ix"))
  | ((with_reducible refine' w_ixL ?vv ?ww ?_); (case vv => walk_at "tr"); (case ww => walk_at "ix"))
  | with_reducible refine w_gSub ?_
  | ((with_reducible refine' w_setL ?vv ?ww ?_); (case vv => walk_at "tr"); (case ww => first | rfl | decide | assumption))
  | ((with_reducible refine' w_lenL ?vv ?_); (case vv => walk_at "tr"))
  | ((with_reducible refine' w_lenT ?vv ?_); (case vv => walk_at "tr"))
  | with_reducible refine w_max2 ?_
  | with_reducible refine w_max3 ?_
  | with_reducible refine w_din ?_
  | with_reducible refine w_dnotin ?_
  | with_reducible refine w_dput ?_
  | with_reducible refine w_min2 ?_
  | with_reducible refine w_bm ?_
  | with_reducible refine w_bm0 ?_
  | ((with_reducible refine' w_tyL ?vv ?_); (case vv => walk_at "tr"))
  | ((with_reducible refine' w_append ?vv ?ww ?_); (case vv => walk_at "tr"); (case ww => walk_at "size"))
  | ((with_reducible refine' w_size ?vv ?_); (case vv => walk_at "size"))
  | with_reducible refine w_forL ?_
  | with_reducible refine w_forT ?_
  | with_reducible refine w_forR1 ?_
  | with_reducible refine w_forR2 ?_
  | with_reducible refine w_lcL ?_
  | with_reducible refine w_lcT ?_
  | with_reducible refine w_lcR1 ?_
  | with_reducible refine w_yes ?_
  | with_reducible refine w_sl ?_
  | with_reducible refine w_noPart ?_
  | with_reducible refine w_part ?_
  | with_reducible refine w_int ?_
  | ((with_reducible refine' w_slL ?vv ?_); (case vv => walk_at "tr"))
  | ((with_reducible refine' w_seqL ?vv ?ww ?_); (case vv => walk_at "tr"); (case ww => rfl))
  | ((with_reducible refine' w_seqT ?vv ?ww ?_); (case vv => walk_at "tr"); (case ww => rfl))
  | with_reducible refine w_gNil ?_
  | with_reducible refine w_gCons ?_
  | with_reducible refine w_forZ ?_
  | with_reducible refine w_forM ?_
  | with_reducible refine w_forE ?_
  | with_reducible refine w_forV ?_
  | with_reducible refine w_lcZ ?_
  | with_reducible refine w_lcE ?_
  | ((with_reducible refine' w_isi (b := true) ?vv ?ww ?_); (case vv => walk_at "ty"); (case ww => decide +kernel))
  | ((with_reducible refine' w_isi (b := false) ?vv ?ww ?_); (case vv => walk_at "ty"); (case ww => decide +kernel))
  | with_reducible refine w_revL ?_
  | with_reducible refine w_pairN ?_
  | with_reducible refine w_pairC ?_
  | with_reducible refine w_dget ?_
  | with_reducible refine w_met ?_
  | ((with_reducible refine' w_metAt ?vv ?ww ?_); (case vv => walk_at "tr"); (case ww => rfl))
  | with_reducible refine w_mkI ?_
  | with_reducible refine w_fld ?_
  | ((with_reducible refine' w_fldAt ?vv ?cc ?nn ?ww ?_); (case vv => walk_at "tr"); (case cc => walk_at "cls"); (case nn => walk_at "na"); (case ww => rfl))
  | with_reducible refine w_sfld ?_
  | ((with_reducible refine' w_sfldAt ?vv ?cc ?nn ?ll ?ee ?_); (case vv => walk_at "tr"); (case cc => walk_at "cls"); (case nn => walk_at "na"); (case ll => simp); (case ee => rfl))
  | ((with_reducible refine' w_tupL ?vv ?_); (case vv => walk_at "tr"))
  | ((with_reducible refine' w_tupT ?vv ?_); (case vv => walk_at "tr"))
  | ((with_reducible refine' w_listL ?vv ?_); (case vv => walk_at "tr"))
  | ((with_reducible refine' w_listT ?vv ?_); (case vv => walk_at "tr"))
  | with_reducible refine w_tyS ?_
  | with_reducible refine w_lcZM ?_
  | with_reducible refine w_js ?_
  | with_reducible refine w_jsN ?_
  | ((with_reducible refine' w_jsP ?vv ?_); (case vv => walk_at "size"))
  | with_reducible refine w_fmt ?_
  | with_reducible refine w_forRR ?_
  | with_reducible refine w_retN ?_
  | with_reducible refine w_break ?_
  | with_reducible refine w_cont ?_)
local macro_rules | `(tactic| walk_at "w") => `(tactic| first
  | walk_at "v"
  | with_reducible refine w_or ?_
  | with_reducible refine w_and ?_
  | with_reducible refine w_andV ?_
  | with_reducible refine w_orV ?_)
local macro_rules | `(tactic| walk_at "wd") => `(tactic| first
  | walk_at "w"
  | ((with_reducible refine' w_decT ?vv ?_); (case vv => decide +kernel))
  | ((with_reducible refine' w_decF ?vv ?_); (case vv => decide +kernel)))
local macro_rules | `(tactic| walk_at "tz") => `(tactic| (intro S z; (repeat walk_at "w"); exact z))
local macro_rules | `(tactic| walk_at "wf") => `(tactic| first
  | walk_at "wd"
  | ((with_reducible refine' w_decF ?vv ?_); (case vv => with_reducible assumption)))
/-! ### steps: what they tell -/
def spTold (K : PySem.W.Frag) (C : Str) : Sp := fun vs H Q _ => ∃ p s, vs = [.ref p] ∧ StepAt K H p C s ∧ ∀ q H', Dp K H' (.ref q) s.d → Same H H' → H q = none → Q (.ref q) H'
theorem len_Get_told {K : PySem.W.Frag} {C : Str} {vs H Q E} (h : spTold K C vs H Q E) : vs.length = 1 := by obtain ⟨_, _, rfl, _⟩ := h; rfl
theorem len_Ask_told {K : PySem.W.Frag} {C : Str} {vs H Q E} (h : spTold K C vs H Q E) : vs.length = 1 := by obtain ⟨_, _, rfl, _⟩ := h; rfl
theorem len_Cell_told {K : PySem.W.Frag} {C : Str} {vs H Q E} (h : spTold K C vs H Q E) : vs.length = 1 := by obtain ⟨_, _, rfl, _⟩ := h; rfl
theorem len_Two_told {K : PySem.W.Frag} {C : Str} {vs H Q E} (h : spTold K C vs H Q E) : vs.length = 1 := by obtain ⟨_, _, rfl, _⟩ := h; rfl
theorem len_Put_told {K : PySem.W.Frag} {C : Str} {vs H Q E} (h : spTold K C vs H Q E) : vs.length = 1 := by obtain ⟨_, _, rfl, _⟩ := h; rfl
theorem len_Tell_told {K : PySem.W.Frag} {C : Str} {vs H Q E} (h : spTold K C vs H Q E) : vs.length = 1 := by obtain ⟨_, _, rfl, _⟩ := h; rfl
theorem len_Store_told {K : PySem.W.Frag} {C : Str} {vs H Q E} (h : spTold K C vs H Q E) : vs.length = 1 := by obtain ⟨_, _, rfl, _⟩ := h; rfl
section
variable {P : Program} {w : World} {K : PySem.W.Frag} {mg : Str → Option Value}
theorem ok_Get_told [c : Facts K mg] [ct : FactsT w K] {f : Addr} {fd : FuncData} (F : FunD K "told" "Get.told" (defArgs s_Get_told) (defBody s_Get_told) (defScope s_Get_told) [] [] f fd) : XL.FnA P w K mg f 1 ["self"] ((spTold K "Get")) := by
  refine XL.FnA.mk' F sc_Get_told (k := 0) (fun vs H Q E h => ?_) (fun _ _ _ _ _ _ us hl => match us, hl with | [_], _ => rfl) (fun base cdv A outer s H vs Q E hr h => ?_)
  · exact len_Get_told h
  · have nd := sc_Get_told.nd
    have hu := hu_of hr.r
    refine ⟨_, (PSs.nox (pss_one (ps_ret (pe_tup (pa_cons pe_str (pa_cons (pe_fldK (K := K) rfl (pv 0)) (pa_cons (pe_fldK (K := K) rfl (pv 0)) pa_nil))))))), ?_⟩
    try dsimp only [cxOf, Cx.nox, Cx.wish]
    obtain ⟨p, s, rfl, hs, q⟩ := h
    obtain ⟨a0, a1, dx, u0, u1, rfl, hp, rfl, h1⟩ := stp_Get hs
    repeat walk_at "w"
    exact w_new fun t H1 n1 s1 f1 => q t H1 (.tup (SqT.of f1) (.cons (.str _) (.cons (.int _) (.cons (dp_ts (TS.of s1) _ _ (sel_tup _) h1) .nil)))) s1 n1
theorem ok_Ask_told [c : Facts K mg] [ct : FactsT w K] {f : Addr} {fd : FuncData} (F : FunD K "told" "Ask.told" (defArgs s_Ask_told) (defBody s_Ask_told) (defScope s_Ask_told) [] [] f fd) : XL.FnA P w K mg f 1 ["self"] ((spTold K "Ask")) := by
  refine XL.FnA.mk' F sc_Ask_told (k := 0) (fun vs H Q E h => ?_) (fun _ _ _ _ _ _ us hl => match us, hl with | [_], _ => rfl) (fun base cdv A outer s H vs Q E hr h => ?_)
  · exact len_Ask_told h
  · have nd := sc_Ask_told.nd
    have hu := hu_of hr.r
    refine ⟨_, (PSs.nox (pss_one (ps_ret (pe_tup (pa_cons pe_str (pa_cons (pe_fldK (K := K) rfl (pv 0)) (pa_cons (pe_fldK (K := K) rfl (pv 0)) pa_nil))))))), ?_⟩
    try dsimp only [cxOf, Cx.nox, Cx.wish]
    obtain ⟨p, s, rfl, hs, q⟩ := h
    obtain ⟨a0, a1, dx, u0, u1, rfl, hp, rfl, h1⟩ := stp_Ask hs
    repeat walk_at "w"
    exact w_new fun t H1 n1 s1 f1 => q t H1 (.tup (SqT.of f1) (.cons (.str _) (.cons (.int _) (.cons (dp_ts (TS.of s1) _ _ (sel_tup _) h1) .nil)))) s1 n1
theorem ok_Cell_told [c : Facts K mg] [ct : FactsT w K] {f : Addr} {fd : FuncData} (F : FunD K "told" "Cell.told" (defArgs s_Cell_told) (defBody s_Cell_told) (defScope s_Cell_told) [] [] f fd) : XL.FnA P w K mg f 1 ["self"] ((spTold K "Cell")) := by
  refine XL.FnA.mk' F sc_Cell_told (k := 0) (fun vs H Q E h => ?_) (fun _ _ _ _ _ _ us hl => match us, hl with | [_], _ => rfl) (fun base cdv A outer s H vs Q E hr h => ?_)
  · exact len_Cell_told h
  · have nd := sc_Cell_told.nd
    have hu := hu_of hr.r
    refine ⟨_, (PSs.nox (pss_one (ps_ret (pe_tup (pa_cons pe_str (pa_cons (pe_fldK (K := K) rfl (pv 0)) (pa_cons (pe_fldK (K := K) rfl (pv 0)) pa_nil))))))), ?_⟩
    try dsimp only [cxOf, Cx.nox, Cx.wish]
    obtain ⟨p, s, rfl, hs, q⟩ := h
    obtain ⟨a0, a1, dx, u0, u1, rfl, hp, rfl, h1⟩ := stp_Cell hs
    repeat walk_at "w"
    exact w_new fun t H1 n1 s1 f1 => q t H1 (.tup (SqT.of f1) (.cons (.str _) (.cons (.int _) (.cons (dp_ts (TS.of s1) _ _ (src_tup _) h1) .nil)))) s1 n1
theorem ok_Two_told [c : Facts K mg] [ct : FactsT w K] {f : Addr} {fd : FuncData} (F : FunD K "told" "Two.told" (defArgs s_Two_told) (defBody s_Two_told) (defScope s_Two_told) [] [] f fd) : XL.FnA P w K mg f 1 ["self"] ((spTold K "Two")) := by
  refine XL.FnA.mk' F sc_Two_told (k := 0) (fun vs H Q E h => ?_) (fun _ _ _ _ _ _ us hl => match us, hl with | [_], _ => rfl) (fun base cdv A outer s H vs Q E hr h => ?_)
  · exact len_Two_told h
  · have nd := sc_Two_told.nd
    have hu := hu_of hr.r
    refine ⟨_, (PSs.nox (pss_one (ps_ret (pe_tup (pa_cons pe_str (pa_cons (pe_fldK (K := K) rfl (pv 0)) (pa_cons (pe_fldK (K := K) rfl (pv 0)) (pa_cons (pe_fldK (K := K) rfl (pv 0)) (pa_cons (pe_fldK (K := K) rfl (pv 0)) pa_nil))))))))), ?_⟩
    try dsimp only [cxOf, Cx.nox, Cx.wish]
    obtain ⟨p, s, rfl, hs, q⟩ := h
    obtain ⟨a0, a1, a2, a3, dx, u0, u1, u2, u3, rfl, hp, rfl, rfl, h2, h3⟩ := stp_Two hs
    repeat walk_at "w"
    exact w_new fun t H1 n1 s1 f1 => q t H1 (.tup (SqT.of f1) (.cons (.str _) (.cons (.int _) (.cons (.str _) (.cons (dp_ts (TS.of s1) _ _ (src_tup _) h2) (.cons (dp_ts (TS.of s1) _ _ (src_tup _) h3) .nil)))))) s1 n1
theorem ok_Put_told [c : Facts K mg] [ct : FactsT w K] {f : Addr} {fd : FuncData} (F : FunD K "told" "Put.told" (defArgs s_Put_told) (defBody s_Put_told) (defScope s_Put_told) [] [] f fd) : XL.FnA P w K mg f 1 ["self"] ((spTold K "Put")) := by
  refine XL.FnA.mk' F sc_Put_told (k := 0) (fun vs H Q E h => ?_) (fun _ _ _ _ _ _ us hl => match us, hl with | [_], _ => rfl) (fun base cdv A outer s H vs Q E hr h => ?_)
  · exact len_Put_told h
  · have nd := sc_Put_told.nd
    have hu := hu_of hr.r
    refine ⟨_, (PSs.nox (pss_one (ps_ret (pe_tup (pa_cons pe_str (pa_cons (pe_fldK (K := K) rfl (pv 0)) (pa_cons (pe_fldK (K := K) rfl (pv 0)) pa_nil))))))), ?_⟩
    try dsimp only [cxOf, Cx.nox, Cx.wish]
    obtain ⟨p, s, rfl, hs, q⟩ := h
    obtain ⟨a0, a1, dx, u0, u1, rfl, hp, h0, h1⟩ := stp_Put hs
    repeat walk_at "w"
    exact w_new fun t H1 n1 s1 f1 => q t H1 (.tup (SqT.of f1) (.cons (.str _) (.cons (dp_ts (TS.of s1) _ _ (sel_tup _) h0) (.cons (dp_ts (TS.of s1) _ _ (src_tup _) h1) .nil)))) s1 n1
theorem ok_Tell_told [c : Facts K mg] [ct : FactsT w K] {f : Addr} {fd : FuncData} (F : FunD K "told" "Tell.told" (defArgs s_Tell_told) (defBody s_Tell_told) (defScope s_Tell_told) [] [] f fd) : XL.FnA P w K mg f 1 ["self"] ((spTold K "Tell")) := by
  refine XL.FnA.mk' F sc_Tell_told (k := 0) (fun vs H Q E h => ?_) (fun _ _ _ _ _ _ us hl => match us, hl with | [_], _ => rfl) (fun base cdv A outer s H vs Q E hr h => ?_)
  · exact len_Tell_told h
  · have nd := sc_Tell_told.nd
    have hu := hu_of hr.r
    refine ⟨_, (PSs.nox (pss_one (ps_ret (pe_tup (pa_cons pe_str (pa_cons (pe_fldK (K := K) rfl (pv 0)) (pa_cons (pe_fldK (K := K) rfl (pv 0)) pa_nil))))))), ?_⟩
    try dsimp only [cxOf, Cx.nox, Cx.wish]
    obtain ⟨p, s, rfl, hs, q⟩ := h
    obtain ⟨a0, a1, dx, u0, u1, rfl, hp, h0, h1⟩ := stp_Tell hs
    repeat walk_at "w"
    exact w_new fun t H1 n1 s1 f1 => q t H1 (.tup (SqT.of f1) (.cons (.str _) (.cons (dp_ts (TS.of s1) _ _ (sel_tup _) h0) (.cons (dp_ts (TS.of s1) _ _ (src_tup _) h1) .nil)))) s1 n1
theorem ok_Store_told [c : Facts K mg] [ct : FactsT w K] {f : Addr} {fd : FuncData} (F : FunD K "told" "Store.told" (defArgs s_Store_told) (defBody s_Store_told) (defScope s_Store_told) [] [] f fd) : XL.FnA P w K mg f 1 ["self"] ((spTold K "Store")) := by
  refine XL.FnA.mk' F sc_Store_told (k := 0) (fun vs H Q E h => ?_) (fun _ _ _ _ _ _ us hl => match us, hl with | [_], _ => rfl) (fun base cdv A outer s H vs Q E hr h => ?_)
  · exact len_Store_told h
  · have nd := sc_Store_told.nd
    have hu := hu_of hr.r
    refine ⟨_, (PSs.nox (pss_one (ps_ret (pe_tup (pa_cons pe_str (pa_cons (pe_fldK (K := K) rfl (pv 0)) (pa_cons (pe_fldK (K := K) rfl (pv 0)) pa_nil))))))), ?_⟩
    try dsimp only [cxOf, Cx.nox, Cx.wish]
    obtain ⟨p, s, rfl, hs, q⟩ := h
    obtain ⟨a0, a1, dx, u0, u1, rfl, hp, h0, h1⟩ := stp_Store hs
    repeat walk_at "w"
    exact w_new fun t H1 n1 s1 f1 => q t H1 (.tup (SqT.of f1) (.cons (.str _) (.cons (dp_ts (TS.of s1) _ _ (src_tup _) h0) (.cons (dp_ts (TS.of s1) _ _ (src_tup _) h1) .nil)))) s1 n1
end

end J
namespace J
open PySem PySem.Spec PyProof.Rows L2
local macro_rules | `(tactic| walk_at "cls") => `(tactic| first
  | with_reducible exact Facts.cl_Step
  | with_reducible exact Facts.cl_Get
  | with_reducible exact Facts.cl_Ask
  | with_reducible exact Facts.cl_Cell
  | with_reducible exact Facts.cl_Two
  | with_reducible exact Facts.cl_Put
  | with_reducible exact Facts.cl_Tell
  | with_reducible exact Facts.cl_Store)
local macro_rules | `(tactic| walk_at "na") => `(tactic| first
  | with_reducible exact Facts.na_Get_to
  | with_reducible exact Facts.na_Get_sel
  | with_reducible exact Facts.na_Ask_to
  | with_reducible exact Facts.na_Ask_sel
  | with_reducible exact Facts.na_Cell_to
  | with_reducible exact Facts.na_Cell_source
  | with_reducible exact Facts.na_Two_to
  | with_reducible exact Facts.na_Two_op
  | with_reducible exact Facts.na_Two_one
  | with_reducible exact Facts.na_Two_other
  | with_reducible exact Facts.na_Put_sel
  | with_reducible exact Facts.na_Put_source
  | with_reducible exact Facts.na_Tell_sel
  | with_reducible exact Facts.na_Tell_source
  | with_reducible exact Facts.na_Store_at
  | with_reducible exact Facts.na_Store_source)
local macro_rules | `(tactic| walk_at "ty") => `(tactic| first
  | with_reducible exact ty_int
  | with_reducible exact ty_bl
  | with_reducible exact ty_str
  | with_reducible exact ty_non
  | ((with_reducible refine' ty_lst ?vv); (case vv => walk_at "tr"))
  | ((with_reducible refine' ty_sqT ?vv); (case vv => walk_at "tr"))
  | ((with_reducible refine' ty_dic ?vv); (case vv => walk_at "tr")))
local macro_rules | `(tactic| walk_at "ix") => `(tactic| first | exact at0 | exact at1 | exact at2 | assumption)
local macro_rules | `(tactic| walk_at "size") => `(tactic| first
  | assumption
  | (show _ < sizeLine; rw [sizeLine_eq]; (try simp only [List.length_cons, List.length_nil, List.length_append, List.length_map]); omega)
  | (show _ ≤ sizeLine; rw [sizeLine_eq]; (try simp only [List.length_cons, List.length_nil, List.length_append, List.length_map]); omega))
local macro_rules | `(tactic| walk_at "side") => `(tactic| first
  | assumption
  | ((with_reducible refine cdw ?_ ?_) <;> omega)
  | omega
  | (exact ⟨by omega, by omega⟩)
  | (exact Or.inl ⟨by omega, by omega⟩)
  | (exact Or.inr ⟨by omega, by omega⟩)
  | decide
  | (simp only [List.length_cons, List.length_nil, List.length_append, List.length_map]; omega)
  | (show _ ≤ _; decide))
local macro_rules | `(tactic| walk_at "as") => `(tactic| with_reducible assumption)
local macro_rules | `(tactic| walk_at "tr") => `(tactic| first
  | with_reducible assumption
  | with_reducible exact upd_same
  | ((with_reducible refine' SqL.of ?hh); (case hh => walk_at "as"))
  | ((with_reducible refine' SqT.of ?hh); (case hh => walk_at "as"))
  | ((with_reducible refine' Same.stm ?ee ?gg); (case ee => walk_at "as"); (case gg => walk_at "tr"))
  | ((with_reducible refine' Same.sqT ?ee ?gg); (case ee => walk_at "as"); (case gg => walk_at "tr"))
  | ((with_reducible refine' Same.sqL ?ee ?gg); (case ee => walk_at "as"); (case gg => walk_at "tr"))
  | ((with_reducible refine' Same.at ?ee ?gg); (case ee => walk_at "as"); (case gg => walk_at "tr"))
  | ((with_reducible refine' But.stm ?ee ?ff ?gg); (case ee => walk_at "as"); (case ff => walk_at "ne"); (case gg => walk_at "tr"))
  | ((with_reducible refine' But.tup ?ee ?ff ?gg); (case ee => walk_at "as"); (case ff => walk_at "tr1"); (case gg => walk_at "tr"))
  | ((with_reducible refine' But.sqT ?ee ?ff ?gg); (case ee => walk_at "as"); (case ff => walk_at "tr1"); (case gg => walk_at "tr"))
  | ((with_reducible refine' But.tupL ?ee ?ff ?gg); (case ee => walk_at "as"); (case ff => walk_at "tr1"); (case gg => walk_at "tr"))
  | ((with_reducible refine' But.sqTL ?ee ?ff ?gg); (case ee => walk_at "as"); (case ff => walk_at "tr1"); (case gg => walk_at "tr"))
  | ((with_reducible refine' But.sqL ?ee ?ff ?gg); (case ee => walk_at "as"); (case ff => walk_at "ne"); (case gg => walk_at "tr"))
  | ((with_reducible refine' But.at ?ee ?ff ?gg); (case ee => walk_at "as"); (case ff => walk_at "ne"); (case gg => walk_at "tr")))
local macro_rules | `(tactic| walk_at "ts") => `(tactic| first
  | with_reducible assumption
  | with_reducible exact TS.refl _
  | ((with_reducible refine' TS.trans ?gg (TS.of ?ee)); (case ee => walk_at "as"); (case gg => walk_at "ts"))
  | ((with_reducible refine' TS.trans ?gg (TS.butS ?ee ?ff)); (case ee => walk_at "as"); (case ff => walk_at "tr1"); (case gg => walk_at "ts"))
  | ((with_reducible refine' TS.trans ?gg (TS.butL ?ee ?ff)); (case ee => walk_at "as"); (case ff => walk_at "tr1"); (case gg => walk_at "ts"))
  | ((with_reducible refine' TS.trans ?gg (TS.butI ?ee ?ff)); (case ee => walk_at "as"); (case ff => walk_at "tr1"); (case gg => walk_at "ts")))
local macro_rules | `(tactic| walk_at "sm") => `(tactic| first
  | with_reducible assumption
  | with_reducible exact Same.refl _
  | ((with_reducible refine' Same.trans ?gg ?ee); (case ee => walk_at "as"); (case gg => walk_at "sm"))
  | ((with_reducible refine' But.new ?gg ?nn ?ee); (case ee => walk_at "as"); (case nn => walk_at "fr"); (case gg => walk_at "sm")))
local macro_rules | `(tactic| walk_at "fr") => `(tactic| first
  | with_reducible assumption
  | ((with_reducible refine' Same.back ?ee ?nn); (case nn => walk_at "as"); (case ee => walk_at "sm"))
  | ((with_reducible refine' But.back ?ee ?ff ?nn); (case nn => walk_at "as"); (case ff => walk_at "ne0"); (case ee => walk_at "bu")))
local macro_rules | `(tactic| walk_at "bu") => `(tactic| first
  | with_reducible assumption
  | with_reducible exact But.refl _ _
  | ((with_reducible refine' But.trans ?gg ?ee); (case ee => walk_at "as"); (case gg => walk_at "bu"))
  | ((with_reducible refine' But.trans ?gg (But.of ?ee)); (case ee => walk_at "as"); (case gg => walk_at "bu"))
  | ((with_reducible refine' But.new2 ?gg ?nn ?ee); (case ee => walk_at "as"); (case nn => walk_at "frB"); (case gg => walk_at "bu")))
local macro_rules | `(tactic| walk_at "frB") => `(tactic| first
  | with_reducible assumption
  | ((with_reducible refine' Same.back ?ee ?nn); (case nn => walk_at "as"); (case ee => walk_at "sm"))
  | ((with_reducible refine' But.back' ?ee ?ff ?nn); (case nn => walk_at "as"); (case ee => walk_at "bu"); (case ff => walk_at "tr1")))
local macro_rules | `(tactic| walk_at "tr1") => `(tactic| first
  | with_reducible assumption
  | ((with_reducible refine' Same.stm ?ee ?gg); (case ee => walk_at "as"); (case gg => walk_at "tr1"))
  | ((with_reducible refine' Same.at ?ee ?gg); (case ee => walk_at "as"); (case gg => walk_at "tr1"))
  | ((with_reducible refine' But.at ?ee ?ff ?gg); (case ee => walk_at "as"); (case ff => walk_at "ne0"); (case gg => walk_at "tr1"))
  | ((with_reducible refine' But.stm ?ee ?ff ?gg); (case ee => walk_at "as"); (case ff => walk_at "ne0"); (case gg => walk_at "tr1")))
local macro_rules | `(tactic| walk_at "ne0") => `(tactic| first
  | with_reducible assumption
  | (with_reducible apply Ne.symm; with_reducible assumption))
local macro_rules | `(tactic| walk_at "ne") => `(tactic| first
  | with_reducible assumption
  | (with_reducible apply Ne.symm; with_reducible assumption)
  | ((with_reducible refine' stm_ne ?hh ?nn); (case nn => walk_at "as"); (case hh => walk_at "tr1"))
  | ((with_reducible refine' ne_of_none ?hh ?nn); (case nn => walk_at "as"); (case hh => walk_at "tr1"))
  | ((with_reducible apply Ne.symm); (with_reducible refine' ne_of_none ?hh ?nn); (case nn => walk_at "as"); (case hh => walk_at "tr1")))
local macro_rules | `(tactic| walk_at "v") => `(tactic| first
  | with_reducible refine w_seq ?_
  | ((with_reducible refine' w_var ?vv ?_); (case vv => exact rfl))
  | with_reducible refine w_c ?_
  | with_reducible refine w_op ?_
  | with_reducible refine w_asg ?_
  | with_reducible refine w_gName ?_
  | with_reducible refine w_ret ?_
  | with_reducible refine w_ifS ?_
  | with_reducible refine w_drop ?_
  | with_reducible refine w_next ?_
  | with_reducible refine w_cons ?_
  | with_reducible refine w_nil ?_
  | with_reducible refine w_call ?_
  | with_reducible refine w_cb ?_
  | with_reducible refine w_rI0 ?_
  | with_reducible refine w_addI ?_
  | with_reducible refine w_eqI ?_
  | with_reducible refine w_neI ?_
  | with_reducible refine w_eqS ?_
  | with_reducible refine w_neS ?_
  | with_reducible refine w_eqB ?_
  | with_reducible refine w_neB ?_
  | with_reducible refine w_chain ?_
  | with_reducible refine w_test ?_
  | with_reducible refine w_tB ?_
  | with_reducible refine w_bl ?_
  | ((with_reducible refine' w_mulI ?vv ?_); (case vv => walk_at "side"))
  | ((with_reducible refine' w_rI ?vv ?_); (case vv => walk_at "side"))
  | with_reducible refine w_int1 ?_
  | with_reducible refine w_int1b ?_
  | with_reducible refine w_tup ?_
  | with_reducible refine w_lst ?_
  | with_reducible refine w_un ?_
  | with_reducible refine w_rU ?_
  | with_reducible refine w_not ?_
  | with_reducible refine w_notV ?_
  | with_reducible refine w_ifE ?_
  | with_reducible refine w_nT ?_
  | with_reducible refine w_nF ?_
  | with_reducible refine iteT ?_
  | with_reducible refine iteF ?_
  | ((with_reducible refine' w_ixT ?vv ?ww ?_); (case vv => walk_at "tr"); (case ww => walk_at "ix"))
  | ((with_reducible refine' w_ixL ?vv ?ww ?_); (case vv => walk_at "tr"); (case ww => walk_at "ix"))
  | with_reducible refine w_gSub ?_
  | ((with_reducible refine' w_setL ?vv ?ww ?_); (case vv => walk_at "tr"); (case ww => first | rfl | decide | assumption))
  | ((with_reducible refine' w_lenL ?vv ?_); (case vv => walk_at "tr"))
  | ((with_reducible refine' w_lenT ?vv ?_); (case vv => walk_at "tr"))
  | with_reducible refine w_max2 ?_
  | with_reducible refine w_max3 ?_
  | with_reducible refine w_din ?_
  | with_reducible refine w_dnotin ?_
  | with_reducible refine w_dput ?_
  | with_reducible refine w_min2 ?_
  | with_reducible refine w_bm ?_
  | with_reducible refine w_bm0 ?_
  | ((with_reducible refine' w_tyL ?vv ?_); (case vv => walk_at "tr"))
  | ((with_reducible refine' w_append ?vv ?ww ?_); (case vv => walk_at "tr"); (case ww => walk_at "size"))
  | ((with_reducible refine' w_size ?vv ?_); (case vv => walk_at "size"))
  | with_reducible refine w_forL ?_
  | with_reducible refine w_forT ?_
  | with_reducible refine w_forR1 ?_
  | with_reducible refine w_forR2 ?_
  | with_reducible refine w_lcL ?_
  | with_reducible refine w_lcT ?_
  | with_reducible refine w_lcR1 ?_
  | with_reducible refine w_yes ?_
  | with_reducible refine w_sl ?_
  | with_reducible refine w_noPart ?_
  | with_reducible refine w_part ?_
  | with_reducible refine w_int ?_
  | ((with_reducible refine' w_slL ?vv ?_); (case vv => walk_at "tr"))
  | ((with_reducible refine' w_seqL ?vv ?ww ?_); (case vv => walk_at "tr"); (case ww => rfl))
  | ((with_reducible refine' w_seqT ?vv ?ww ?_); (case vv => walk_at "tr"); (case ww => rfl))
  | with_reducible refine w_gNil ?_
  | with_reducible refine w_gCons ?_
  | with_reducible refine w_forZ ?_
  | with_reducible refine w_forM ?_
  | with_reducible refine w_forE ?_
  | with_reducible refine w_forV ?_
  | with_reducible refine w_lcZ ?_
  | with_reducible refine w_lcE ?_
  | ((with_reducible refine' w_isi (b := true) ?vv ?ww ?_); (case vv => walk_at "ty"); (case ww => decide +kernel))
  | ((with_reducible refine' w_isi (b := false) ?vv ?ww ?_); (case vv => walk_at "ty"); (case ww => decide +kernel))
  | with_reducible refine w_revL ?_
  | with_reducible refine w_pairN ?_
  | with_reducible refine w_pairC ?_
  | with_reducible refine w_dget ?_
  | with_reducible refine w_met ?_
  | ((with_reducible refine' w_metAt ?vv ?ww ?_); (case vv => walk_at "tr"); (case ww => rfl))
  | with_reducible refine w_mkI ?_
  | with_reducible refine w_fld ?_
  | ((with_reducible refine' w_fldAt ?vv ?cc ?nn ?ww ?_); (case vv => walk_at "tr"); (case cc => walk_at "cls"); (case nn => walk_at "na"); (case ww => rfl))
  | with_reducible refine w_sfld ?_
  | ((with_reducible refine' w_sfldAt ?vv ?cc ?nn ?ll ?ee ?_); (case vv => walk_at "tr"); (case cc => walk_at "cls"); (case nn => walk_at "na"); (case ll => simp); (case ee => rfl))
  | ((with_reducible refine' w_tupL ?vv ?_); (case vv => walk_at "tr"))
  | ((with_reducible refine' w_tupT ?vv ?_); (case vv => walk_at "tr"))
  | ((with_reducible refine' w_listL ?vv ?_); (case vv => walk_at "tr"))
  | ((with_reducible refine' w_listT ?vv ?_); (case vv => walk_at "tr"))
  | with_reducible refine w_tyS ?_
  | with_reducible refine w_lcZM ?_
  | with_reducible refine w_js ?_
  | with_reducible refine w_jsN ?_
  | ((with_reducible refine' w_jsP ?vv ?_); (case vv => walk_at "size"))
  | with_reducible refine w_fmt ?_
  | with_reducible refine w_forRR ?_
  | with_reducible refine w_retN ?_
  | with_reducible refine w_break ?_
  | with_reducible refine w_cont ?_)
local macro_rules | `(tactic| walk_at "w") => `(tactic| first
  | walk_at "v"
  | with_reducible refine w_or ?_
  | with_reducible refine w_and ?_
  | with_reducible refine w_andV ?_
  | with_reducible refine w_orV ?_)
local macro_rules | `(tactic| walk_at "wd") => `(tactic| first
  | walk_at "w"
  | ((with_reducible refine' w_decT ?vv ?_); (case vv => decide +kernel))
  | ((with_reducible refine' w_decF ?vv ?_); (case vv => decide +kernel)))
local macro_rules | `(tactic| walk_at "tz") => `(tactic| (intro S z; (repeat walk_at "w"); exact z))
local macro_rules | `(tactic| walk_at "wf") => `(tactic| first
  | walk_at "wd"
  | ((with_reducible refine' w_decF ?vv ?_); (case vv => with_reducible assumption)))
/-! ### k24: the law's own parts -/
def spLSteps (K : PySem.W.Frag) : Sp := fun vs H Q _ => ∃ (s : Addr) (m : Int), vs = [.ref s, .int m] ∧ Stm H s ∧ 0 ≤ m ∧ m ≤ 100 ∧ ∀ q us (L : List Stp) H', H' q = some (.lst us) → DpAll K H' us (L.map Stp.d) → (∀ c ∈ L, c.ok) → (L.length : Int) ≤ m → Stm H' s → But s H H' → H q = none → Q (.ref q) H'
theorem len_law_steps {K : PySem.W.Frag} {vs H Q E} (h : spLSteps K vs H Q E) : vs.length = 2 := by obtain ⟨_, _, rfl, _⟩ := h; rfl
theorem stps_tup : ∀ (L : List Stp), tupAll (L.map Stp.d) = true
  | [] => rfl
  | c :: L => by rw [List.map_cons, tupAll, stp_tup, stps_tup L]; rfl
theorem stp_depth (c : Stp) : c.d.depth ≤ 4 := by
  unfold Stp.d
  rw [PyData.depth, PyData.depthAll]
  have := depthAll_le (ds := c.args) (k := 1) fun d hd => by
    have g1 := fun a => (src_cln a).2
    have g2 := fun a => (sel_cln a).2
    have g3 : ∀ n : Int, (PyData.int n).depth ≤ 1 := fun n => by simp [PyData.depth]
    have g4 : ∀ n : Str, (PyData.str n).depth ≤ 1 := fun n => by simp [PyData.depth]
    cases c <;> simp only [Stp.args, List.mem_cons, List.not_mem_nil, or_false] at hd <;> (try rcases hd with rfl | rfl | rfl | rfl) <;> (try rcases hd with rfl | rfl) <;> first | exact g1 _ | exact g2 _ | exact g3 _ | exact g4 _
  have e : (PyData.str c.tag).depth ≤ 1 := by simp [PyData.depth]
  omega
theorem stps_clean : ∀ {L : List Stp}, (∀ c ∈ L, c.ok) → cleanAll (L.map Stp.d) = true
  | [], _ => by rw [List.map_nil, cleanAll]
  | c :: L, h => by
    rw [List.map_cons, cleanAll, (stp_cmp (h c List.mem_cons_self)).clean, stps_clean fun x hx => h x (List.mem_cons_of_mem _ hx)]; rfl
theorem stps_cmp {L : List Stp} (h : ∀ c ∈ L, c.ok) : Cmp (.list (L.map Stp.d)) := ⟨by rw [clean]; exact stps_clean h, by
  rw [PyData.depth]
  have := depthAll_le (ds := L.map Stp.d) (k := 4) fun d hd => by
    obtain ⟨c, _, rfl⟩ := List.mem_map.mp hd
    exact stp_depth c
  omega⟩
theorem nil_cmp : Cmp (.list []) := ⟨by rw [clean, cleanAll], by rw [PyData.depth, PyData.depthAll]; decide⟩
section
variable {P : Program} {w : World} {K : PySem.W.Frag} {mg : Str → Option Value}
theorem ok_law_steps [c : Facts K mg] [ct : FactsT w K] (G__law_step : XL.Fn P w K mg "_law_step" 3 ["stream", "many", "ways"] ((spStp K))) (G__law_take : XL.Fn P w K mg "_law_take" 1 ["stream", "many"] (spTake)) : XL.Fn P w K mg "_law_steps" 4 ["stream", "most"] ((spLSteps K)) := by
  obtain ⟨fd, F⟩ := c.d_law_steps
  refine XL.Fn.mk' F c.g_law_steps sc_law_steps (k := 3) (fun vs H Q E h => ?_) (fun _ _ _ _ _ _ us hl => match us, hl with | [_, _], _ => rfl) (fun base cdv A outer s H vs Q E hr h => ?_)
  · exact len_law_steps h
  · have nd := sc_law_steps.nd
    have hu := hu_of hr.r
    have hr__law_step : XL.Rm 3 _ := hr.mono (by omega)
    have hr__law_take : XL.Rm 1 _ := hr.mono (by omega)
    refine ⟨_, (PSs.nox (pss_cons (ps_set (i := 2) nd rfl (Or.inl rfl) (pe_ix (ix_any (K := K) rfl) (pe_lst (pa_cons pe_int (pa_cons pe_int (pa_cons pe_int (pa_cons pe_int (pa_cons pe_int (pa_cons pe_int pa_nil))))))) (XL.pe_fn G__law_take hr__law_take (by rfl) (pa_cons (pv 0) (pa_cons pe_int pa_nil))) (fun _ _ => rfl)))
      (pss_cons (ps_set (i := 3) nd rfl (Or.inl rfl) (pe_ix (ix_any (K := K) rfl) (pe_lst (pa_cons pe_int (pa_cons pe_int (pa_cons pe_int (pa_cons pe_int (pa_cons pe_int (pa_cons pe_int pa_nil))))))) (XL.pe_fn G__law_take hr__law_take (by rfl) (pa_cons (pv 0) (pa_cons pe_int pa_nil))) (fun _ _ => rfl)))
      (pss_cons (ps_set (i := 4) nd rfl (Or.inl rfl) (pe_lst pa_nil))
      (pss_cons (ps_for PassesOwn.never rfl (pi_range1 (by rfl) c.f_range (pa_cons (XL.pe_fn G__law_take hr__law_take (by rfl) (pa_cons (pv 0) (pa_cons (pe_op (op_addA (K := K) rfl) (pv 1) pe_int) pa_nil))) pa_nil)) (pg_name (i := 5) nd rfl (Or.inl rfl)) (pss_one (ps_if (PW.pt (pw_and (pt_cmpR (op_neA (K := K) rfl hr.units) (pv 4) (pe_lst pa_nil) (nomark _)) (pw_and1 (pt_cmpR (op_eqA (K := K) rfl hr.units) (XL.pe_fn G__law_take hr__law_take (by rfl) (pa_cons (pv 0) (pa_cons pe_int pa_nil))) pe_int (nomark _))))) (pss_one (ps_expr (pe_bm PySem.F.plainAttrs_list PySem.F.slot_list_append PySem.F.type_list_append mt_append (pv 4) (pa_cons (pe_ix (ix_any (K := K) rfl) (pv 4) (XL.pe_fn G__law_take hr__law_take (by rfl) (pa_cons (pv 0) (pa_cons (pe_callB (call_lenA (K := K) rfl) (by rfl) c.f_len boot_len (pa_cons (pv 4) pa_nil)) pa_nil))) (fun _ _ => rfl)) pa_nil)))) (pss_one (ps_expr (pe_bm PySem.F.plainAttrs_list PySem.F.slot_list_append PySem.F.type_list_append mt_append (pv 4) (pa_cons (XL.pe_fn G__law_step hr__law_step (by rfl) (pa_cons (pv 0) (pa_cons (pv 2) (pa_cons (pv 3) pa_nil)))) pa_nil)))))))
      (pss_one (ps_ret (pv 4)))))))), ?_⟩
    try dsimp only [cxOf, Cx.nox, Cx.wish]
    obtain ⟨s, m, rfl, hs, m0, m1, q⟩ := h
    have hz : sizeLine = 16777216 := sizeLine_eq
    repeat walk_at "w"
    refine w_new fun p1 H1 n1 s1 f1 => ?_
    have hs1 : Stm H1 s := s1.stm hs
    repeat walk_at "w"
    refine ⟨s, 6, rfl, hs1, by decide, by decide, fun d1 H2 d10 d11 hs2 e2 => ?_⟩
    refine w_ixIs (ns := [1, 2, 3, 5, 8, 8]) rfl (e2.sqL (stm_ne hs n1) (SqL.of f1)) d10 d11 fun many hm => ?_
    have mb : 0 < many ∧ many ≤ 8 := by simp only [List.mem_cons, List.not_mem_nil, or_false] at hm; omega
    repeat walk_at "w"
    refine w_new fun p3 H3 n3 s3 f3 => ?_
    have hs3 : Stm H3 s := s3.stm hs2
    repeat walk_at "w"
    refine ⟨s, 6, rfl, hs3, by decide, by decide, fun d2 H4 d20 d21 hs4 e4 => ?_⟩
    refine w_ixIs (ns := [12, 12, 24, 7, 6, 100]) rfl (e4.sqL (stm_ne hs2 n3) (SqL.of f3)) d20 d21 fun ways hw => ?_
    have wb : 0 < ways ∧ ways ≤ 1000 := by simp only [List.mem_cons, List.not_mem_nil, or_false] at hw; omega
    repeat walk_at "w"
    refine w_new fun F H5 n5 s5 f5 => ?_
    have hs5 : Stm H5 s := s5.stm hs4
    have nFs : F ≠ s := stm_ne hs4 n5
    have b05 : But s H H5 := (((But.of s1).trans e2).trans (But.of s3)).trans (e4.trans (But.of s5))
    have hF0 : H F = none := ((((But.of s1).trans e2).trans (But.of s3)).trans e4).back nFs n5
    repeat walk_at "w"
    refine ⟨s, m + 1, rfl, hs5, by omega, by omega, fun n H6 n0 n1' hs6 e6 => ?_⟩
    have hF6 := e6 _ _ nFs f5
    have b06 := b05.trans e6
    refine fl_rng1 (fun i σ H' => ∃ o5, σ = [some (.ref s), some (.int m), some (.int many), some (.int ways), some (.ref F), o5] ∧ Stm H' s ∧ But s H H' ∧ ∃ us, ∃ L : List Stp, H' F = some (.lst us) ∧ DpAll K H' us (L.map Stp.d) ∧ (∀ c ∈ L, c.ok) ∧ L.length = i) (by omega) (by omega)
      ⟨_, rfl, hs6, b06, [], [], hF6, .nil, fun _ h => (List.not_mem_nil h).elim, rfl⟩ (fun i σ H' hi hp => ?_) (fun σ H' hp => ?_)
    · obtain ⟨o5, rfl, hs', b', us, L, hF, hd, ok, hL⟩ := hp
      have hul : us.length = L.length := by rw [dpa_len hd, List.length_map]
      have fin : ∀ (σ' : L2.St) H8 H9 v (c : Stp), σ' = [some (.ref s), some (.int m), some (.int many), some (.int ways), some (.ref F), some (.int (i : Int))] → Stm H8 s → But s H' H8 → Dp K H8 v c.d → c.ok → But F H8 H9 → H9 F = some (.lst (us ++ [v])) →
          ∃ o5, σ' = [some (.ref s), some (.int m), some (.int many), some (.int ways), some (.ref F), o5] ∧ Stm H9 s ∧ But s H H9 ∧ ∃ us, ∃ L : List Stp, H9 F = some (.lst us) ∧ DpAll K H9 us (L.map Stp.d) ∧ (∀ c ∈ L, c.ok) ∧ L.length = i + 1 := fun σ' H8 H9 v c hσ hs8 b8 hv okc e9 f9 => by
        have hF8 := b8 _ _ nFs hF
        have t8 := TS.butS b8 hs'
        have t9 := TS.butL e9 hF8
        exact ⟨_, hσ, e9.stm nFs.symm hs8, But.new2 (b'.trans b8) hF0 e9, us ++ [v], L ++ [c], f9, by
          rw [List.map_append]
          exact dpa_app (dpAll_ts (t8.trans t9) _ _ (stps_tup L) hd) (dpa_one (dp_ts t9 _ _ (stp_tup c) hv)), fun x hx => (List.mem_append.mp hx).elim (ok x) fun z => by rw [List.mem_singleton.mp z]; exact okc, by rw [List.length_append, hL]; rfl⟩
      repeat walk_at "w"
      refine w_new fun z0 H7 n7 s7 f7 => ?_
      have hF7 := s7 _ _ hF
      have hs7 : Stm H7 s := s7.stm hs'
      have hd7 := dpAll_ts (TS.of s7) _ _ (stps_tup L) hd
      refine w_neP (.lst (SqL.of hF7) hd7) (.lst (SqL.of f7) .nil) (stps_cmp ok) nil_cmp fun b hb => ?_
      cases b with
      | true =>
        have hL0 : 0 < L.length := by
          cases L with
          | nil => exact ((hb.mp rfl) rfl).elim
          | cons a L => simp
        repeat walk_at "w"
        refine ⟨s, 6, rfl, hs7, by decide, by decide, fun z H8 z0 z1 hs8 e8 => ?_⟩
        have hF8 := e8 _ _ nFs hF7
        have hd8 := dpAll_ts (TS.butS e8 hs7) _ _ (stps_tup L) hd7
        repeat walk_at "w"
        refine ite2 (fun hk => ?_) (fun hk => ?_)
        · repeat walk_at "w"
          refine ⟨s, (us.length : Nat), rfl, hs8, by omega, by omega, fun j H9 j0 j1 hs9 e9 => ?_⟩
          have hF9 := e9 _ _ nFs hF8
          have hd9 := dpAll_ts (TS.butS e9 hs8) _ _ (stps_tup L) hd8
          obtain ⟨v, e1, _, e3⟩ := atI_some (xs := us) j0 (by omega)
          obtain ⟨d, g1, g2⟩ := dpa_at' hd9 e3
          rw [List.getElem?_map] at g1
          obtain ⟨c, hc, rfl⟩ := Option.map_eq_some_iff.mp g1
          repeat walk_at "w"
          try refine w_ixL (SqL.of hF9) e1 ?_
          repeat walk_at "w"
          try refine w_append hF9 (by rw [hz]; omega) ?_
          refine w_chg fun H10 e10 f10 => ?_
          exact fin _ H9 H10 v c rfl hs9 ((But.of s7).trans (e8.trans e9)) g2 (ok c (List.mem_of_getElem? hc)) e10 f10
        · repeat walk_at "w"
          refine ⟨s, many, ways, rfl, hs8, mb.1, mb.2, wb.1, wb.2, fun v c H9 hc oc hs9 e9 => ?_⟩
          have hF9 := e9 _ _ nFs hF8
          repeat walk_at "w"
          try refine w_append hF9 (by rw [hz]; omega) ?_
          refine w_chg fun H10 e10 f10 => ?_
          exact fin _ H9 H10 v c rfl hs9 ((But.of s7).trans (e8.trans e9)) hc oc e10 f10
      | false =>
        repeat walk_at "w"
        refine ⟨s, many, ways, rfl, hs7, mb.1, mb.2, wb.1, wb.2, fun v c H9 hc oc hs9 e9 => ?_⟩
        have hF9 := e9 _ _ nFs hF7
        repeat walk_at "w"
        try refine w_append hF9 (by rw [hz]; omega) ?_
        refine w_chg fun H10 e10 f10 => ?_
        exact fin _ H9 H10 v c rfl hs9 ((But.of s7).trans e9) hc oc e10 f10
    · obtain ⟨o5, rfl, hs', b', us, L, hF, hd, ok, hL⟩ := hp
      repeat walk_at "w"
      exact q F us L H' hF hd ok (by omega) hs' b' hF0
end

end J
namespace J
open PySem PySem.Spec PyProof.Rows L2
local macro_rules | `(tactic| walk_at "cls") => `(tactic| first
  | with_reducible exact Facts.cl_Step
  | with_reducible exact Facts.cl_Get
  | with_reducible exact Facts.cl_Ask
  | with_reducible exact Facts.cl_Cell
  | with_reducible exact Facts.cl_Two
  | with_reducible exact Facts.cl_Put
  | with_reducible exact Facts.cl_Tell
  | with_reducible exact Facts.cl_Store)
local macro_rules | `(tactic| walk_at "na") => `(tactic| first
  | with_reducible exact Facts.na_Get_to
  | with_reducible exact Facts.na_Get_sel
  | with_reducible exact Facts.na_Ask_to
  | with_reducible exact Facts.na_Ask_sel
  | with_reducible exact Facts.na_Cell_to
  | with_reducible exact Facts.na_Cell_source
  | with_reducible exact Facts.na_Two_to
  | with_reducible exact Facts.na_Two_op
  | with_reducible exact Facts.na_Two_one
  | with_reducible exact Facts.na_Two_other
  | with_reducible exact Facts.na_Put_sel
  | with_reducible exact Facts.na_Put_source
  | with_reducible exact Facts.na_Tell_sel
  | with_reducible exact Facts.na_Tell_source
  | with_reducible exact Facts.na_Store_at
  | with_reducible exact Facts.na_Store_source)
local macro_rules | `(tactic| walk_at "ty") => `(tactic| first
  | with_reducible exact ty_int
  | with_reducible exact ty_bl
  | with_reducible exact ty_str
  | with_reducible exact ty_non
  | ((with_reducible refine' ty_lst ?vv); (case vv => walk_at "tr"))
  | ((with_reducible refine' ty_sqT ?vv); (case vv => walk_at "tr"))
  | ((with_reducible refine' ty_dic ?vv); (case vv => walk_at "tr")))
local macro_rules | `(tactic| walk_at "ix") => `(tactic| first | exact at0 | exact at1 | exact at2 | assumption)
local macro_rules | `(tactic| walk_at "size") => `(tactic| first
  | assumption
  | (show _ < sizeLine; rw [sizeLine_eq]; (try simp only [List.length_cons, List.length_nil, List.length_append, List.length_map]); omega)
  | (show _ ≤ sizeLine; rw [sizeLine_eq]; (try simp only [List.length_cons, List.length_nil, List.length_append, List.length_map]); omega))
local macro_rules | `(tactic| walk_at "side") => `(tactic| first
  | assumption
  | ((with_reducible refine cdw ?_ ?_) <;> omega)
  | omega
  | (exact ⟨by omega, by omega⟩)
  | (exact Or.inl ⟨by omega, by omega⟩)
  | (exact Or.inr ⟨by omega, by omega⟩)
  | decide
  | (simp only [List.length_cons, List.length_nil, List.length_append, List.length_map]; omega)
  | (show _ ≤ _; decide))
local macro_rules | `(tactic| walk_at "as") => `(tactic| with_reducible assumption)
local macro_rules | `(tactic| walk_at "tr") => `(tactic| first
  | with_reducible assumption
  | with_reducible exact upd_same
  | ((with_reducible refine' SqL.of ?hh); (case hh => walk_at "as"))
  | ((with_reducible refine' SqT.of ?hh); (case hh => walk_at "as"))
  | ((with_reducible refine' Same.stm ?ee ?gg); (case ee => walk_at "as"); (case gg => walk_at "tr"))
  | ((with_reducible refine' Same.sqT ?ee ?gg); (case ee => walk_at "as"); (case gg => walk_at "tr"))
  | ((with_reducible refine' Same.sqL ?ee ?gg); (case ee => walk_at "as"); (case gg => walk_at "tr"))
  | ((with_reducible refine' Same.at ?ee ?gg); (case ee => walk_at "as"); (case gg => walk_at "tr"))
  | ((with_reducible refine' But.stm ?ee ?ff ?gg); (case ee => walk_at "as"); (case ff => walk_at "ne"); (case gg => walk_at "tr"))
  | ((with_reducible refine' But.tup ?ee ?ff ?gg); (case ee => walk_at "as"); (case ff => walk_at "tr1"); (case gg => walk_at "tr"))
  | ((with_reducible refine' But.sqT ?ee ?ff ?gg); (case ee => walk_at "as"); (case ff => walk_at "tr1"); (case gg => walk_at "tr"))
  | ((with_reducible refine' But.tupL ?ee ?ff ?gg); (case ee => walk_at "as"); (case ff => walk_at "tr1"); (case gg => walk_at "tr"))
  | ((with_reducible refine' But.sqTL ?ee ?ff ?gg); (case ee => walk_at "as"); (case ff => walk_at "tr1"); (case gg => walk_at "tr"))
  | ((with_reducible refine' But.sqL ?ee ?ff ?gg); (case ee => walk_at "as"); (case ff => walk_at "ne"); (case gg => walk_at "tr"))
  | ((with_reducible refine' But.at ?ee ?ff ?gg); (case ee => walk_at "as"); (case ff => walk_at "ne"); (case gg => walk_at "tr")))
local macro_rules | `(tactic| walk_at "ts") => `(tactic| first
  | with_reducible assumption
  | with_reducible exact TS.refl _
  | ((with_reducible refine' TS.trans ?gg (TS.of ?ee)); (case ee => walk_at "as"); (case gg => walk_at "ts"))
  | ((with_reducible refine' TS.trans ?gg (TS.butS ?ee ?ff)); (case ee => walk_at "as"); (case ff => walk_at "tr1"); (case gg => walk_at "ts"))
  | ((with_reducible refine' TS.trans ?gg (TS.butL ?ee ?ff)); (case ee => walk_at "as"); (case ff => walk_at "tr1"); (case gg => walk_at "ts"))
  | ((with_reducible refine' TS.trans ?gg (TS.butI ?ee ?ff)); (case ee => walk_at "as"); (case ff => walk_at "tr1"); (case gg => walk_at "ts")))
local macro_rules | `(tactic| walk_at "sm") => `(tactic| first
  | with_reducible assumption
  | with_reducible exact Same.refl _
  | ((with_reducible refine' Same.trans ?gg ?ee); (case ee => walk_at "as"); (case gg => walk_at "sm"))
  | ((with_reducible refine' But.new ?gg ?nn ?ee); (case ee => walk_at "as"); (case nn => walk_at "fr"); (case gg => walk_at "sm")))
local macro_rules | `(tactic| walk_at "fr") => `(tactic| first
  | with_reducible assumption
  | ((with_reducible refine' Same.back ?ee ?nn); (case nn => walk_at "as"); (case ee => walk_at "sm"))
  | ((with_reducible refine' But.back ?ee ?ff ?nn); (case nn => walk_at "as"); (case ff => walk_at "ne0"); (case ee => walk_at "bu")))
local macro_rules | `(tactic| walk_at "bu") => `(tactic| first
  | with_reducible assumption
  | with_reducible exact But.refl _ _
  | ((with_reducible refine' But.trans ?gg ?ee); (case ee => walk_at "as"); (case gg => walk_at "bu"))
  | ((with_reducible refine' But.trans ?gg (But.of ?ee)); (case ee => walk_at "as"); (case gg => walk_at "bu"))
  | ((with_reducible refine' But.new2 ?gg ?nn ?ee); (case ee => walk_at "as"); (case nn => walk_at "frB"); (case gg => walk_at "bu")))
local macro_rules | `(tactic| walk_at "frB") => `(tactic| first
  | with_reducible assumption
  | ((with_reducible refine' Same.back ?ee ?nn); (case nn => walk_at "as"); (case ee => walk_at "sm"))
  | ((with_reducible refine' But.back' ?ee ?ff ?nn); (case nn => walk_at "as"); (case ee => walk_at "bu"); (case ff => walk_at "tr1")))
local macro_rules | `(tactic| walk_at "tr1") => `(tactic| first
  | with_reducible assumption
  | ((with_reducible refine' Same.stm ?ee ?gg); (case ee => walk_at "as"); (case gg => walk_at "tr1"))
  | ((with_reducible refine' Same.at ?ee ?gg); (case ee => walk_at "as"); (case gg => walk_at "tr1"))
  | ((with_reducible refine' But.at ?ee ?ff ?gg); (case ee => walk_at "as"); (case ff => walk_at "ne0"); (case gg => walk_at "tr1"))
  | ((with_reducible refine' But.stm ?ee ?ff ?gg); (case ee => walk_at "as"); (case ff => walk_at "ne0"); (case gg => walk_at "tr1")))
local macro_rules | `(tactic| walk_at "ne0") => `(tactic| first
  | with_reducible assumption
  | (with_reducible apply Ne.symm; with_reducible assumption))
local macro_rules | `(tactic| walk_at "ne") => `(tactic| first
  | with_reducible assumption
  | (with_reducible apply Ne.symm; with_reducible assumption)
  | ((with_reducible refine' stm_ne ?hh ?nn); (case nn => walk_at "as"); (case hh => walk_at "tr1"))
  | ((with_reducible refine' ne_of_none ?hh ?nn); (case nn => walk_at "as"); (case hh => walk_at "tr1"))
  | ((with_reducible apply Ne.symm); (with_reducible refine' ne_of_none ?hh ?nn); (case nn => walk_at "as"); (case hh => walk_at "tr1")))
local macro_rules | `(tactic| walk_at "v") => `(tactic| first
  | with_reducible refine w_seq ?_
  | ((with_reducible refine' w_var ?vv ?_); (case vv => exact rfl))
  | with_reducible refine w_c ?_
  | with_reducible refine w_op ?_
  | with_reducible refine w_asg ?_
  | with_reducible refine w_gName ?_
  | with_reducible refine w_ret ?_
  | with_reducible refine w_ifS ?_
  | with_reducible refine w_drop ?_
  | with_reducible refine w_next ?_
  | with_reducible refine w_cons ?_
  | with_reducible refine w_nil ?_
  | with_reducible refine w_call ?_
  | with_reducible refine w_cb ?_
  | with_reducible refine w_rI0 ?_
  | with_reducible refine w_addI ?_
  | with_reducible refine w_eqI ?_
  | with_reducible refine w_neI ?_
  | with_reducible refine w_eqS ?_
  | with_reducible refine w_neS ?_
  | with_reducible refine w_eqB ?_
  | with_reducible refine w_neB ?_
  | with_reducible refine w_chain ?_
  | with_reducible refine w_test ?_
  | with_reducible refine w_tB ?_
  | with_reducible refine w_bl ?_
  | ((with_reducible refine' w_mulI ?vv ?_); (case vv => walk_at "side"))
  | ((with_reducible refine' w_rI ?vv ?_); (case vv => walk_at "side"))
  | with_reducible refine w_int1 ?_
  | with_reducible refine w_int1b ?_
  | with_reducible refine w_tup ?_
  | with_reducible refine w_lst ?_
  | with_reducible refine w_un ?_
  | with_reducible refine w_rU ?_
  | with_reducible refine w_not ?_
  | with_reducible refine w_notV ?_
  | with_reducible refine w_ifE ?_
  | with_reducible refine w_nT ?_
  | with_reducible refine w_nF ?_
  | with_reducible refine iteT ?_
  | with_reducible refine iteF ?_
  | ((with_reducible refine' w_ixT ?vv ?ww ?_); (case vv => walk_at "tr"); (case ww => walk_at "ix"))
  | ((with_reducible refine' w_ixL ?vv ?ww ?_); (case vv => walk_at "tr"); (case ww => walk_at "ix"))
  | with_reducible refine w_gSub ?_
  | ((with_reducible refine' w_setL ?vv ?ww ?_); (case vv => walk_at "tr"); (case ww => first | rfl | decide | assumption))
  | ((with_reducible refine' w_lenL ?vv ?_); (case vv => walk_at "tr"))
  | ((with_reducible refine' w_lenT ?vv ?_); (case vv => walk_at "tr"))
  | with_reducible refine w_max2 ?_
  | with_reducible refine w_max3 ?_
  | with_reducible refine w_din ?_
  | with_reducible refine w_dnotin ?_
  | with_reducible refine w_dput ?_
  | with_reducible refine w_min2 ?_
  | with_reducible refine w_bm ?_
  | with_reducible refine w_bm0 ?_
  | ((with_reducible refine' w_tyL ?vv ?_); (case vv => walk_at "tr"))
  | ((with_reducible refine' w_append ?vv ?ww ?_); (case vv => walk_at "tr"); (case ww => walk_at "size"))
  | ((with_reducible refine' w_size ?vv ?_); (case vv => walk_at "size"))
  | with_reducible refine w_forL ?_
  | with_reducible refine w_forT ?_
  | with_reducible refine w_forR1 ?_
  | with_reducible refine w_forR2 ?_
  | with_reducible refine w_lcL ?_
  | with_reducible refine w_lcT ?_
  | with_reducible refine w_lcR1 ?_
  | with_reducible refine w_yes ?_
  | with_reducible refine w_sl ?_
  | with_reducible refine w_noPart ?_
  | with_reducible refine w_part ?_
  | with_reducible refine w_int ?_
  | ((with_reducible refine' w_slL ?vv ?_); (case vv => walk_at "tr"))
  | ((with_reducible refine' w_seqL ?vv ?ww ?_); (case vv => walk_at "tr"); (case ww => rfl))
  | ((with_reducible refine' w_seqT ?vv ?ww ?_); (case vv => walk_at "tr"); (case ww => rfl))
  | with_reducible refine w_gNil ?_
  | with_reducible refine w_gCons ?_
  | with_reducible refine w_forZ ?_
  | with_reducible refine w_forM ?_
  | with_reducible refine w_forE ?_
  | with_reducible refine w_forV ?_
  | with_reducible refine w_lcZ ?_
  | with_reducible refine w_lcE ?_
  | ((with_reducible refine' w_isi (b := true) ?vv ?ww ?_); (case vv => walk_at "ty"); (case ww => decide +kernel))
  | ((with_reducible refine' w_isi (b := false) ?vv ?ww ?_); (case vv => walk_at "ty"); (case ww => decide +kernel))
  | with_reducible refine w_revL ?_
  | with_reducible refine w_pairN ?_
  | with_reducible refine w_pairC ?_
  | with_reducible refine w_dget ?_
  | with_reducible refine w_met ?_
  | ((with_reducible refine' w_metAt ?vv ?ww ?_); (case vv => walk_at "tr"); (case ww => rfl))
  | with_reducible refine w_mkI ?_
  | with_reducible refine w_fld ?_
  | ((with_reducible refine' w_fldAt ?vv ?cc ?nn ?ww ?_); (case vv => walk_at "tr"); (case cc => walk_at "cls"); (case nn => walk_at "na"); (case ww => rfl))
  | with_reducible refine w_sfld ?_
  | ((with_reducible refine' w_sfldAt ?vv ?cc ?nn ?ll ?ee ?_); (case vv => walk_at "tr"); (case cc => walk_at "cls"); (case nn => walk_at "na"); (case ll => simp); (case ee => rfl))
  | ((with_reducible refine' w_tupL ?vv ?_); (case vv => walk_at "tr"))
  | ((with_reducible refine' w_tupT ?vv ?_); (case vv => walk_at "tr"))
  | ((with_reducible refine' w_listL ?vv ?_); (case vv => walk_at "tr"))
  | ((with_reducible refine' w_listT ?vv ?_); (case vv => walk_at "tr"))
  | with_reducible refine w_tyS ?_
  | with_reducible refine w_lcZM ?_
  | with_reducible refine w_js ?_
  | with_reducible refine w_jsN ?_
  | ((with_reducible refine' w_jsP ?vv ?_); (case vv => walk_at "size"))
  | with_reducible refine w_fmt ?_
  | with_reducible refine w_forRR ?_
  | with_reducible refine w_retN ?_
  | with_reducible refine w_break ?_
  | with_reducible refine w_cont ?_)
local macro_rules | `(tactic| walk_at "w") => `(tactic| first
  | walk_at "v"
  | with_reducible refine w_or ?_
  | with_reducible refine w_and ?_
  | with_reducible refine w_andV ?_
  | with_reducible refine w_orV ?_)
local macro_rules | `(tactic| walk_at "wd") => `(tactic| first
  | walk_at "w"
  | ((with_reducible refine' w_decT ?vv ?_); (case vv => decide +kernel))
  | ((with_reducible refine' w_decF ?vv ?_); (case vv => decide +kernel)))
local macro_rules | `(tactic| walk_at "tz") => `(tactic| (intro S z; (repeat walk_at "w"); exact z))
local macro_rules | `(tactic| walk_at "wf") => `(tactic| first
  | walk_at "wd"
  | ((with_reducible refine' w_decF ?vv ?_); (case vv => with_reducible assumption)))
/-! ### k24: made, due -/
def spObj (K : PySem.W.Frag) : Sp := fun vs H Q _ => ∃ (s q1 : Addr) (us : List V) (L : List Stp), vs = [.ref s, .ref q1] ∧ Stm H s ∧ q1 ≠ s ∧ H q1 = some (.lst us) ∧ DpAll K H us (L.map Stp.d) ∧ (∀ c ∈ L, c.ok) ∧ L.length ≤ 900 ∧
  ∀ D ps H', H' D = some (.lst (ps.map V.ref)) → StepsIn K H' ps L → Stm H' s → But s H H' → H D = none → Q (.ref D) H'
theorem len_law_objects {K : PySem.W.Frag} {vs H Q E} (h : spObj K vs H Q E) : vs.length = 2 := by obtain ⟨_, _, _, _, rfl, _⟩ := h; rfl
def dueD (P : List (Stp × Nat)) : PyData := .list ((List.range (tops P)).map fun k => .list (((beatF P k).map fun i : Nat => (i : Int)).map PyData.int))
def spDue (K : PySem.W.Frag) : Sp := fun vs H Q _ => ∃ (q1 : Addr) (us : List V) (L : List Stp), vs = [.ref q1] ∧ H q1 = some (.lst us) ∧ DpAll K H us (L.map Stp.d) ∧ (∀ c ∈ L, c.ok) ∧ L.length ≤ 900 ∧
  ∀ D H', (∀ H2, (∀ b o, H b = none → H' b = some o → H2 b = some o) → Dp K H2 (.ref D) (dueD (prs L))) → Same H H' → Q (.ref D) H'
theorem len_law_due {K : PySem.W.Frag} {vs H Q E} (h : spDue K vs H Q E) : vs.length = 1 := by obtain ⟨_, _, _, rfl, _⟩ := h; rfl
def spSame (K : PySem.W.Frag) : Sp := fun vs H Q _ => ∃ (B D : Addr) (bs : List Addr) (P : List (Stp × Nat)), vs = [.ref B, .ref D] ∧ BeatsAt H B bs P ∧ Dp K H (.ref D) (dueD P) ∧ P.length ≤ 900 ∧ ∀ H', Same H H' → Q (.bl true) H'
theorem len_law_same {K : PySem.W.Frag} {vs H Q E} (h : spSame K vs H Q E) : vs.length = 2 := by obtain ⟨_, _, _, _, rfl, _⟩ := h; rfl
theorem sel_inj {l m : Sel} (h : l.d = m.d) : l = m := by
  obtain ⟨b, n⟩ := l
  obtain ⟨b', n'⟩ := m
  simp only [Sel.d, PyData.tuple.injEq, List.cons.injEq, PyData.str.injEq, PyData.int.injEq, and_true] at h
  have hn : n = n' := by omega
  subst hn
  cases b <;> cases b'
  · rfl
  · exact absurd h.1 (by show ¬ ("is" : Str) = "by"; decide +kernel)
  · exact absurd h.1 (by show ¬ ("by" : Str) = "is"; decide +kernel)
  · rfl
theorem src_inj {l m : Src} (h : l.d = m.d) : l = m := by
  simp only [Src.d, PyData.tuple.injEq, List.cons.injEq, PyData.str.injEq, PyData.int.injEq, and_true] at h
  obtain ⟨h1, h2⟩ := h
  cases l <;> cases m <;> simp only [Src.n] at h2 <;> first
    | exact absurd h1 (by simp only [Src.tag]; decide +kernel)
    | (have h2 := Int.ofNat.inj h2; rw [h2])
theorem stp_inj {c e : Stp} (h : c.d = e.d) : c = e := by
  simp only [Stp.d, PyData.tuple.injEq, List.cons.injEq, PyData.str.injEq] at h
  obtain ⟨h1, h2⟩ := h
  cases c <;> cases e <;> first
    | exact absurd h1 (by simp only [Stp.tag]; decide +kernel)
    | (simp only [Stp.args, List.cons.injEq, PyData.int.injEq, PyData.str.injEq, and_true, Int.natCast_inj] at h2
       first
        | (obtain ⟨a, b⟩ := h2; first | (rw [a, sel_inj b]) | (rw [a, src_inj b]) | (rw [sel_inj a, src_inj b]) | (rw [src_inj a, src_inj b]))
        | (obtain ⟨a, b, c, d⟩ := h2; rw [a, b, src_inj c, src_inj d]))
mutual
theorem key_inj : ∀ d e : PyData, clean d = true → clean e = true → tupD d = true → tupD e = true → NDX.keyD d = NDX.keyD e → d = e
  | .none, e, _, he, _, te, h => by cases e <;> simp [NDX.keyD, clean, tupD] at h he te <;> rfl
  | .int i, e, _, he, _, te, h => by cases e <;> simp [NDX.keyD, clean, tupD] at h he te; rw [h]
  | .str x, e, _, he, _, te, h => by cases e <;> simp [NDX.keyD, clean, tupD] at h he te; rw [h]
  | .tuple xs, e, hd, he, td, te, h => by
    cases e <;> simp [NDX.keyD, clean, tupD] at h he te
    rw [clean] at hd
    rw [tupD] at td
    rw [keyAll_inj xs _ hd he td te h]
  | .list _, _, _, _, td, _, _ => by simp [tupD] at td
  | .bool _, _, hd, _, _, _, _ => by simp [clean] at hd
  | .dict _, _, hd, _, _, _, _ => by simp [clean] at hd
theorem keyAll_inj : ∀ ds es : List PyData, cleanAll ds = true → cleanAll es = true → tupAll ds = true → tupAll es = true → NDX.keyAll ds = NDX.keyAll es → ds = es
  | [], [], _, _, _, _, _ => rfl
  | [], _ :: _, _, _, _, _, h => by simp [NDX.keyAll] at h
  | _ :: _, [], _, _, _, _, h => by simp [NDX.keyAll] at h
  | d :: ds, e :: es, hd, he, td, te, h => by
    simp only [NDX.keyAll, List.cons.injEq] at h
    simp only [cleanAll, Bool.and_eq_true] at hd he
    simp only [tupAll, Bool.and_eq_true] at td te
    rw [key_inj d e hd.1 he.1 td.1 te.1 h.1, keyAll_inj ds es hd.2 he.2 td.2 te.2 h.2]
end
theorem stp_key {c e : Stp} (hc : c.ok) (he : e.ok) (h : NDX.keyD c.d = NDX.keyD e.d) : c = e := stp_inj (key_inj _ _ (stp_cmp hc).clean (stp_cmp he).clean (stp_tup c) (stp_tup e) h)
theorem stp_kdepth (c : Stp) : (NDX.keyD c.d).depth ≤ 8 := by
  cases c <;> simp [Stp.d, Stp.args, Src.d, Sel.d, NDX.keyD, NDX.keyAll, NestedKey.depth, NestedKey.depthAll]
theorem NDAt.at {P : Program} {w : World} {H H' : Hp} {a : Addr} {xs : List NDX.Ent} (h : NDX.NDAt P w H a xs) (k : ∀ o, H a = some o → H' a = some o) : NDX.NDAt P w H' a xs := by
  rcases h with h | ⟨e, h⟩
  · exact .inl (k _ h)
  · exact .inr ⟨e, k _ h⟩
theorem nextN_spec (P : List (Stp × Nat)) (s : Stp) : (∀ p ∈ P, meetS p.1 s = true → p.2 + 1 ≤ nextN P s) ∧ (nextN P s = 0 ∨ ∃ p ∈ P, meetS p.1 s = true ∧ nextN P s = p.2 + 1) := by
  induction P using snocInd with
  | h0 => exact ⟨fun p h => (List.not_mem_nil h).elim, .inl rfl⟩
  | h1 P p ih =>
    obtain ⟨i1, i2⟩ := ih
    rw [nextN_snoc]
    constructor
    · intro x hx hm
      rcases List.mem_append.mp hx with h | h
      · have := i1 x h hm
        split <;> omega
      · have e := List.mem_singleton.mp h
        subst e
        by_cases c : nextN P s ≤ x.2
        · rw [if_pos ⟨c, hm⟩]; exact Nat.le_refl _
        · rw [if_neg (fun z => c z.1)]; omega
    · split
      · rename_i h
        exact .inr ⟨p, List.mem_append.mpr (.inr List.mem_cons_self), h.2, rfl⟩
      · rcases i2 with h | ⟨x, h1, h2, h3⟩
        · exact .inl h
        · exact .inr ⟨x, List.mem_append.mpr (.inl h1), h2, h3⟩
theorem tops_spec (P : List (Stp × Nat)) : (∀ p ∈ P, p.2 + 1 ≤ tops P) ∧ (tops P = 0 ∨ ∃ p ∈ P, tops P = p.2 + 1) := by
  induction P using snocInd with
  | h0 => exact ⟨fun p h => (List.not_mem_nil h).elim, .inl rfl⟩
  | h1 P p ih =>
    obtain ⟨i1, i2⟩ := ih
    rw [top_snoc]
    constructor
    · intro x hx
      rcases List.mem_append.mp hx with h | h
      · have := i1 x h; omega
      · rw [List.mem_singleton.mp h]; omega
    · by_cases c : tops P ≤ p.2 + 1
      · exact .inr ⟨p, List.mem_append.mpr (.inr List.mem_cons_self), by omega⟩
      · rcases i2 with h | ⟨x, h1, h2⟩
        · omega
        · exact .inr ⟨x, List.mem_append.mpr (.inl h1), by omega⟩
theorem w_maxOne {K : PySem.W.Frag} {H : Hp} {Q : VK} {a : Addr} {ns : List Int} {j : Int} (h : SqL K H a (ns.map V.int)) (k : ∀ m, (ns = [] ∧ m = j ∨ m ∈ ns ∧ ∀ y ∈ ns, y ≤ m) → Q (.int m) H) : MXD.rMaxDf K [.ref a] [.int j] H Q :=
  ⟨a, ns, j, rfl, rfl, h, fun e => k j (.inl ⟨e, rfl⟩), fun m hm hx => k m (.inr ⟨hm, hx⟩)⟩
theorem next_eq {P : List (Stp × Nat)} {s : Stp} {m : Int} (h : ((P.filter fun p => meetS p.1 s).map fun p => ((p.2 + 1 : Nat) : Int)) = [] ∧ m = 0 ∨ m ∈ ((P.filter fun p => meetS p.1 s).map fun p => ((p.2 + 1 : Nat) : Int)) ∧ ∀ y ∈ ((P.filter fun p => meetS p.1 s).map fun p => ((p.2 + 1 : Nat) : Int)), y ≤ m) : m = ((nextN P s : Nat) : Int) := by
  obtain ⟨i1, i2⟩ := nextN_spec P s
  rcases h with ⟨e, rfl⟩ | ⟨hm, hx⟩
  · rw [List.map_eq_nil_iff, List.filter_eq_nil_iff] at e
    rcases i2 with h | ⟨x, h1, h2, _⟩
    · rw [h]; rfl
    · exact (e x h1 h2).elim
  · obtain ⟨x, h1, rfl⟩ := List.mem_map.mp hm
    obtain ⟨h1, h2⟩ := List.mem_filter.mp h1
    have := i1 x h1 h2
    rcases i2 with h | ⟨y, g1, g2, g3⟩
    · omega
    · have := hx _ (List.mem_map.mpr ⟨y, List.mem_filter.mpr ⟨g1, g2⟩, rfl⟩)
      omega
theorem tops_eq {P : List (Stp × Nat)} {m : Int} (h : (P.map fun p => ((p.2 : Nat) : Int)) = [] ∧ m = -1 ∨ m ∈ (P.map fun p => ((p.2 : Nat) : Int)) ∧ ∀ y ∈ (P.map fun p => ((p.2 : Nat) : Int)), y ≤ m) : m + 1 = ((tops P : Nat) : Int) := by
  obtain ⟨i1, i2⟩ := tops_spec P
  rcases h with ⟨e, rfl⟩ | ⟨hm, hx⟩
  · rw [List.map_eq_nil_iff] at e
    subst e; rfl
  · obtain ⟨x, h1, rfl⟩ := List.mem_map.mp hm
    have := i1 x h1
    rcases i2 with h | ⟨y, g1, g2⟩
    · omega
    · have := hx _ (List.mem_map.mpr ⟨y, g1, rfl⟩)
      omega
theorem dpAll_of {K : PySem.W.Frag} {H : Hp} : ∀ (bs : List Addr) (f : Nat → PyData), (∀ (k : Nat) (b : Addr), bs[k]? = some b → Dp K H (.ref b) (f k)) → DpAll K H (bs.map V.ref) ((List.range bs.length).map f)
  | [], _, _ => .nil
  | b :: bs, f, h => by
    rw [List.length_cons, List.range_succ_eq_map, List.map_cons, List.map_cons, List.map_map]
    exact .cons (h 0 b rfl) (dpAll_of bs (fun k => f (k + 1)) fun k b' hk => h (k + 1) b' hk)
def intsN (l : List Nat) : List V := (l.map fun i : Nat => (i : Int)).map V.int
theorem dp_beats {K : PySem.W.Frag} {H : Hp} {B : Addr} {bs : List Addr} {P : List (Stp × Nat)} (h : H B = some (.lst (bs.map V.ref))) (hl : bs.length = tops P) (hb : ∀ (k : Nat) (b : Addr), bs[k]? = some b → H b = some (.lst (intsN (beatF P k)))) : Dp K H (.ref B) (dueD P) := by
  unfold dueD
  rw [← hl]
  exact .lst (SqL.of h) (dpAll_of bs _ fun k b hk => .lst (SqL.of (hb k b hk)) (dpAll_ints _))
theorem due_cmp (P : List (Stp × Nat)) : Cmp (dueD P) := by
  have ci : ∀ ns : List Int, cleanAll (ns.map PyData.int) = true := cleanAll_ints
  constructor
  · unfold dueD
    rw [clean]
    generalize List.range (tops P) = R
    induction R with
    | nil => rw [List.map_nil, cleanAll]
    | cons k R ih => rw [List.map_cons, cleanAll, clean, ci, ih]; rfl
  · unfold dueD
    rw [PyData.depth]
    have := depthAll_le (ds := (List.range (tops P)).map fun k => PyData.list (((beatF P k).map fun i : Nat => (i : Int)).map PyData.int)) (k := 2) fun d hd => by
      obtain ⟨k, _, rfl⟩ := List.mem_map.mp hd
      rw [PyData.depth, depthAll_ints]; decide
    omega
theorem in_false (n : Nat) : inV (.bl true) ((List.replicate n false).map V.bl) = false := by
  induction n with
  | zero => rfl
  | succ n ih =>
    rw [List.replicate_succ, List.map_cons]
    show (eqV (.bl false) (.bl true) || inV (.bl true) ((List.replicate n false).map V.bl)) = false
    rw [ih]; rfl
theorem flat_bls (bs : List Bool) : (bs.map V.bl).all flatV = true := by
  rw [List.all_eq_true]
  intro x hx
  obtain ⟨_, _, rfl⟩ := List.mem_map.mp hx
  rfl
theorem w_dnew {σ : L2.St} {H : Hp} {Q : VK} (k : NewO (.dK []) H Q) : tDNewK σ H Q := k
/-- tuples and things stay -/
def IS (H H' : Hp) : Prop := TS H H' ∧ ∀ (p C dx : Addr) (fs : List (Str × V)), H p = some (.ins C dx fs) → H' p = some (.ins C dx fs)
theorem IS.of {H H' : Hp} (e : Same H H') : IS H H' := ⟨TS.of e, fun p _ _ _ h => e p _ h⟩
theorem IS.trans {H H1 H2 : Hp} (a : IS H H1) (b : IS H1 H2) : IS H H2 := ⟨a.1.trans b.1, fun p C dx fs h => b.2 _ _ _ _ (a.2 _ _ _ _ h)⟩
def Plain (o : HO) : Prop := (∀ xs, o ≠ .tup xs) ∧ (∀ u y, o ≠ .frz u y) ∧ ∀ C dx fs, o ≠ .ins C dx fs
theorem IS.but {s : Addr} {o : HO} {H H' : Hp} (e : But s H H') (t : H s = some o) (n : Plain o) : IS H H' :=
  ⟨fun b xs => ⟨fun h => e b _ (ne_of h t fun z => n.1 _ z.symm) h, fun u h => e b _ (ne_of h t fun z => n.2.1 _ _ z.symm) h⟩, fun p C dx fs h => e p _ (ne_of h t fun z => n.2.2 _ _ _ z.symm) h⟩
theorem plain_lst {xs : List V} : Plain (.lst xs) := ⟨fun _ z => (nomatch z), fun _ _ z => (nomatch z), fun _ _ _ z => (nomatch z)⟩
theorem nd_obj {P : Program} {w : World} {H : Hp} {a : Addr} {xs : List NDX.Ent} (h : NDX.NDAt P w H a xs) : ∃ o, H a = some o ∧ Plain o ∧ ∀ l, o ≠ .lst l := by
  rcases h with h | ⟨_, h⟩
  · exact ⟨_, h, ⟨fun _ z => (nomatch z), fun _ _ z => (nomatch z), fun _ _ _ z => (nomatch z)⟩, fun _ z => (nomatch z)⟩
  · exact ⟨_, h, ⟨fun _ z => (nomatch z), fun _ _ z => (nomatch z), fun _ _ _ z => (nomatch z)⟩, fun _ z => (nomatch z)⟩
theorem IS.step {K : PySem.W.Frag} {H H' : Hp} {p : Addr} {C : Str} {s : Stp} (e : IS H H') (h : StepAt K H p C s) : StepAt K H' p C s := by
  obtain ⟨hc, dx, as, hp, ha⟩ := h
  exact ⟨hc, dx, as, e.2 _ _ _ _ hp, dpAll_ts e.1 _ _ (args_tup s) ha⟩
theorem IS.key {K : PySem.W.Frag} {H H' : Hp} {d : PyData} {b : Addr} (e : IS H H') (h : NDX.KeyAt K H d b) : NDX.KeyAt K H' d b := ⟨dp_ts e.1 _ _ h.2.1 h.1, h.2⟩
section
variable {P : Program} {w : World} {K : PySem.W.Frag} {mg : Str → Option Value}
theorem ok_law_objects [c : Facts K mg] [ct : FactsT w K] (G__law_take : XL.Fn P w K mg "_law_take" 1 ["stream", "many"] (spTake)) (G_step_of : XL.Fn P w K mg "step_of" 6 ["told"] ((spStepOf K))) : XL.Fn P w K mg "_law_objects" 8 ["stream", "told"] ((spObj K)) := by
  obtain ⟨fd, F⟩ := c.d_law_objects
  refine XL.Fn.mk' F c.g_law_objects sc_law_objects (k := 7) (fun vs H Q E h => ?_) (fun _ _ _ _ _ _ us hl => match us, hl with | [_, _], _ => rfl) (fun base cdv A outer s H vs Q E hr h => ?_)
  · exact len_law_objects h
  · have nd := sc_law_objects.nd
    have hu := hu_of hr.r
    have hr__law_take : XL.Rm 1 _ := hr.mono (by omega)
    have hr_step_of : XL.Rm 6 _ := hr.mono (by omega)
    refine ⟨_, (PSs.nox (pss_cons (ps_set (i := 2) nd rfl (Or.inr rfl) pe_dnewK)
      (pss_cons (ps_if (pt_cmpR (op_eqA (K := K) rfl hr.units) (XL.pe_fn G__law_take hr__law_take (by rfl) (pa_cons (pv 0) (pa_cons pe_int pa_nil))) pe_int (nomark _)) (pss_one (ps_ret (pe_lc (own := [("one", 3)]) rfl nd (pi_list (pv 1)) (blkOk_by (N := N_law_objects) (sc := defScope s_law_objects) (by decide +kernel)) (fun _ _ _ _ _ => (pg_name (i := 3) nd rfl (Or.inl rfl))) (fun _ _ _ _ _ => pts_nil) (fun _ _ _ _ _ => (XL.pe_fn G_step_of hr_step_of (by rfl) (pa_cons (pv 3) pa_nil)))))) pss_nil)
      (pss_one (ps_ret (pe_lc (own := [("one", 3)]) rfl nd (pi_list (pv 1)) (blkOk_by (N := N_law_objects) (sc := defScope s_law_objects) (by decide +kernel)) (fun _ _ _ _ _ => (pg_name (i := 3) nd rfl (Or.inl rfl))) (fun _ _ _ _ _ => pts_nil) (fun _ _ _ _ _ => (NDX.pe_dsetN (P := P) (w := w) (K := K) rfl rfl rfl hr.units (pv 2) (pv 3) (XL.pe_fn G_step_of hr_step_of (by rfl) (pa_cons (pv 3) pa_nil)) ⟨by rfl, by rfl, by rfl, by rfl⟩)))))))), ?_⟩
    try dsimp only [cxOf, Cx.nox, Cx.wish]
    obtain ⟨s, q1, us, L, rfl, hs, nqs, hq, hd, ok, hL, q⟩ := h
    have hz : sizeLine = 16777216 := sizeLine_eq
    have hul : us.length = L.length := by rw [dpa_len hd, List.length_map]
    repeat walk_at "w"
    refine w_dnew ?_
    refine w_new fun M H1 n1 s1 f1 => ?_
    have hs1 : Stm H1 s := s1.stm hs
    have nMs : M ≠ s := stm_ne hs n1
    repeat walk_at "w"
    refine ⟨s, 2, rfl, hs1, by decide, by decide, fun z H2 z0 z1 hs2 e2 => ?_⟩
    have b2 : But s H H2 := (But.of s1).trans e2
    have hq2 := b2 _ _ nqs hq
    have hd2 := dpAll_ts (TS.butS b2 hs) _ _ (stps_tup L) hd
    have hM2 := e2 _ _ nMs f1
    repeat walk_at "w"
    refine ite2 (fun hk => ?_) (fun hk => ?_)
    · repeat walk_at "w"
      refine lc_L us (fun D j ys H' => Same H2 H' ∧ ∃ ps : List Addr, ys = ps.map V.ref ∧ ps.length = j ∧ ∀ (i : Nat) (c : Stp), i < j → L[i]? = some c → ∃ p, ps[i]? = some p ∧ StepAt K H' p c.cls c) (SqL.of hq2)
        (fun D H' hD e f => ⟨e, [], rfl, rfl, fun _ _ h => by omega⟩) (fun D hD j ys H' hj hy hp => SqL.of (hp.1 _ _ hq2)) (fun D hD j x ys H' hx hll hy hp => ?_) (fun D hD ys H4 hll hy hp => ?_)
      · obtain ⟨e, ps, rfl, hpl, hps⟩ := hp
        obtain ⟨d, hd1, hdx⟩ := dpa_at' (dpAll_ts (TS.of e) _ _ (stps_tup L) hd2) hx
        rw [List.getElem?_map] at hd1
        obtain ⟨c, hc, rfl⟩ := Option.map_eq_some_iff.mp hd1
        have hjl := (List.getElem?_eq_some_iff.mp hc).1
        repeat walk_at "w"
        refine ⟨x, c, rfl, hdx, ok c (List.mem_of_getElem? hc), fun p H5 hp s5 n5 => ?_⟩
        have hy5 := s5 _ _ hy
        refine lc_end hy5 hll (by rw [hz, List.length_map]; omega) fun H6 e6 f6 => ?_
        have keep : ∀ {p : Addr} {c : Stp}, StepAt K H5 p c.cls c → StepAt K H6 p c.cls c := fun {p c} hp => hp.ts (TS.butL e6 hy5) fun o g => e6 _ _ (fun z => by
          obtain ⟨dx, as, g'⟩ := hp.at
          rw [z, hy5] at g'; cases g') g
        refine ⟨But.new (e.trans s5) hD e6, ps ++ [p], by rw [List.map_append]; rfl, by rw [List.length_append, hpl]; rfl, fun i c' hi hc' => ?_⟩
        by_cases h : i < j
        · obtain ⟨p', g1, g2⟩ := hps i c' h hc'
          exact ⟨p', by rw [List.getElem?_append_left (by omega)]; exact g1, keep (g2.sm s5)⟩
        · obtain rfl : i = j := by omega
          rw [hc] at hc'
          cases Option.some.inj hc'
          exact ⟨p, by rw [List.getElem?_append_right (by omega), hpl, Nat.sub_self]; rfl, keep hp⟩
      · obtain ⟨e34, ps, rfl, hpl, hps⟩ := hp
        exact q D ps H4 hy ⟨by omega, fun i c hc => hps i c (by have := (List.getElem?_eq_some_iff.mp hc).1; omega) hc⟩ (e34.stm hs2) (b2.trans (But.of e34)) (b2.back (stm_ne hs2 hD) hD)
    · repeat walk_at "w"
      have hM : H M = none := n1
      have nqM : q1 ≠ M := ne_of hq2 hM2 fun z => nomatch z
      refine lc_L us (fun D j ys H' => IS H2 H' ∧ But M H2 H' ∧ Stm H' s ∧ ∃ (xs : List NDX.Ent) (ps : List Addr), NDX.NDAt P w H' M xs ∧ xs.length ≤ j ∧ (∀ e ∈ xs, NDX.KeyAt K H' e.1 e.2.1 ∧ ∃ c : Stp, c.ok ∧ e.1 = c.d ∧ StepAt K H' e.2.2 c.cls c) ∧ ys = ps.map V.ref ∧ ps.length = j ∧ ∀ (i : Nat) (c : Stp), i < j → L[i]? = some c → ∃ p, ps[i]? = some p ∧ StepAt K H' p c.cls c) (SqL.of hq2)
        (fun D H' hD e f => ⟨IS.of e, But.of e, e.stm hs2, [], [], .inr ⟨rfl, e _ _ hM2⟩, Nat.le_refl _, fun _ h => (List.not_mem_nil h).elim, rfl, rfl, fun _ _ h => by omega⟩) (fun D hD j ys H' hj hy hp => SqL.of (hp.2.1 _ _ nqM hq2)) (fun D hD j x ys H' hx hll hy hp => ?_) (fun D hD ys H4 hll hy hp => ?_)
      · obtain ⟨i2, e, hs', xs, ps, hND, hxl, hxs, rfl, hpl, hps⟩ := hp
        have nDM : D ≠ M := fun z => by rw [z, hM2] at hD; cases hD
        have nDs : D ≠ s := stm_ne hs2 hD
        obtain ⟨d, hd1, hdx⟩ := dpa_at' (dpAll_ts i2.1 _ _ (stps_tup L) hd2) hx
        rw [List.getElem?_map] at hd1
        obtain ⟨c, hc, rfl⟩ := Option.map_eq_some_iff.mp hd1
        have hjl := (List.getElem?_eq_some_iff.mp hc).1
        have okc := ok c (List.mem_of_getElem? hc)
        obtain ⟨b, vs, rfl, _, _⟩ := tp_n hdx
        -- the turn's end
        have fin : ∀ Hu r H7 (xs' : List NDX.Ent), IS H' Hu → But M H' Hu → Hu D = some (.lst (ps.map V.ref)) → NDX.NDAt P w Hu M xs' → xs'.length ≤ j + 1 → (∀ e ∈ xs', NDX.KeyAt K Hu e.1 e.2.1 ∧ ∃ c : Stp, c.ok ∧ e.1 = c.d ∧ StepAt K Hu e.2.2 c.cls c) → StepAt K Hu r c.cls c → But D Hu H7 → H7 D = some (.lst (ps.map V.ref ++ [V.ref r])) →
            IS H2 H7 ∧ But M H2 H7 ∧ Stm H7 s ∧ ∃ (xs : List NDX.Ent) (ps' : List Addr), NDX.NDAt P w H7 M xs ∧ xs.length ≤ j + 1 ∧ (∀ e ∈ xs, NDX.KeyAt K H7 e.1 e.2.1 ∧ ∃ c : Stp, c.ok ∧ e.1 = c.d ∧ StepAt K H7 e.2.2 c.cls c) ∧ ps.map V.ref ++ [V.ref r] = ps'.map V.ref ∧ ps'.length = j + 1 ∧ ∀ (i : Nat) (c : Stp), i < j + 1 → L[i]? = some c → ∃ p, ps'[i]? = some p ∧ StepAt K H7 p c.cls c := fun Hu r H7 xs' iu bu hyu hNu hlu hku hru e7 f7 => by
          have i7 := IS.but e7 hyu plain_lst
          refine ⟨(i2.trans iu).trans i7, But.new2 (e.trans bu) hD e7, e7.stm nDs.symm (bu.stm nMs.symm hs'), xs', ps ++ [r], NDAt.at hNu fun o h => e7 _ _ nDM.symm h, hlu, fun x hx => ?_, by rw [List.map_append]; rfl, by rw [List.length_append, hpl]; rfl, fun i c' hi hc' => ?_⟩
          · obtain ⟨a1, c1, a2, a3, a4⟩ := hku x hx
            exact ⟨i7.key a1, c1, a2, a3, i7.step a4⟩
          · by_cases h : i < j
            · obtain ⟨p', g1, g2⟩ := hps i c' h hc'
              exact ⟨p', by rw [List.getElem?_append_left (by omega)]; exact g1, i7.step (iu.step g2)⟩
            · obtain rfl : i = j := by omega
              rw [hc] at hc'
              cases Option.some.inj hc'
              exact ⟨r, by rw [List.getElem?_append_right (by omega), hpl, Nat.sub_self]; rfl, i7.step hru⟩
        repeat walk_at "w"
        refine NDX.w_dsetN ?_
        repeat walk_at "w"
        refine ⟨M, rfl, ⟨xs, hND⟩, ?_⟩
        repeat walk_at "w"
        refine ⟨.ref b, c, rfl, hdx, okc, fun p H5 hp s5 n5 => ?_⟩
        have hy5 := s5 _ _ hy
        have hND5 : NDX.NDAt P w H5 M xs := NDAt.at hND fun o h => s5 _ _ h
        have hxs5 : ∀ e ∈ xs, NDX.KeyAt K H5 e.1 e.2.1 ∧ ∃ c : Stp, c.ok ∧ e.1 = c.d ∧ StepAt K H5 e.2.2 c.cls c := fun x hx => by
          obtain ⟨a1, c1, a2, a3, a4⟩ := hxs x hx
          exact ⟨(IS.of s5).key a1, c1, a2, a3, a4.sm s5⟩
        have hkey : NDX.KeyAt K H5 c.d b := ⟨dp_ts (TS.of s5) _ _ (stp_tup c) hdx, stp_tup c, stp_kdepth c⟩
        repeat walk_at "w"
        refine ⟨xs, c.d, b, p, hND5, rfl, rfl, by omega, fun x hx => (hxs5 x hx).1, hkey, fun x hx hk => ?_, fun hno => ?_⟩
        · obtain ⟨_, c1, o1, ec, hp1⟩ := hxs5 x hx
          rw [ec] at hk
          have := stp_key o1 okc hk
          subst this
          refine lc_end hy5 hll (by rw [hz, List.length_map]; omega) fun H7 e7 f7 => ?_
          exact fin H5 x.2.2 H7 xs (IS.of s5) (But.of s5) hy5 hND5 (by omega) hxs5 hp1 e7 f7
        · obtain ⟨o, ho, po, _⟩ := nd_obj hND5
          have bu : But M H5 (upd H5 M (NDX.NDO P w M (xs ++ [(c.d, b, p)]))) := But.upd M H5 _
          have iu := IS.but bu ho po
          have hyu := bu _ _ nDM hy5
          refine lc_end hyu hll (by rw [hz, List.length_map]; omega) fun H7 e7 f7 => ?_
          refine fin _ p H7 (xs ++ [(c.d, b, p)]) ((IS.of s5).trans iu) ((But.of s5).trans bu) hyu (.inl upd_same) (by rw [List.length_append]; simp only [List.length_singleton]; omega) (fun x hx => ?_) (iu.step hp) e7 f7
          rcases List.mem_append.mp hx with h | h
          · obtain ⟨a1, c1, a2, a3, a4⟩ := hxs5 x h
            exact ⟨iu.key a1, c1, a2, a3, iu.step a4⟩
          · rw [List.mem_singleton.mp h]
            exact ⟨iu.key hkey, c, okc, rfl, iu.step hp⟩
      · obtain ⟨i2, e, hs', xs, ps, hND, hxl, hxs, rfl, hpl, hps⟩ := hp
        exact q D ps H4 hy ⟨by omega, fun i c hc => hps i c (by have := (List.getElem?_eq_some_iff.mp hc).1; omega) hc⟩ hs' (But.new2 b2 hM e) (b2.back (stm_ne hs2 hD) hD)
end

end J
namespace J
open PySem PySem.Spec PyProof.Rows L2
--plain
/-! ### k25: the chain of the packing, plainly -/
theorem prs_take (L : List Stp) (a : Nat) : (prs L).take a = prs (L.take a) := by
  induction L using snocInd with
  | h0 => simp [prs]
  | h1 L s ih =>
    rw [prs_snoc]
    by_cases c : a ≤ L.length
    · rw [List.take_append_of_le_length (by rw [prs_len]; exact c), ih, List.take_append_of_le_length c]
    · rw [List.take_of_length_le (by rw [List.length_append, prs_len, List.length_singleton]; omega), List.take_of_length_le (l := L ++ [s]) (by rw [List.length_append, List.length_singleton]; omega), prs_snoc]
theorem prs_at {L : List Stp} {a : Nat} {s : Stp} (h : L[a]? = some s) : (prs L)[a]? = some (s, nextN (prs (L.take a)) s) := by
  have e : (prs L).take (a + 1) = prs (L.take a) ++ [(s, nextN (prs (L.take a)) s)] := by rw [prs_take, tk_snoc h, prs_snoc]
  have hl := (List.getElem?_eq_some_iff.mp h).1
  have e2 : ((prs L).take (a + 1))[a]? = (prs L)[a]? := List.getElem?_take_of_lt (Nat.lt_succ_self a)
  rw [← e2, e, List.getElem?_append_right (by rw [prs_len, List.length_take]; omega), prs_len, List.length_take, show a - min a L.length = 0 by omega]
  rfl
theorem prs_get {L : List Stp} {a : Nat} {p : Stp × Nat} (h : (prs L)[a]? = some p) : L[a]? = some p.1 := by
  have e : ((prs L).map (·.1))[a]? = some p.1 := by rw [List.getElem?_map, h]; rfl
  rwa [prs_fst] at e
theorem mem_beat {P : List (Stp × Nat)} {a k : Nat} : a ∈ beatF P k ↔ (P.map (·.2))[a]? = some k := by
  unfold beatF
  rw [List.mem_filter, List.mem_range, decide_eq_true_eq]
  constructor
  · exact fun h => h.2
  · intro h
    refine ⟨?_, h⟩
    have := (List.getElem?_eq_some_iff.mp h).1
    rwa [List.length_map] at this
theorem beat_asc (P : List (Stp × Nat)) (k : Nat) : (beatF P k).Pairwise (· < ·) := by
  unfold beatF
  exact List.Pairwise.filter _ List.pairwise_lt_range
theorem beat_num {L : List Stp} {a k : Nat} (h : a ∈ beatF (prs L) k) : ∃ s, L[a]? = some s ∧ (prs L)[a]? = some (s, k) := by
  rw [mem_beat, List.getElem?_map] at h
  obtain ⟨p, hp, rfl⟩ := Option.map_eq_some_iff.mp h
  exact ⟨p.1, prs_get hp, hp⟩
/-- whether the steps a and h meet -/
def meetL (L : List Stp) (a h : Nat) : Bool := match L[a]?, L[h]? with
  | some x, some y => meetS x y
  | _, _ => false
theorem meetL_of {L : List Stp} {a h : Nat} {x y : Stp} (ha : L[a]? = some x) (hh : L[h]? = some y) : meetL L a h = meetS x y := by unfold meetL; rw [ha, hh]
theorem beat_back {L : List Stp} {h k : Nat} (hh : h ∈ beatF (prs L) (k + 1)) : ∃ a, a ∈ beatF (prs L) k ∧ meetL L a h = true := by
  obtain ⟨s, hs, hp⟩ := beat_num hh
  rw [prs_at hs] at hp
  have hn : nextN (prs (L.take h)) s = k + 1 := congrArg Prod.snd (Option.some.inj hp)
  obtain ⟨_, z | ⟨p, hpm, hm, e⟩⟩ := nextN_spec (prs (L.take h)) s
  · omega
  · obtain ⟨a, ha⟩ := List.mem_iff_getElem?.mp hpm
    have hah : a < h := by
      have := (List.getElem?_eq_some_iff.mp ha).1
      rw [prs_len, List.length_take] at this
      omega
    rw [← prs_take, List.getElem?_take_of_lt hah] at ha
    refine ⟨a, mem_beat.mpr ?_, ?_⟩
    · rw [List.getElem?_map, ha]
      show some p.2 = some k
      congr 1; omega
    · rw [meetL_of (prs_get ha) hs, hm]
theorem beat_lt {L : List Stp} {a h k : Nat} (ha : a ∈ beatF (prs L) k) (hh : h ∈ beatF (prs L) (k + 1)) (m : meetL L a h = true) : a < h := by
  obtain ⟨x, hx, px⟩ := beat_num ha
  obtain ⟨y, hy, py⟩ := beat_num hh
  rw [meetL_of hx hy] at m
  by_cases c : a < h
  · exact c
  · exfalso
    have hne : h ≠ a := fun z => by
      rw [z, px] at py
      have := congrArg Prod.snd (Option.some.inj py)
      simp only at this
      omega
    have hlt : h < a := by omega
    rw [prs_at hx] at px
    have hn : nextN (prs (L.take a)) x = k := congrArg Prod.snd (Option.some.inj px)
    have hm : (y, k + 1) ∈ prs (L.take a) := by
      rw [← prs_take]
      exact List.mem_of_getElem? (by rw [List.getElem?_take_of_lt hlt]; exact py)
    have := (nextN_spec (prs (L.take a)) x).1 _ hm (by rw [meetS_comm]; exact m)
    simp only at this
    omega
theorem beat_last {L : List Stp} (h : 0 < tops (prs L)) : ∃ a, a ∈ beatF (prs L) (tops (prs L) - 1) := by
  obtain ⟨_, z | ⟨p, hp, e⟩⟩ := tops_spec (prs L)
  · omega
  · obtain ⟨a, ha⟩ := List.mem_iff_getElem?.mp hp
    refine ⟨a, mem_beat.mpr ?_⟩
    rw [List.getElem?_map, ha]
    show some p.2 = _
    congr 1; omega
/-- those of beat k that can stand ahead of f -/
def ableF (L : List Stp) (k : Nat) : List Nat → List Nat
  | [] => beatF (prs L) k
  | h :: _ => (beatF (prs L) k).filter fun a => meetL L a h
/-- the chain over the last j beats -/
def chF (L : List Stp) : Nat → List Nat
  | 0 => []
  | j + 1 => (ableF L (tops (prs L) - 1 - j) (chF L j)).take 1 ++ chF L j
theorem able_asc (L : List Stp) (k : Nat) (f : List Nat) : (ableF L k f).Pairwise (· < ·) := by
  cases f with
  | nil => exact beat_asc _ _
  | cons h t => exact List.Pairwise.filter _ (beat_asc _ _)
def ChL (L : List Stp) : List Nat → Prop
  | [] => True
  | [_] => True
  | a :: b :: t => (a < b ∧ meetL L a b = true) ∧ ChL L (b :: t)
theorem chF_ok (L : List Stp) : ∀ j, j ≤ tops (prs L) → ChL L (chF L j) ∧ (chF L j).length = j ∧ (∀ h t, chF L j = h :: t → h ∈ beatF (prs L) (tops (prs L) - j)) ∧ (j < tops (prs L) → ∃ a r, ableF L (tops (prs L) - 1 - j) (chF L j) = a :: r)
  | 0, _ => ⟨trivial, rfl, fun _ _ e => (by cases e), fun h => by
    obtain ⟨a, ha⟩ := beat_last h
    show ∃ a r, beatF (prs L) (tops (prs L) - 1 - 0) = a :: r
    rw [Nat.sub_zero]
    cases hb : beatF (prs L) (tops (prs L) - 1) with
    | nil => rw [hb] at ha; cases ha
    | cons x r => exact ⟨x, r, rfl⟩⟩
  | j + 1, hj => by
    obtain ⟨h1, h2, h3, h4⟩ := chF_ok L j (by omega)
    obtain ⟨a, r, hab⟩ := h4 (by omega)
    have e : chF L (j + 1) = a :: chF L j := by
      show (ableF L (tops (prs L) - 1 - j) (chF L j)).take 1 ++ chF L j = _
      rw [hab]; rfl
    have hk : tops (prs L) - 1 - j = tops (prs L) - (j + 1) := by omega
    have ham : a ∈ ableF L (tops (prs L) - (j + 1)) (chF L j) := by rw [← hk, hab]; exact List.mem_cons_self
    have hbeat : a ∈ beatF (prs L) (tops (prs L) - (j + 1)) := by
      cases hf : chF L j with
      | nil => rw [hf] at ham; exact ham
      | cons h t => rw [hf] at ham; exact (List.mem_filter.mp ham).1
    refine ⟨?_, by rw [e, List.length_cons, h2], fun h t he => ?_, fun hlt => ?_⟩
    · rw [e]
      cases hf : chF L j with
      | nil => exact trivial
      | cons h t =>
        rw [hf] at ham h1
        have hm := (List.mem_filter.mp ham).2
        have hh := h3 h t hf
        rw [show tops (prs L) - j = tops (prs L) - (j + 1) + 1 by omega] at hh
        exact ⟨⟨beat_lt hbeat hh hm, hm⟩, h1⟩
    · rw [e] at he
      injection he with he1 he2
      rw [← he1]; exact hbeat
    · rw [e]
      rw [show tops (prs L) - (j + 1) = tops (prs L) - 1 - (j + 1) + 1 by omega] at hbeat
      obtain ⟨b, hb, hm⟩ := beat_back hbeat
      have : b ∈ ableF L (tops (prs L) - 1 - (j + 1)) (a :: chF L j) := List.mem_filter.mpr ⟨hb, hm⟩
      cases hq : ableF L (tops (prs L) - 1 - (j + 1)) (a :: chF L j) with
      | nil => rw [hq] at this; cases this
      | cons x r => exact ⟨x, r, rfl⟩
theorem ChL.asc {L : List Stp} : ∀ {f : List Nat}, ChL L f → f.Pairwise (· < ·)
  | [], _ => .nil
  | [a], _ => List.pairwise_singleton _ _
  | a :: b :: t, h => by
    have ih := ChL.asc (f := b :: t) h.2
    refine List.pairwise_cons.mpr ⟨fun c hc => ?_, ih⟩
    rcases List.mem_cons.mp hc with rfl | hc
    · exact h.1.1
    · exact Nat.lt_trans h.1.1 ((List.pairwise_cons.mp ih).1 c hc)
theorem ChL.at {L : List Stp} : ∀ {f : List Nat} {i a b : Nat}, ChL L f → f[i]? = some a → f[i + 1]? = some b → meetL L a b = true
  | [], i, a, b, _, h, _ => by simp at h
  | [x], 0, a, b, _, _, h => by simp at h
  | [x], i + 1, a, b, _, h, _ => by simp at h
  | x :: y :: t, 0, a, b, c, h, g => by
    simp at h g; subst h; subst g
    exact c.1.2
  | x :: y :: t, i + 1, a, b, c, h, g => ChL.at (f := y :: t) (i := i) c.2 (by simpa using h) (by simpa using g)
theorem asc_one : ∀ {xs ys : List Int}, xs.Pairwise (· < ·) → ys.Pairwise (· < ·) → (∀ k, k ∈ xs ↔ k ∈ ys) → xs = ys
  | [], [], _, _, _ => rfl
  | [], y :: ys, _, _, h => by have := (h y).2 List.mem_cons_self; cases this
  | x :: xs, [], _, _, h => by have := (h x).1 List.mem_cons_self; cases this
  | x :: xs, y :: ys, hx, hy, h => by
    obtain ⟨a1, a2⟩ := List.pairwise_cons.mp hx
    obtain ⟨b1, b2⟩ := List.pairwise_cons.mp hy
    have e : x = y := by
      rcases List.mem_cons.mp ((h x).1 List.mem_cons_self) with z | z
      · exact z
      · rcases List.mem_cons.mp ((h y).2 List.mem_cons_self) with z' | z'
        · exact z'.symm
        · have := a1 _ z'; have := b1 _ z; omega
    subst e
    rw [asc_one a2 b2 fun k => ?_]
    constructor
    · intro hk
      rcases List.mem_cons.mp ((h k).1 (List.mem_cons_of_mem _ hk)) with z | z
      · have := a1 _ hk; omega
      · exact z
    · intro hk
      rcases List.mem_cons.mp ((h k).2 (List.mem_cons_of_mem _ hk)) with z | z
      · have := b1 _ hk; omega
      · exact z
theorem chF_mem {L : List Stp} {j : Nat} (hj : j ≤ tops (prs L)) : ∀ a ∈ chF L j, a < L.length := by
  induction j with
  | zero => intro a h; cases h
  | succ j ih =>
    intro a h
    rcases List.mem_append.mp h with g | g
    · have g1 := List.mem_of_mem_take g
      have : a ∈ beatF (prs L) (tops (prs L) - 1 - j) := by
        cases hf : chF L j with
        | nil => rw [hf] at g1; exact g1
        | cons h t => rw [hf] at g1; exact (List.mem_filter.mp g1).1
      obtain ⟨s, hs, _⟩ := beat_num this
      exact (List.getElem?_eq_some_iff.mp hs).1
    · exact ih (by omega) a g

end J
namespace J
open PySem PySem.Spec PyProof.Rows L2
local macro_rules | `(tactic| walk_at "cls") => `(tactic| first
  | with_reducible exact Facts.cl_Step
  | with_reducible exact Facts.cl_Get
  | with_reducible exact Facts.cl_Ask
  | with_reducible exact Facts.cl_Cell
  | with_reducible exact Facts.cl_Two
  | with_reducible exact Facts.cl_Put
  | with_reducible exact Facts.cl_Tell
  | with_reducible exact Facts.cl_Store)
local macro_rules | `(tactic| walk_at "na") => `(tactic| first
  | with_reducible exact Facts.na_Get_to
  | with_reducible exact Facts.na_Get_sel
  | with_reducible exact Facts.na_Ask_to
  | with_reducible exact Facts.na_Ask_sel
  | with_reducible exact Facts.na_Cell_to
  | with_reducible exact Facts.na_Cell_source
  | with_reducible exact Facts.na_Two_to
  | with_reducible exact Facts.na_Two_op
  | with_reducible exact Facts.na_Two_one
  | with_reducible exact Facts.na_Two_other
  | with_reducible exact Facts.na_Put_sel
  | with_reducible exact Facts.na_Put_source
  | with_reducible exact Facts.na_Tell_sel
  | with_reducible exact Facts.na_Tell_source
  | with_reducible exact Facts.na_Store_at
  | with_reducible exact Facts.na_Store_source)
local macro_rules | `(tactic| walk_at "ty") => `(tactic| first
  | with_reducible exact ty_int
  | with_reducible exact ty_bl
  | with_reducible exact ty_str
  | with_reducible exact ty_non
  | ((with_reducible refine' ty_lst ?vv); (case vv => walk_at "tr"))
  | ((with_reducible refine' ty_sqT ?vv); (case vv => walk_at "tr"))
  | ((with_reducible refine' ty_dic ?vv); (case vv => walk_at "tr")))
local macro_rules | `(tactic| walk_at "ix") => `(tactic| first | exact at0 | exact at1 | exact at2 | assumption)
local macro_rules | `(tactic| walk_at "size") => `(tactic| first
  | assumption
  | (show _ < sizeLine; rw [sizeLine_eq]; (try simp only [List.length_cons, List.length_nil, List.length_append, List.length_map]); omega)
  | (show _ ≤ sizeLine; rw [sizeLine_eq]; (try simp only [List.length_cons, List.length_nil, List.length_append, List.length_map]); omega))
local macro_rules | `(tactic| walk_at "side") => `(tactic| first
  | assumption
  | ((with_reducible refine cdw ?_ ?_) <;> omega)
  | omega
  | (exact ⟨by omega, by omega⟩)
  | (exact Or.inl ⟨by omega, by omega⟩)
  | (exact Or.inr ⟨by omega, by omega⟩)
  | decide
  | (simp only [List.length_cons, List.length_nil, List.length_append, List.length_map]; omega)
  | (show _ ≤ _; decide))
local macro_rules | `(tactic| walk_at "as") => `(tactic| with_reducible assumption)
local macro_rules | `(tactic| walk_at "tr") => `(tactic| first
  | with_reducible assumption
  | with_reducible exact upd_same
  | ((with_reducible refine' SqL.of ?hh); (case hh => walk_at "as"))
  | ((with_reducible refine' SqT.of ?hh); (case hh => walk_at "as"))
  | ((with_reducible refine' Same.stm ?ee ?gg); (case ee => walk_at "as"); (case gg => walk_at "tr"))
  | ((with_reducible refine' Same.sqT ?ee ?gg); (case ee => walk_at "as"); (case gg => walk_at "tr"))
  | ((with_reducible refine' Same.sqL ?ee ?gg); (case ee => walk_at "as"); (case gg => walk_at "tr"))
  | ((with_reducible refine' Same.at ?ee ?gg); (case ee => walk_at "as"); (case gg => walk_at "tr"))
  | ((with_reducible refine' But.stm ?ee ?ff ?gg); (case ee => walk_at "as"); (case ff => walk_at "ne"); (case gg => walk_at "tr"))
  | ((with_reducible refine' But.tup ?ee ?ff ?gg); (case ee => walk_at "as"); (case ff => walk_at "tr1"); (case gg => walk_at "tr"))
  | ((with_reducible refine' But.sqT ?ee ?ff ?gg); (case ee => walk_at "as"); (case ff => walk_at "tr1"); (case gg => walk_at "tr"))
  | ((with_reducible refine' But.tupL ?ee ?ff ?gg); (case ee => walk_at "as"); (case ff => walk_at "tr1"); (case gg => walk_at "tr"))
  | ((with_reducible refine' But.sqTL ?ee ?ff ?gg); (case ee => walk_at "as"); (case ff => walk_at "tr1"); (case gg => walk_at "tr"))
  | ((with_reducible refine' But.sqL ?ee ?ff ?gg); (case ee => walk_at "as"); (case ff => walk_at "ne"); (case gg => walk_at "tr"))
  | ((with_reducible refine' But.at ?ee ?ff ?gg); (case ee => walk_at "as"); (case ff => walk_at "ne"); (case gg => walk_at "tr")))
local macro_rules | `(tactic| walk_at "ts") => `(tactic| first
  | with_reducible assumption
  | with_reducible exact TS.refl _
  | ((with_reducible refine' TS.trans ?gg (TS.of ?ee)); (case ee => walk_at "as"); (case gg => walk_at "ts"))
  | ((with_reducible refine' TS.trans ?gg (TS.butS ?ee ?ff)); (case ee => walk_at "as"); (case ff => walk_at "tr1"); (case gg => walk_at "ts"))
  | ((with_reducible refine' TS.trans ?gg (TS.butL ?ee ?ff)); (case ee => walk_at "as"); (case ff => walk_at "tr1"); (case gg => walk_at "ts"))
  | ((with_reducible refine' TS.trans ?gg (TS.butI ?ee ?ff)); (case ee => walk_at "as"); (case ff => walk_at "tr1"); (case gg => walk_at "ts")))
local macro_rules | `(tactic| walk_at "sm") => `(tactic| first
  | with_reducible assumption
  | with_reducible exact Same.refl _
  | ((with_reducible refine' Same.trans ?gg ?ee); (case ee => walk_at "as"); (case gg => walk_at "sm"))
  | ((with_reducible refine' But.new ?gg ?nn ?ee); (case ee => walk_at "as"); (case nn => walk_at "fr"); (case gg => walk_at "sm")))
local macro_rules | `(tactic| walk_at "fr") => `(tactic| first
  | with_reducible assumption
  | ((with_reducible refine' Same.back ?ee ?nn); (case nn => walk_at "as"); (case ee => walk_at "sm"))
  | ((with_reducible refine' But.back ?ee ?ff ?nn); (case nn => walk_at "as"); (case ff => walk_at "ne0"); (case ee => walk_at "bu")))
local macro_rules | `(tactic| walk_at "bu") => `(tactic| first
  | with_reducible assumption
  | with_reducible exact But.refl _ _
  | ((with_reducible refine' But.trans ?gg ?ee); (case ee => walk_at "as"); (case gg => walk_at "bu"))
  | ((with_reducible refine' But.trans ?gg (But.of ?ee)); (case ee => walk_at "as"); (case gg => walk_at "bu"))
  | ((with_reducible refine' But.new2 ?gg ?nn ?ee); (case ee => walk_at "as"); (case nn => walk_at "frB"); (case gg => walk_at "bu")))
local macro_rules | `(tactic| walk_at "frB") => `(tactic| first
  | with_reducible assumption
  | ((with_reducible refine' Same.back ?ee ?nn); (case nn => walk_at "as"); (case ee => walk_at "sm"))
  | ((with_reducible refine' But.back' ?ee ?ff ?nn); (case nn => walk_at "as"); (case ee => walk_at "bu"); (case ff => walk_at "tr1")))
local macro_rules | `(tactic| walk_at "tr1") => `(tactic| first
  | with_reducible assumption
  | ((with_reducible refine' Same.stm ?ee ?gg); (case ee => walk_at "as"); (case gg => walk_at "tr1"))
  | ((with_reducible refine' Same.at ?ee ?gg); (case ee => walk_at "as"); (case gg => walk_at "tr1"))
  | ((with_reducible refine' But.at ?ee ?ff ?gg); (case ee => walk_at "as"); (case ff => walk_at "ne0"); (case gg => walk_at "tr1"))
  | ((with_reducible refine' But.stm ?ee ?ff ?gg); (case ee => walk_at "as"); (case ff => walk_at "ne0"); (case gg => walk_at "tr1")))
local macro_rules | `(tactic| walk_at "ne0") => `(tactic| first
  | with_reducible assumption
  | (with_reducible apply Ne.symm; with_reducible assumption))
local macro_rules | `(tactic| walk_at "ne") => `(tactic| first
  | with_reducible assumption
  | (with_reducible apply Ne.symm; with_reducible assumption)
  | ((with_reducible refine' stm_ne ?hh ?nn); (case nn => walk_at "as"); (case hh => walk_at "tr1"))
  | ((with_reducible refine' ne_of_none ?hh ?nn); (case nn => walk_at "as"); (case hh => walk_at "tr1"))
  | ((with_reducible apply Ne.symm); (with_reducible refine' ne_of_none ?hh ?nn); (case nn => walk_at "as"); (case hh => walk_at "tr1")))
local macro_rules | `(tactic| walk_at "v") => `(tactic| first
  | with_reducible refine w_seq ?_
  | ((with_reducible refine' w_var ?vv ?_); (case vv => exact rfl))
  | with_reducible refine w_c ?_
  | with_reducible refine w_op ?_
  | with_reducible refine w_asg ?_
  | with_reducible refine w_gName ?_
  | with_reducible refine w_ret ?_
  | with_reducible refine w_ifS ?_
  | with_reducible refine w_drop ?_
  | with_reducible refine w_next ?_
  | with_reducible refine w_cons ?_
  | with_reducible refine w_nil ?_
  | with_reducible refine w_call ?_
  | with_reducible refine w_cb ?_
  | with_reducible refine w_rI0 ?_
  | with_reducible refine w_addI ?_
  | with_reducible refine w_eqI ?_
  | with_reducible refine w_neI ?_
  | with_reducible refine w_eqS ?_
  | with_reducible refine w_neS ?_
  | with_reducible refine w_eqB ?_
  | with_reducible refine w_neB ?_
  | with_reducible refine w_chain ?_
  | with_reducible refine w_test ?_
  | with_reducible refine w_tB ?_
  | with_reducible refine w_bl ?_
  | ((with_reducible refine' w_mulI ?vv ?_); (case vv => walk_at "side"))
  | ((with_reducible refine' w_rI ?vv ?_); (case vv => walk_at "side"))
  | with_reducible refine w_int1 ?_
  | with_reducible refine w_int1b ?_
  | with_reducible refine w_tup ?_
  | with_reducible refine w_lst ?_
  | with_reducible refine w_un ?_
  | with_reducible refine w_rU ?_
  | with_reducible refine w_not ?_
  | with_reducible refine w_notV ?_
  | with_reducible refine w_ifE ?_
  | with_reducible refine w_nT ?_
  | with_reducible refine w_nF ?_
  | with_reducible refine iteT ?_
  | with_reducible refine iteF ?_
  | ((with_reducible refine' w_ixT ?vv ?ww ?_); (case vv => walk_at "tr"); (case ww => walk_at "ix"))
  | ((with_reducible refine' w_ixL ?vv ?ww ?_); (case vv => walk_at "tr"); (case ww => walk_at "ix"))
  | with_reducible refine w_gSub ?_
  | ((with_reducible refine' w_setL ?vv ?ww ?_); (case vv => walk_at "tr"); (case ww => first | rfl | decide | assumption))
  | ((with_reducible refine' w_lenL ?vv ?_); (case vv => walk_at "tr"))
  | ((with_reducible refine' w_lenT ?vv ?_); (case vv => walk_at "tr"))
  | with_reducible refine w_max2 ?_
  | with_reducible refine w_max3 ?_
  | with_reducible refine w_din ?_
  | with_reducible refine w_dnotin ?_
  | with_reducible refine w_dput ?_
  | with_reducible refine w_min2 ?_
  | with_reducible refine w_bm ?_
  | with_reducible refine w_bm0 ?_
  | ((with_reducible refine' w_tyL ?vv ?_); (case vv => walk_at "tr"))
  | ((with_reducible refine' w_append ?vv ?ww ?_); (case vv => walk_at "tr"); (case ww => walk_at "size"))
  | ((with_reducible refine' w_size ?vv ?_); (case vv => walk_at "size"))
  | with_reducible refine w_forL ?_
  | with_reducible refine w_forT ?_
  | with_reducible refine w_forR1 ?_
  | with_reducible refine w_forR2 ?_
  | with_reducible refine w_lcL ?_
  | with_reducible refine w_lcT ?_
  | with_reducible refine w_lcR1 ?_
  | with_reducible refine w_yes ?_
  | with_reducible refine w_sl ?_
  | with_reducible refine w_noPart ?_
  | with_reducible refine w_part ?_
  | with_reducible refine w_int ?_
  | ((with_reducible refine' w_slL ?vv ?_); (case vv => walk_at "tr"))
  | ((with_reducible refine' w_seqL ?vv ?ww ?_); (case vv => walk_at "tr"); (case ww => rfl))
  | ((with_reducible refine' w_seqT ?vv ?ww ?_); (case vv => walk_at "tr"); (case ww => rfl))
  | with_reducible refine w_gNil ?_
  | with_reducible refine w_gCons ?_
  | with_reducible refine w_forZ ?_
  | with_reducible refine w_forM ?_
  | with_reducible refine w_forE ?_
  | with_reducible refine w_forV ?_
  | with_reducible refine w_lcZ ?_
  | with_reducible refine w_lcE ?_
  | ((with_reducible refine' w_isi (b := true) ?vv ?ww ?_); (case vv => walk_at "ty"); (case ww => decide +kernel))
  | ((with_reducible refine' w_isi (b := false) ?vv ?ww ?_); (case vv => walk_at "ty"); (case ww => decide +kernel))
  | with_reducible refine w_revL ?_
  | with_reducible refine w_pairN ?_
  | with_reducible refine w_pairC ?_
  | with_reducible refine w_dget ?_
  | with_reducible refine w_met ?_
  | ((with_reducible refine' w_metAt ?vv ?ww ?_); (case vv => walk_at "tr"); (case ww => rfl))
  | with_reducible refine w_mkI ?_
  | with_reducible refine w_fld ?_
  | ((with_reducible refine' w_fldAt ?vv ?cc ?nn ?ww ?_); (case vv => walk_at "tr"); (case cc => walk_at "cls"); (case nn => walk_at "na"); (case ww => rfl))
  | with_reducible refine w_sfld ?_
  | ((with_reducible refine' w_sfldAt ?vv ?cc ?nn ?ll ?ee ?_); (case vv => walk_at "tr"); (case cc => walk_at "cls"); (case nn => walk_at "na"); (case ll => simp); (case ee => rfl))
  | ((with_reducible refine' w_tupL ?vv ?_); (case vv => walk_at "tr"))
  | ((with_reducible refine' w_tupT ?vv ?_); (case vv => walk_at "tr"))
  | ((with_reducible refine' w_listL ?vv ?_); (case vv => walk_at "tr"))
  | ((with_reducible refine' w_listT ?vv ?_); (case vv => walk_at "tr"))
  | with_reducible refine w_tyS ?_
  | with_reducible refine w_lcZM ?_
  | with_reducible refine w_js ?_
  | with_reducible refine w_jsN ?_
  | ((with_reducible refine' w_jsP ?vv ?_); (case vv => walk_at "size"))
  | with_reducible refine w_fmt ?_
  | with_reducible refine w_forRR ?_
  | with_reducible refine w_retN ?_
  | with_reducible refine w_break ?_
  | with_reducible refine w_cont ?_)
local macro_rules | `(tactic| walk_at "w") => `(tactic| first
  | walk_at "v"
  | with_reducible refine w_or ?_
  | with_reducible refine w_and ?_
  | with_reducible refine w_andV ?_
  | with_reducible refine w_orV ?_)
local macro_rules | `(tactic| walk_at "wd") => `(tactic| first
  | walk_at "w"
  | ((with_reducible refine' w_decT ?vv ?_); (case vv => decide +kernel))
  | ((with_reducible refine' w_decF ?vv ?_); (case vv => decide +kernel)))
local macro_rules | `(tactic| walk_at "tz") => `(tactic| (intro S z; (repeat walk_at "w"); exact z))
local macro_rules | `(tactic| walk_at "wf") => `(tactic| first
  | walk_at "wd"
  | ((with_reducible refine' w_decF ?vv ?_); (case vv => with_reducible assumption)))
/-! ### k25: beats, chain -/
def spBeats (K : PySem.W.Frag) : Sp := fun vs H Q _ => ∃ (q1 : Addr) (us : List V) (L : List Stp), vs = [.ref q1] ∧ H q1 = some (.lst us) ∧ DpAll K H us (L.map Stp.d) ∧ (∀ c ∈ L, c.ok) ∧ L.length ≤ 900 ∧
  ∀ B bs H', BeatsAt H' B bs (prs L) → Same H H' → H B = none → (∀ b ∈ bs, H b = none) → Q (.ref B) H'
theorem len_law_beats {K : PySem.W.Frag} {vs H Q E} (h : spBeats K vs H Q E) : vs.length = 1 := by obtain ⟨_, _, _, rfl, _⟩ := h; rfl
def spChain (K : PySem.W.Frag) : Sp := fun vs H Q _ => ∃ (q : Addr) (ps : List Addr) (L : List Stp), vs = [.ref q] ∧ (SqL K H q (ps.map V.ref) ∨ SqT K H q (ps.map V.ref)) ∧ StepsIn K H ps L ∧ (∀ c ∈ L, c.ok) ∧ L.length ≤ 1000 ∧
  ∀ F H', H' F = some (.lst (intsN (chF L (tops (prs L))))) → Same H H' → H F = none → Q (.ref F) H'
theorem len_chain_of {K : PySem.W.Frag} {vs H Q E} (h : spChain K vs H Q E) : vs.length = 1 := by obtain ⟨_, _, _, rfl, _⟩ := h; rfl
theorem cut01 (xs : List V) : cutV xs none (some 1) = xs.take 1 := by
  cases xs with
  | nil => rfl
  | cons x r => rfl
/-- the beats ahead of turn i -/
def BeatsG (H : Hp) (B : Addr) (bs : List Addr) (P : List (Stp × Nat)) (i : Nat) : Prop := H B = some (.lst (bs.map V.ref)) ∧ bs.length = tops P ∧ bs.Nodup ∧ B ∉ bs ∧ ∀ (k : Nat) (b : Addr), bs[k]? = some b → H b = some (.lst (intsN (beatF (P.take i) k)))
theorem max0 {ns : List Int} {m : Int} (h0 : ∀ y ∈ ns, 0 < y) (hm : m ∈ (0 :: ns)) (h : ∀ y ∈ (0 :: ns), y ≤ m) : ns = [] ∧ m = 0 ∨ m ∈ ns ∧ ∀ y ∈ ns, y ≤ m := by
  cases ns with
  | nil => exact .inl ⟨rfl, by simpa using hm⟩
  | cons x r =>
    refine .inr ⟨?_, fun y hy => h y (List.mem_cons_of_mem _ hy)⟩
    rcases List.mem_cons.mp hm with z | z
    · have := h x (by simp); have := h0 x (by simp); omega
    · exact z
theorem max1 {ns : List Int} {m : Int} (h0 : ∀ y ∈ ns, -1 < y) (hm : m ∈ (-1 :: ns)) (h : ∀ y ∈ (-1 :: ns), y ≤ m) : ns = [] ∧ m = -1 ∨ m ∈ ns ∧ ∀ y ∈ ns, y ≤ m := by
  cases ns with
  | nil => exact .inl ⟨rfl, by simpa using hm⟩
  | cons x r =>
    refine .inr ⟨?_, fun y hy => h y (List.mem_cons_of_mem _ hy)⟩
    rcases List.mem_cons.mp hm with z | z
    · have := h x (by simp); have := h0 x (by simp); omega
    · exact z
section
variable {P : Program} {w : World} {K : PySem.W.Frag} {mg : Str → Option Value}
theorem ok_law_beats [c : Facts K mg] [ct : FactsT w K] (G__law_meet : XL.Fn P w K mg "_law_meet" 2 ["one", "other"] ((spLMeet K))) : XL.Fn P w K mg "_law_beats" 3 ["told"] ((spBeats K)) := by
  obtain ⟨fd, F⟩ := c.d_law_beats
  refine XL.Fn.mk' F c.g_law_beats sc_law_beats (k := 2) (fun vs H Q E h => ?_) (fun _ _ _ _ _ _ us hl => match us, hl with | [_], _ => rfl) (fun base cdv A outer s H vs Q E hr h => ?_)
  · exact len_law_beats h
  · have nd := sc_law_beats.nd
    have hu := hu_of hr.r
    have hr__law_meet : XL.Rm 2 _ := hr.mono (by omega)
    refine ⟨_, (PSs.nox (pss_cons (ps_set (i := 1) nd rfl (Or.inr rfl) (pe_lst pa_nil))
      (pss_cons (ps_for PassesOwn.never rfl (pi_range1 (by rfl) c.f_range (pa_cons (pe_callB (call_lenA (K := K) rfl) (by rfl) c.f_len boot_len (pa_cons (pv 0) pa_nil)) pa_nil)) (pg_name (i := 2) nd rfl (Or.inr rfl)) (pss_one (ps_expr (pe_bm PySem.F.plainAttrs_list PySem.F.slot_list_append PySem.F.type_list_append mt_append (pv 1) (pa_cons (pe_callB (call_maxL (K := K) rfl rfl) (by rfl) c.f_max boot_max (pa_cons (pe_op (op_addA (K := K) rfl) (pe_lst (pa_cons pe_int pa_nil)) (pe_lc (own := [("k", 5)]) rfl nd (pi_range1 (by rfl) c.f_range (pa_cons (pv 2) pa_nil)) (blkOk_by (N := N_law_beats) (sc := defScope s_law_beats) (by decide +kernel)) (fun _ _ _ _ _ => (pg_name (i := 5) nd rfl (Or.inl rfl))) (fun _ _ _ _ _ => pts_one (pt_val (XL.pe_fn G__law_meet hr__law_meet (by rfl) (pa_cons (pe_ix (ix_any (K := K) rfl) (pv 0) (pv 5) (fun _ _ => rfl)) (pa_cons (pe_ix (ix_any (K := K) rfl) (pv 0) (pv 2) (fun _ _ => rfl)) pa_nil))))) (fun _ _ _ _ _ => (pe_op (op_addA (K := K) rfl) (pe_ix (ix_any (K := K) rfl) (pv 1) (pv 5) (fun _ _ => rfl)) pe_int)))) pa_nil)) pa_nil)))))
      (pss_cons (ps_setLc (i := 3) (own := [("place", 4)]) rfl nd rfl rfl (sw_true rfl rfl rfl (by decide +kernel)) (pi_range1 (by rfl) c.f_range (pa_cons (pe_op (op_addA (K := K) rfl) pe_int (pe_callB (call_maxL (K := K) rfl rfl) (by rfl) c.f_max boot_max (pa_cons (pe_op (op_addA (K := K) rfl) (pe_lst (pa_cons (pe_un un_neg pe_int) pa_nil)) (pv 1)) pa_nil))) pa_nil)) (blkOk_by (N := N_law_beats) (sc := defScope s_law_beats) (by decide +kernel)) (fun _ _ _ _ _ => (pg_name (i := 4) nd rfl (Or.inl rfl))) (fun _ _ _ _ _ => pts_nil) (fun _ _ _ _ _ => (pe_lst pa_nil)))
      (pss_cons (ps_for PassesOwn.never rfl (pi_enum (by rfl) c.f_enumerate (pa_cons (pv 1) pa_nil)) (pg_seq 2 (K := K) rfl rfl (pgs_cons (pg_name (i := 2) nd rfl (Or.inr rfl)) (pgs_cons (pg_name (i := 4) nd rfl (Or.inl rfl)) pgs_nil))) (pss_one (ps_expr (pe_bm PySem.F.plainAttrs_list PySem.F.slot_list_append PySem.F.type_list_append mt_append (pe_ix (ix_any (K := K) rfl) (pv 3) (pv 4) (fun _ _ => rfl)) (pa_cons (pv 2) pa_nil)))))
      (pss_one (ps_ret (pv 3)))))))), ?_⟩
    try dsimp only [cxOf, Cx.nox, Cx.wish]
    obtain ⟨q1, us, L, rfl, hq, hd, ok, hL, q⟩ := h
    have hz : sizeLine = 16777216 := sizeLine_eq
    have hul : us.length = L.length := by rw [dpa_len hd, List.length_map]
    repeat walk_at "w"
    refine w_new fun N H1 n1 s1 f1 => ?_
    have hq1 := s1 _ _ hq
    have nN : H N = none := n1
    repeat walk_at "w"
    refine fl_rng1 (fun i σ H' => ∃ o2 o3 o4 o5, σ = [some (.ref q1), some (.ref N), o2, o3, o4, o5] ∧ Same H H' ∧ H' N = some (.lst (numV (prs (L.take i))))) (by omega) (by omega) ⟨_, _, _, _, rfl, s1, f1⟩ (fun i σ H6 hi hp => ?_) (fun σ H5 hp => ?_)
    · obtain ⟨o2, o3, o4, o5, rfl, e6, hN6⟩ := hp
      have hil : i < L.length := by omega
      have hq6 := e6 _ _ hq
      have hd6 := dpAll_ts (TS.of e6) _ _ (stps_tup L) hd
      obtain ⟨c, hc⟩ : ∃ c, L[i]? = some c := ⟨_, List.getElem?_eq_getElem hil⟩
      obtain ⟨x, hx⟩ : ∃ x, us[i]? = some x := ⟨_, List.getElem?_eq_getElem (by omega)⟩
      obtain ⟨d, hd1, hdx⟩ := dpa_at' hd6 hx
      rw [List.getElem?_map, hc] at hd1
      cases Option.some.inj hd1
      have okc := ok c (List.mem_of_getElem? hc)
      have hPl : (prs (L.take i)).length = i := by rw [prs_len, List.length_take]; omega
      have hnl : (numV (prs (L.take i))).length = i := by unfold numV; rw [List.length_map, List.length_map, hPl]
      repeat walk_at "w"
      refine w_new fun Z H7 n7 s7 f7 => ?_
      have e7 := e6.trans s7
      have hN7 := s7 _ _ hN6
      have hq7 := s7 _ _ hq6
      have hd7 := dpAll_ts (TS.of s7) _ _ (stps_tup L) hd6
      have hdx7 := dp_ts (TS.of s7) _ _ (stp_tup c) hdx
      repeat walk_at "w"
      refine lc_R1 (fun D j ys H' => Same H7 H' ∧ ys = ((((prs (L.take i)).take j).filter fun p => meetS p.1 c).map fun p => ((p.2 + 1 : Nat) : Int)).map V.int) (by omega) (by omega) (fun D H' hD e f => ⟨e, rfl⟩) (fun D hD j ys H' hj hll hy hp => ?_) (fun D hD ys H' hll hy hp => ?_)
      · obtain ⟨e, rfl⟩ := hp
        have hj' : j < i := by omega
        obtain ⟨⟨c2, m2⟩, hcm⟩ : ∃ p, (prs (L.take i))[j]? = some p := ⟨_, List.getElem?_eq_getElem (by omega)⟩
        have hc2 : L[j]? = some c2 := by
          have e1 := prs_get hcm
          rwa [List.getElem?_take_of_lt hj'] at e1
        obtain ⟨x2, hx2⟩ : ∃ x, us[j]? = some x := ⟨_, List.getElem?_eq_getElem (by omega)⟩
        obtain ⟨d, g1, g2⟩ := dpa_at' (dpAll_ts (TS.of e) _ _ (stps_tup L) hd7) hx2
        rw [List.getElem?_map, hc2] at g1
        cases Option.some.inj g1
        have hqj := e _ _ hq7
        have hxj := dp_ts (TS.of e) _ _ (stp_tup c) hdx7
        repeat walk_at "w"
        refine w_ixL (SqL.of hqj) (atI_of (by omega) (by rw [Int.toNat_natCast]; exact hx2)) ?_
        repeat walk_at "w"
        refine w_ixL (SqL.of hqj) (atI_of (by omega) (by rw [Int.toNat_natCast]; exact hx)) ?_
        repeat walk_at "w"
        refine ⟨x2, x, c2, c, rfl, g2, hxj, ok c2 (List.mem_of_getElem? hc2), okc, fun H8 s8 => ?_⟩
        have hN8 := s8 _ _ (e _ _ hN7)
        have hy8 := s8 _ _ hy
        refine ⟨_, rfl, ?_⟩
        refine ite2 (fun hk => ?_) (fun hk => ?_)
        · repeat walk_at "w"
          refine w_ixL (v := .int (m2 : Nat)) (SqL.of hN8) (atI_of (by omega) (by rw [Int.toNat_natCast]; unfold numV; rw [List.getElem?_map, List.getElem?_map, hcm]; rfl)) ?_
          repeat walk_at "w"
          refine lc_end hy8 hll (by rw [hz, List.length_map, List.length_map]; have := List.length_filter_le (fun p => meetS p.1 c) ((prs (L.take i)).take j); rw [List.length_take] at this; omega) fun H9 e9 f9 => ⟨But.new (e.trans s8) hD e9, ?_⟩
          rw [tk_snoc hcm, List.filter_append, List.filter_cons, if_pos hk, List.filter_nil, List.map_append, List.map_append]; rfl
        · refine lc_skip hy8 hll ⟨e.trans s8, ?_⟩
          rw [tk_snoc hcm, List.filter_append, List.filter_cons, if_neg hk, List.filter_nil, List.append_nil]
      · obtain ⟨e, rfl⟩ := hp
        rw [show (prs (L.take i)).take _ = prs (L.take i) from List.take_of_length_le (by omega)] at hy
        have hN' := e _ _ hN7
        have fZ := e _ _ f7
        have hfl := List.length_filter_le (fun p => meetS p.1 c) (prs (L.take i))
        repeat walk_at "w"
        refine w_addL fZ hy (by rw [hz, List.length_map, List.length_map]; simp only [List.length_cons, List.length_nil]; omega) ?_
        refine w_new fun Y H9 n9 s9 f9 => ?_
        have hN9 := s9 _ _ hN'
        repeat walk_at "w"
        refine w_maxL (ns := 0 :: (((prs (L.take i)).filter fun p : Stp × Nat => meetS p.1 c).map fun p : Stp × Nat => ((p.2 + 1 : Nat) : Int))) (SqL.of f9) (by simp) fun m hm1 hm2 => ?_
        have em := next_eq (max0 (fun y hy => by
          obtain ⟨p, _, rfl⟩ := List.mem_map.mp hy
          omega) hm1 hm2)
        subst em
        repeat walk_at "w"
        try refine w_append hN9 (by rw [hz, hnl]; omega) ?_
        refine w_chg fun H10 e10 f10 => ?_
        refine ⟨_, _, _, _, rfl, But.new (e7.trans (e.trans s9)) nN e10, ?_⟩
        rw [f10, tk_snoc hc, prs_snoc]; unfold numV; rw [List.map_append, List.map_append]; rfl
    · obtain ⟨o2, o3, o4, o5, rfl, e5, hN5⟩ := hp
      rw [show L.take _ = L from List.take_of_length_le (by omega)] at hN5
      have hPl := prs_len L
      have htl := top_len L
      have hnl : (numV (prs L)).length = L.length := by unfold numV; rw [List.length_map, List.length_map, hPl]
      repeat walk_at "w"
      refine w_new fun Z H6 n6 s6 f6 => ?_
      have hN6 := s6 _ _ hN5
      repeat walk_at "w"
      refine w_addL f6 hN6 (by rw [hz, hnl]; simp only [List.length_cons, List.length_nil]; omega) ?_
      refine w_new fun Y H7 n7 s7 f7 => ?_
      have hN7 := s7 _ _ hN6
      repeat walk_at "w"
      refine w_maxL (ns := -1 :: ((prs L).map fun p : Stp × Nat => ((p.2 : Nat) : Int))) (SqL.of f7) (by simp) fun m hm1 hm2 => ?_
      have em := tops_eq (max1 (fun y hy => by
        obtain ⟨p, _, rfl⟩ := List.mem_map.mp hy
        omega) hm1 hm2)
      repeat walk_at "w"
      rw [show 1 + m = ((tops (prs L) : Nat) : Int) by omega]
      have e7 := e5.trans (s6.trans s7)
      refine lc_R1 (fun D j ys H' => Same H7 H' ∧ ∃ qs : List Addr, ys = qs.map V.ref ∧ qs.length = j ∧ D ∉ qs ∧ qs.Nodup ∧ (∀ b ∈ qs, H7 b = none) ∧ ∀ b ∈ qs, H' b = some (.lst [])) (by omega) (by omega) (fun D H' hD e f => ⟨e, [], rfl, rfl, List.not_mem_nil, List.nodup_nil, fun b h => (List.not_mem_nil h).elim, fun b h => (List.not_mem_nil h).elim⟩) (fun D hD k ys H' hk hll hy hp => ?_) (fun D hD ys H' hll hy hp => ?_)
      · obtain ⟨e, qs, rfl, hql, hDq, hnd, hqf, hqs⟩ := hp
        repeat walk_at "w"
        refine w_new fun b0 H8 n8 s8 f8 => ?_
        have hy8 := s8 _ _ hy
        have nbD : b0 ≠ D := fun z => by rw [z, hy] at n8; cases n8
        have nbq : b0 ∉ qs := fun z => by rw [hqs b0 z] at n8; cases n8
        refine lc_end hy8 hll (by rw [hz, List.length_map]; omega) fun H9 e9 f9 => ⟨But.new (e.trans s8) hD e9, qs ++ [b0], by rw [List.map_append]; rfl, by rw [List.length_append, hql]; rfl, fun z => (List.mem_append.mp z).elim hDq fun z => nbD (List.mem_singleton.mp z).symm,
          List.nodup_append.mpr ⟨hnd, List.nodup_cons.mpr ⟨List.not_mem_nil, List.nodup_nil⟩, fun x hx y hy z => nbq (by rw [← List.mem_singleton.mp hy, ← z]; exact hx)⟩, fun b hb => (List.mem_append.mp hb).elim (hqf b) fun z => by rw [List.mem_singleton.mp z]; exact e.free n8, fun b hb => ?_⟩
        rcases List.mem_append.mp hb with z | z
        · exact e9 _ _ (fun y => hDq (y ▸ z)) (s8 _ _ (hqs b z))
        · rw [List.mem_singleton.mp z]; exact e9 _ _ nbD f8
      · obtain ⟨e, qs, rfl, hql, hDq, hnd, hqf, hqs⟩ := hp
        have hN8 := e _ _ hN7
        have hND : N ≠ D := ne_of_none hN7 hD
        have hNq : N ∉ qs := fun z => by rw [hqs N z] at hN8; have := congrArg (fun o : Option HO => match o with | some (.lst xs) => xs.length | _ => 0) hN8; simp only [List.length_nil] at this; rw [hnl] at this; have h0 := hqf N z; rw [hN7] at h0; cases h0
        repeat walk_at "w"
        refine fl_enum (fun i σ H8 => ∃ o2 o4 o5, σ = [some (.ref q1), some (.ref N), o2, some (.ref D), o4, o5] ∧ Same H7 H8 ∧ H8 N = some (.lst (numV (prs L))) ∧ BeatsG H8 D qs (prs L) i) (SqL.of hN8) ⟨_, _, _, rfl, e, hN8, hy, by rw [hql]; omega, hnd, hDq, fun k b hk => hqs b (List.mem_of_getElem? hk)⟩ (fun i σ H8 hi hp => ?_) (fun i x T σ H8 H9 hx hp nT s9 fT => ?_) (fun σ H8 hp => ?_)
        · obtain ⟨_, _, _, _, _, h, _⟩ := hp
          exact SqL.of h
        · obtain ⟨o2, o4, o5, rfl, e8, hN8', hD8, hlen, _, _, hb8⟩ := hp
          unfold numV at hx
          rw [List.getElem?_map] at hx
          obtain ⟨n, hx', rfl⟩ := Option.map_eq_some_iff.mp hx
          rw [List.getElem?_map] at hx'
          obtain ⟨⟨c, m⟩, hcm, rfl⟩ := Option.map_eq_some_iff.mp hx'
          have hml : m < qs.length := by rw [hlen]; exact prs_lt (List.mem_of_getElem? hcm)
          have hil := (List.getElem?_eq_some_iff.mp hcm).1
          obtain ⟨b, hbk⟩ : ∃ b, qs[m]? = some b := ⟨_, List.getElem?_eq_getElem hml⟩
          have hbm := List.mem_of_getElem? hbk
          have fb := s9 _ _ (hb8 m b hbk)
          have hD9 := s9 _ _ hD8
          have hN9 := s9 _ _ hN8'
          repeat walk_at "w"
          refine w_ixL (v := .ref b) (SqL.of hD9) (atI_of (by omega) (by rw [Int.toNat_natCast, List.getElem?_map, hbk]; rfl)) ?_
          repeat walk_at "w"
          refine w_append fb (by rw [hz]; unfold intsN; rw [List.length_map, List.length_map]; have := beatF_len ((prs L).take i) m; rw [List.length_take] at this; omega) ?_
          refine w_chg fun H10 e10 f10 => ?_
          refine ⟨_, _, _, rfl, But.new (e8.trans s9) (hqf b hbm) e10, e10 _ _ (fun z => hNq (z ▸ hbm)) hN9, e10 _ _ (fun z => hDq (z ▸ hbm)) hD9, hlen, hnd, hDq, fun k b' hk => ?_⟩
          have hPi : ((prs L).take i).length = i := by rw [List.length_take]; omega
          rw [tk_snoc hcm, beatF_snoc, hPi]
          by_cases c' : b' = b
          · subst c'
            have ek : m = k := (List.getElem?_inj hml hnd).mp (hbk.trans hk.symm)
            subst ek
            rw [f10, if_pos rfl]; unfold intsN; rw [List.map_append, List.map_append]; rfl
          · have ek : ¬ m = k := fun z => c' (Option.some.inj ((hk.symm.trans (z ▸ rfl : qs[k]? = qs[m]?)).trans hbk))
            rw [if_neg ek, List.append_nil]
            exact e10 _ _ c' (s9 _ _ (hb8 k b' hk))
        · obtain ⟨o2, o4, o5, rfl, e8, hN8', hD8, hlen, _, _, hb8⟩ := hp
          repeat walk_at "w"
          refine q D qs H8 ⟨hD8, hlen, hnd, hDq, fun k b hk => ?_⟩ (e7.trans e8) (e7.free hD) (fun b hb => e7.free (hqf b hb))
          have := hb8 k b hk
          rw [show (prs L).take _ = prs L from List.take_of_length_le (by rw [hnl]; omega)] at this
          exact this
theorem ok_chain_of [c : Facts K mg] [ct : FactsT w K] (G_met : XL.Fn P w K mg "met" 1 ["one", "other"] ((spMet K))) (G_packed : XL.Fn P w K mg "packed" 5 ["steps"] ((spPacked K))) (G_touched : XL.Fn P w K mg "touched" 3 ["step"] ((spTou K))) : XL.Fn P w K mg "chain_of" 6 ["steps"] ((spChain K)) := by
  obtain ⟨fd, F⟩ := c.d_chain_of
  refine XL.Fn.mk' F c.g_chain_of sc_chain_of (k := 5) (fun vs H Q E h => ?_) (fun _ _ _ _ _ _ us hl => match us, hl with | [_], _ => rfl) (fun base cdv A outer s H vs Q E hr h => ?_)
  · exact len_chain_of h
  · have nd := sc_chain_of.nd
    have hu := hu_of hr.r
    have hr_met : XL.Rm 1 _ := hr.mono (by omega)
    have hr_packed : XL.Rm 5 _ := hr.mono (by omega)
    have hr_touched : XL.Rm 3 _ := hr.mono (by omega)
    refine ⟨_, (PSs.nox (pss_cons (ps_set (i := 1) nd rfl (Or.inr rfl) (pe_lc (own := [("step", 4)]) rfl nd (NDX.PI.or (pi_list (pv 0)) (pi_tup (pv 0))) (blkOk_by (N := N_chain_of) (sc := defScope s_chain_of) (by decide +kernel)) (fun _ _ _ _ _ => (pg_name (i := 4) nd rfl (Or.inl rfl))) (fun _ _ _ _ _ => pts_nil) (fun _ _ _ _ _ => (XL.pe_fn G_touched hr_touched (by rfl) (pa_cons (pv 4) pa_nil)))))
      (pss_cons (ps_set (i := 2) nd rfl (Or.inr rfl) (pe_lst pa_nil))
      (pss_cons (ps_for PassesOwn.never rfl (RT.pi_revA (by rfl) c.f_reversed (XL.pe_fn G_packed hr_packed (by rfl) (pa_cons (pv 0) pa_nil))) (pg_name (i := 3) nd rfl (Or.inl rfl)) (pss_one (ps_if (pt_cmpR (op_eqA (K := K) rfl hr.units) (pv 2) (pe_lst pa_nil) (nomark _)) (pss_one (ps_set (i := 2) nd rfl (Or.inr rfl) (pe_slice (sl_any (K := K) rfl) (pv 3) po_none (po_some pe_int)))) (pss_one (ps_set (i := 2) nd rfl (Or.inr rfl) (pe_op (op_addA (K := K) rfl) (pe_slice (sl_any (K := K) rfl) (pe_lc (own := [("at", 5)]) rfl nd (pi_list (pv 3)) (blkOk_by (N := N_chain_of) (sc := defScope s_chain_of) (by decide +kernel)) (fun _ _ _ _ _ => (pg_name (i := 5) nd rfl (Or.inl rfl))) (fun _ _ _ _ _ => pts_one (pt_val (XL.pe_fn G_met hr_met (by rfl) (pa_cons (pe_ix (ix_any (K := K) rfl) (pv 1) (pv 5) (fun _ _ => rfl)) (pa_cons (pe_ix (ix_any (K := K) rfl) (pv 1) (pe_ix (ix_any (K := K) rfl) (pv 2) pe_int (fun _ _ => rfl)) (fun _ _ => rfl)) pa_nil))))) (fun _ _ _ _ _ => (pv 5))) po_none (po_some pe_int)) (pv 2)))))))
      (pss_one (ps_ret (pv 2))))))), ?_⟩
    try dsimp only [cxOf, Cx.nox, Cx.wish]
    obtain ⟨q1, ps, L, rfl, hq, hst, ok, hL, q⟩ := h
    have hz : sizeLine = 16777216 := sizeLine_eq
    have hpl := hst.1
    have htl := top_len L
    repeat walk_at "w"
    refine NDX.w_lcLT (ps.map V.ref) (fun R r => by walk_at "w"; exact r) (fun D j ys H' => Same H H' ∧ ys.length = j ∧ ∀ (i : Nat) (c : Stp), i < j → L[i]? = some c → ∃ t, ys[i]? = some (.ref t) ∧ SqT K H' t [.int (bitsN c.wr : Nat), .int (touB c : Nat)]) hq
      (fun D H' hD e f => ⟨e, rfl, fun _ _ h => by omega⟩) (fun D i ys H' h => h.1) (fun D hD j x ys H' hx hll hy hp => ?_) (fun R hR ys H3 hll hy hp => ?_)
    · obtain ⟨e, hyl, hys⟩ := hp
      rw [List.getElem?_map] at hx
      obtain ⟨p, hpj, rfl⟩ := Option.map_eq_some_iff.mp hx
      have hjl := (List.getElem?_eq_some_iff.mp hpj).1
      obtain ⟨c, hc⟩ : ∃ c, L[j]? = some c := ⟨_, List.getElem?_eq_getElem (by rw [← hst.1]; exact hjl)⟩
      obtain ⟨p', hp', hsc⟩ := (hst.sm e).2 j c hc
      rw [hpj] at hp'
      cases Option.some.inj hp'
      repeat walk_at "w"
      refine ⟨p, c.cls, c, rfl, stp_fam c, hsc, ok c (List.mem_of_getElem? hc), fun t H5 f5 s5 n5 => ?_⟩
      have hy5 := s5 _ _ hy
      refine lc_end hy5 hll (by rw [hz, hyl]; omega) fun H6 e6 f6 => ⟨But.new (e.trans s5) hD e6, by rw [List.length_append, hyl]; rfl, fun i c' hi hc' => ?_⟩
      by_cases h : i < j
      · obtain ⟨t', g1, g2⟩ := hys i c' h hc'
        exact ⟨t', by rw [List.getElem?_append_left (by omega)]; exact g1, e6.sqTL hy5 (s5.sqT g2)⟩
      · obtain rfl : i = j := by omega
        rw [hc] at hc'
        cases Option.some.inj hc'
        exact ⟨t, by rw [List.getElem?_append_right (by omega), hyl, Nat.sub_self]; rfl, e6.sqTL hy5 (SqT.of f5)⟩
    · obtain ⟨e, hyl, hys⟩ := hp
      rw [List.length_map] at hyl
      have row : RowAt K H3 ys L := ⟨by omega, fun i c hc => hys i c (by have := (List.getElem?_eq_some_iff.mp hc).1; rw [List.length_map]; omega) hc⟩
      repeat walk_at "w"
      refine w_new fun F0 H4 n4 s4 f4 => ?_
      have s04 := e.trans s4
      have nF0 : H F0 = none := e.free n4
      repeat walk_at "w"
      refine ⟨q1, ps, L, rfl, hq.imp (fun h => s04.sqL h) (fun h => s04.sqT h), hst.sm s04, ok, hL, fun B bs H5 hBA s5 nB nbs => ?_⟩
      obtain ⟨hB, hlen, hnd, hBn, hb⟩ := hBA
      have s05 := s04.trans s5
      have f05 := s5 _ _ f4
      have hy5 := s5 _ _ (s4 _ _ hy)
      repeat walk_at "w"
      refine fl_rev (fun i σ H' => ∃ F o3 o4 o5, σ = [some (.ref q1), some (.ref R), some (.ref F), o3, o4, o5] ∧ Same H5 H' ∧ H' F = some (.lst (intsN (chF L i))) ∧ H F = none) (SqL.of hB) ⟨F0, _, _, _, rfl, Same.refl _, f05, nF0⟩ (fun i σ H' hi hp => ?_) (fun i x σ H' hi hx hp => ?_) (fun σ H' hp => ?_)
      · obtain ⟨_, _, _, _, _, h, _⟩ := hp
        exact SqL.of (h _ _ hB)
      · obtain ⟨F, o3, o4, o5, rfl, e', hF, nF⟩ := hp
        rw [List.length_map] at hi hx
        have hkk : bs.length - 1 - i = tops (prs L) - 1 - i := by omega
        rw [hkk, List.getElem?_map] at hx
        obtain ⟨b, hbk, rfl⟩ := Option.map_eq_some_iff.mp hx
        have fb := e' _ _ (hb _ b hbk)
        have hbl := beatF_len (prs L) (tops (prs L) - 1 - i)
        rw [prs_len] at hbl
        obtain ⟨c1, c2, c3, c4⟩ := chF_ok L i (by omega)
        have hy' := e' _ _ hy5
        have row' := row.sm ((s4.trans s5).trans e')
        repeat walk_at "w"
        refine w_new fun Z H6 n6 s6 f6 => ?_
        have hF6 := s6 _ _ hF
        have fb6 := s6 _ _ fb
        refine w_eqIL (ns := (chF L i).map fun i : Nat => (i : Int)) (ms := []) (SqL.of hF6) (SqL.of f6) ?_
        refine ⟨_, rfl, ?_⟩
        cases hf : chF L i with
        | nil =>
          rw [hf] at hF6
          refine iteT ?_
          repeat walk_at "w"
          try rw [cut01]
          refine w_new fun F2 H7 n7 s7 f7 => ?_
          refine ⟨F2, _, _, _, rfl, e'.trans (s6.trans s7), ?_, (s05.trans (e'.trans s6)).free n7⟩
          rw [f7]
          show some (HO.lst _) = some (HO.lst (intsN ((ableF L (tops (prs L) - 1 - i) (chF L i)).take 1 ++ chF L i)))
          rw [hf, List.append_nil]
          unfold intsN
          rw [List.map_take, List.map_take]; rfl
        | cons hh tt =>
          rw [hf] at hF6
          refine iteF ?_
          repeat walk_at "w"
          have hbn : hh ∈ beatF (prs L) (tops (prs L) - i) := c3 hh tt hf
          obtain ⟨sh, hsh, _⟩ := beat_num hbn
          obtain ⟨th, a2, b2⟩ := row'.2 hh sh hsh
          refine lc_L (intsN (beatF (prs L) (tops (prs L) - 1 - i))) (fun D j ys H' => Same H6 H' ∧ ys = intsN (((beatF (prs L) (tops (prs L) - 1 - i)).take j).filter fun a => meetL L a hh)) (SqL.of fb6) (fun D H' hD e f => ⟨e, by simp [intsN]⟩) (fun D hD j ys H' hj hy hp => SqL.of (hp.1 _ _ fb6)) (fun D hD j x ys H' hx hll hy2 hp => ?_) (fun D hD ys H7 hll hy2 hp => ?_)
          · obtain ⟨e2, rfl⟩ := hp
            unfold intsN at hx
            rw [List.getElem?_map] at hx
            obtain ⟨n, hx', rfl⟩ := Option.map_eq_some_iff.mp hx
            rw [List.getElem?_map] at hx'
            obtain ⟨a, ha, rfl⟩ := Option.map_eq_some_iff.mp hx'
            obtain ⟨sa, hsa, _⟩ := beat_num (List.mem_of_getElem? ha)
            have r7 := row'.sm (s6.trans e2)
            obtain ⟨ta, a1, b1⟩ := r7.2 a sa hsa
            obtain ⟨th', a2', b2'⟩ := r7.2 hh sh hsh
            have hy7 := e2 _ _ (s6 _ _ hy')
            have hF7 := e2 _ _ hF6
            repeat walk_at "w"
            refine w_ixL (SqL.of hy7) (atI_of (by omega) (by rw [Int.toNat_natCast]; exact a1)) ?_
            repeat walk_at "w"
            refine w_ixL (n := ((hh : Nat) : Int)) (SqL.of hy7) (atI_of (by omega) (by rw [Int.toNat_natCast]; exact a2')) ?_
            repeat walk_at "w"
            refine ⟨ta, th', sa, sh, rfl, b1, b2', ok sa (List.mem_of_getElem? hsa), ok sh (List.mem_of_getElem? hsh), ?_⟩
            have hbl2 := List.length_filter_le (fun a => meetL L a hh) ((beatF (prs L) (tops (prs L) - 1 - i)).take j)
            rw [List.length_take] at hbl2
            refine ⟨_, rfl, ?_⟩
            refine ite2 (fun hk => ?_) (fun hk => ?_)
            · repeat walk_at "w"
              refine lc_end hy2 hll (by rw [hz]; unfold intsN; rw [List.length_map, List.length_map]; omega) fun H8 e8 f8 => ⟨But.new e2 hD e8, ?_⟩
              rw [tk_snoc ha, List.filter_append, List.filter_cons, if_pos (by rw [meetL_of hsa hsh]; exact hk), List.filter_nil]; unfold intsN; rw [List.map_append, List.map_append]; rfl
            · refine lc_skip hy2 hll ⟨e2, ?_⟩
              rw [tk_snoc ha, List.filter_append, List.filter_cons, if_neg (by rw [meetL_of hsa hsh]; exact hk), List.filter_nil, List.append_nil]
          · obtain ⟨e2, rfl⟩ := hp
            have hF7 := e2 _ _ hF6
            have hlen2 : (intsN (beatF (prs L) (tops (prs L) - 1 - i))).length = (beatF (prs L) (tops (prs L) - 1 - i)).length := by unfold intsN; rw [List.length_map, List.length_map]
            rw [hlen2, List.take_length] at hy2
            repeat walk_at "w"
            try rw [cut01]
            refine w_new fun F2 H8 n8 s8 f8 => ?_
            have hF8 := s8 _ _ hF7
            have fcl : (intsN (hh :: tt)).length = i := by unfold intsN; rw [List.length_map, List.length_map, ← hf]; exact c2
            repeat walk_at "w"
            refine w_addL f8 hF8 (by rw [hz, fcl, List.length_take]; omega) ?_
            refine w_new fun F3 H9 n9 s9 f9 => ?_
            refine ⟨F3, _, _, _, rfl, e'.trans (s6.trans (e2.trans (s8.trans s9))), ?_, (s05.trans (e'.trans (s6.trans (e2.trans s8)))).free n9⟩
            rw [f9]
            show some (HO.lst _) = some (HO.lst (intsN ((ableF L (tops (prs L) - 1 - i) (chF L i)).take 1 ++ chF L i)))
            rw [hf]
            show some (HO.lst _) = some (HO.lst (intsN ((((beatF (prs L) (tops (prs L) - 1 - i)).filter fun a => meetL L a hh).take 1) ++ hh :: tt)))
            unfold intsN
            rw [List.map_append, List.map_append, List.map_take, List.map_take]
      · obtain ⟨F, o3, o4, o5, rfl, e', hF, nF⟩ := hp
        rw [List.length_map, hlen] at hF
        repeat walk_at "w"
        exact q F H' hF (s05.trans e') nF
end

end J
namespace J
open PySem PySem.Spec PyProof.Rows L2
local macro_rules | `(tactic| walk_at "cls") => `(tactic| first
  | with_reducible exact Facts.cl_Step
  | with_reducible exact Facts.cl_Get
  | with_reducible exact Facts.cl_Ask
  | with_reducible exact Facts.cl_Cell
  | with_reducible exact Facts.cl_Two
  | with_reducible exact Facts.cl_Put
  | with_reducible exact Facts.cl_Tell
  | with_reducible exact Facts.cl_Store)
local macro_rules | `(tactic| walk_at "na") => `(tactic| first
  | with_reducible exact Facts.na_Get_to
  | with_reducible exact Facts.na_Get_sel
  | with_reducible exact Facts.na_Ask_to
  | with_reducible exact Facts.na_Ask_sel
  | with_reducible exact Facts.na_Cell_to
  | with_reducible exact Facts.na_Cell_source
  | with_reducible exact Facts.na_Two_to
  | with_reducible exact Facts.na_Two_op
  | with_reducible exact Facts.na_Two_one
  | with_reducible exact Facts.na_Two_other
  | with_reducible exact Facts.na_Put_sel
  | with_reducible exact Facts.na_Put_source
  | with_reducible exact Facts.na_Tell_sel
  | with_reducible exact Facts.na_Tell_source
  | with_reducible exact Facts.na_Store_at
  | with_reducible exact Facts.na_Store_source)
local macro_rules | `(tactic| walk_at "ty") => `(tactic| first
  | with_reducible exact ty_int
  | with_reducible exact ty_bl
  | with_reducible exact ty_str
  | with_reducible exact ty_non
  | ((with_reducible refine' ty_lst ?vv); (case vv => walk_at "tr"))
  | ((with_reducible refine' ty_sqT ?vv); (case vv => walk_at "tr"))
  | ((with_reducible refine' ty_dic ?vv); (case vv => walk_at "tr")))
local macro_rules | `(tactic| walk_at "ix") => `(tactic| first | exact at0 | exact at1 | exact at2 | assumption)
local macro_rules | `(tactic| walk_at "size") => `(tactic| first
  | assumption
  | (show _ < sizeLine; rw [sizeLine_eq]; (try simp only [List.length_cons, List.length_nil, List.length_append, List.length_map]); omega)
  | (show _ ≤ sizeLine; rw [sizeLine_eq]; (try simp only [List.length_cons, List.length_nil, List.length_append, List.length_map]); omega))
local macro_rules | `(tactic| walk_at "side") => `(tactic| first
  | assumption
  | ((with_reducible refine cdw ?_ ?_) <;> omega)
  | omega
  | (exact ⟨by omega, by omega⟩)
  | (exact Or.inl ⟨by omega, by omega⟩)
  | (exact Or.inr ⟨by omega, by omega⟩)
  | decide
  | (simp only [List.length_cons, List.length_nil, List.length_append, List.length_map]; omega)
  | (show _ ≤ _; decide))
local macro_rules | `(tactic| walk_at "as") => `(tactic| with_reducible assumption)
local macro_rules | `(tactic| walk_at "tr") => `(tactic| first
  | with_reducible assumption
  | with_reducible exact upd_same
  | ((with_reducible refine' SqL.of ?hh); (case hh => walk_at "as"))
  | ((with_reducible refine' SqT.of ?hh); (case hh => walk_at "as"))
  | ((with_reducible refine' Same.stm ?ee ?gg); (case ee => walk_at "as"); (case gg => walk_at "tr"))
  | ((with_reducible refine' Same.sqT ?ee ?gg); (case ee => walk_at "as"); (case gg => walk_at "tr"))
  | ((with_reducible refine' Same.sqL ?ee ?gg); (case ee => walk_at "as"); (case gg => walk_at "tr"))
  | ((with_reducible refine' Same.at ?ee ?gg); (case ee => walk_at "as"); (case gg => walk_at "tr"))
  | ((with_reducible refine' But.stm ?ee ?ff ?gg); (case ee => walk_at "as"); (case ff => walk_at "ne"); (case gg => walk_at "tr"))
  | ((with_reducible refine' But.tup ?ee ?ff ?gg); (case ee => walk_at "as"); (case ff => walk_at "tr1"); (case gg => walk_at "tr"))
  | ((with_reducible refine' But.sqT ?ee ?ff ?gg); (case ee => walk_at "as"); (case ff => walk_at "tr1"); (case gg => walk_at "tr"))
  | ((with_reducible refine' But.tupL ?ee ?ff ?gg); (case ee => walk_at "as"); (case ff => walk_at "tr1"); (case gg => walk_at "tr"))
  | ((with_reducible refine' But.sqTL ?ee ?ff ?gg); (case ee => walk_at "as"); (case ff => walk_at "tr1"); (case gg => walk_at "tr"))
  | ((with_reducible refine' But.sqL ?ee ?ff ?gg); (case ee => walk_at "as"); (case ff => walk_at "ne"); (case gg => walk_at "tr"))
  | ((with_reducible refine' But.at ?ee ?ff ?gg); (case ee => walk_at "as"); (case ff => walk_at "ne"); (case gg => walk_at "tr")))
local macro_rules | `(tactic| walk_at "ts") => `(tactic| first
  | with_reducible assumption
  | with_reducible exact TS.refl _
  | ((with_reducible refine' TS.trans ?gg (TS.of ?ee)); (case ee => walk_at "as"); (case gg => walk_at "ts"))
  | ((with_reducible refine' TS.trans ?gg (TS.butS ?ee ?ff)); (case ee => walk_at "as"); (case ff => walk_at "tr1"); (case gg => walk_at "ts"))
  | ((with_reducible refine' TS.trans ?gg (TS.butL ?ee ?ff)); (case ee => walk_at "as"); (case ff => walk_at "tr1"); (case gg => walk_at "ts"))
  | ((with_reducible refine' TS.trans ?gg (TS.butI ?ee ?ff)); (case ee => walk_at "as"); (case ff => walk_at "tr1"); (case gg => walk_at "ts")))
local macro_rules | `(tactic| walk_at "sm") => `(tactic| first
  | with_reducible assumption
  | with_reducible exact Same.refl _
  | ((with_reducible refine' Same.trans ?gg ?ee); (case ee => walk_at "as"); (case gg => walk_at "sm"))
  | ((with_reducible refine' But.new ?gg ?nn ?ee); (case ee => walk_at "as"); (case nn => walk_at "fr"); (case gg => walk_at "sm")))
local macro_rules | `(tactic| walk_at "fr") => `(tactic| first
  | with_reducible assumption
  | ((with_reducible refine' Same.back ?ee ?nn); (case nn => walk_at "as"); (case ee => walk_at "sm"))
  | ((with_reducible refine' But.back ?ee ?ff ?nn); (case nn => walk_at "as"); (case ff => walk_at "ne0"); (case ee => walk_at "bu")))
local macro_rules | `(tactic| walk_at "bu") => `(tactic| first
  | with_reducible assumption
  | with_reducible exact But.refl _ _
  | ((with_reducible refine' But.trans ?gg ?ee); (case ee => walk_at "as"); (case gg => walk_at "bu"))
  | ((with_reducible refine' But.trans ?gg (But.of ?ee)); (case ee => walk_at "as"); (case gg => walk_at "bu"))
  | ((with_reducible refine' But.new2 ?gg ?nn ?ee); (case ee => walk_at "as"); (case nn => walk_at "frB"); (case gg => walk_at "bu")))
local macro_rules | `(tactic| walk_at "frB") => `(tactic| first
  | with_reducible assumption
  | ((with_reducible refine' Same.back ?ee ?nn); (case nn => walk_at "as"); (case ee => walk_at "sm"))
  | ((with_reducible refine' But.back' ?ee ?ff ?nn); (case nn => walk_at "as"); (case ee => walk_at "bu"); (case ff => walk_at "tr1")))
local macro_rules | `(tactic| walk_at "tr1") => `(tactic| first
  | with_reducible assumption
  | ((with_reducible refine' Same.stm ?ee ?gg); (case ee => walk_at "as"); (case gg => walk_at "tr1"))
  | ((with_reducible refine' Same.at ?ee ?gg); (case ee => walk_at "as"); (case gg => walk_at "tr1"))
  | ((with_reducible refine' But.at ?ee ?ff ?gg); (case ee => walk_at "as"); (case ff => walk_at "ne0"); (case gg => walk_at "tr1"))
  | ((with_reducible refine' But.stm ?ee ?ff ?gg); (case ee => walk_at "as"); (case ff => walk_at "ne0"); (case gg => walk_at "tr1")))
local macro_rules | `(tactic| walk_at "ne0") => `(tactic| first
  | with_reducible assumption
  | (with_reducible apply Ne.symm; with_reducible assumption))
local macro_rules | `(tactic| walk_at "ne") => `(tactic| first
  | with_reducible assumption
  | (with_reducible apply Ne.symm; with_reducible assumption)
  | ((with_reducible refine' stm_ne ?hh ?nn); (case nn => walk_at "as"); (case hh => walk_at "tr1"))
  | ((with_reducible refine' ne_of_none ?hh ?nn); (case nn => walk_at "as"); (case hh => walk_at "tr1"))
  | ((with_reducible apply Ne.symm); (with_reducible refine' ne_of_none ?hh ?nn); (case nn => walk_at "as"); (case hh => walk_at "tr1")))
local macro_rules | `(tactic| walk_at "v") => `(tactic| first
  | with_reducible refine w_seq ?_
  | ((with_reducible refine' w_var ?vv ?_); (case vv => exact rfl))
  | with_reducible refine w_c ?_
  | with_reducible refine w_op ?_
  | with_reducible refine w_asg ?_
  | with_reducible refine w_gName ?_
  | with_reducible refine w_ret ?_
  | with_reducible refine w_ifS ?_
  | with_reducible refine w_drop ?_
  | with_reducible refine w_next ?_
  | with_reducible refine w_cons ?_
  | with_reducible refine w_nil ?_
  | with_reducible refine w_call ?_
  | with_reducible refine w_cb ?_
  | with_reducible refine w_rI0 ?_
  | with_reducible refine w_addI ?_
  | with_reducible refine w_eqI ?_
  | with_reducible refine w_neI ?_
  | with_reducible refine w_eqS ?_
  | with_reducible refine w_neS ?_
  | with_reducible refine w_eqB ?_
  | with_reducible refine w_neB ?_
  | with_reducible refine w_chain ?_
  | with_reducible refine w_test ?_
  | with_reducible refine w_tB ?_
  | with_reducible refine w_bl ?_
  | ((with_reducible refine' w_mulI ?vv ?_); (case vv => walk_at "side"))
  | ((with_reducible refine' w_rI ?vv ?_); (case vv => walk_at "side"))
  | with_reducible refine w_int1 ?_
  | with_reducible refine w_int1b ?_
  | with_reducible refine w_tup ?_
  | with_reducible refine w_lst ?_
  | with_reducible refine w_un ?_
  | with_reducible refine w_rU ?_
  | with_reducible refine w_not ?_
  | with_reducible refine w_notV ?_
  | with_reducible refine w_ifE ?_
  | with_reducible refine w_nT ?_
  | with_reducible refine w_nF ?_
  | with_reducible refine iteT ?_
  | with_reducible refine iteF ?_
  | ((with_reducible refine' w_ixT ?vv ?ww ?_); (case vv => walk_at "tr"); (case ww => walk_at "ix"))
  | ((with_reducible refine' w_ixL ?vv ?ww ?_); (case vv => walk_at "tr"); (case ww => walk_at "ix"))
  | with_reducible refine w_gSub ?_
  | ((with_reducible refine' w_setL ?vv ?ww ?_); (case vv => walk_at "tr"); (case ww => first | rfl | decide | assumption))
  | ((with_reducible refine' w_lenL ?vv ?_); (case vv => walk_at "tr"))
  | ((with_reducible refine' w_lenT ?vv ?_); (case vv => walk_at "tr"))
  | with_reducible refine w_max2 ?_
  | with_reducible refine w_max3 ?_
  | with_reducible refine w_din ?_
  | with_reducible refine w_dnotin ?_
  | with_reducible refine w_dput ?_
  | with_reducible refine w_min2 ?_
  | with_reducible refine w_bm ?_
  | with_reducible refine w_bm0 ?_
  | ((with_reducible refine' w_tyL ?vv ?_); (case vv => walk_at "tr"))
  | ((with_reducible refine' w_append ?vv ?ww ?_); (case vv => walk_at "tr"); (case ww => walk_at "size"))
  | ((with_reducible refine' w_size ?vv ?_); (case vv => walk_at "size"))
  | with_reducible refine w_forL ?_
  | with_reducible refine w_forT ?_
  | with_reducible refine w_forR1 ?_
  | with_reducible refine w_forR2 ?_
  | with_reducible refine w_lcL ?_
  | with_reducible refine w_lcT ?_
  | with_reducible refine w_lcR1 ?_
  | with_reducible refine w_yes ?_
  | with_reducible refine w_sl ?_
  | with_reducible refine w_noPart ?_
  | with_reducible refine w_part ?_
  | with_reducible refine w_int ?_
  | ((with_reducible refine' w_slL ?vv ?_); (case vv => walk_at "tr"))
  | ((with_reducible refine' w_seqL ?vv ?ww ?_); (case vv => walk_at "tr"); (case ww => rfl))
  | ((with_reducible refine' w_seqT ?vv ?ww ?_); (case vv => walk_at "tr"); (case ww => rfl))
  | with_reducible refine w_gNil ?_
  | with_reducible refine w_gCons ?_
  | with_reducible refine w_forZ ?_
  | with_reducible refine w_forM ?_
  | with_reducible refine w_forE ?_
  | with_reducible refine w_forV ?_
  | with_reducible refine w_lcZ ?_
  | with_reducible refine w_lcE ?_
  | ((with_reducible refine' w_isi (b := true) ?vv ?ww ?_); (case vv => walk_at "ty"); (case ww => decide +kernel))
  | ((with_reducible refine' w_isi (b := false) ?vv ?ww ?_); (case vv => walk_at "ty"); (case ww => decide +kernel))
  | with_reducible refine w_revL ?_
  | with_reducible refine w_pairN ?_
  | with_reducible refine w_pairC ?_
  | with_reducible refine w_dget ?_
  | with_reducible refine w_met ?_
  | ((with_reducible refine' w_metAt ?vv ?ww ?_); (case vv => walk_at "tr"); (case ww => rfl))
  | with_reducible refine w_mkI ?_
  | with_reducible refine w_fld ?_
  | ((with_reducible refine' w_fldAt ?vv ?cc ?nn ?ww ?_); (case vv => walk_at "tr"); (case cc => walk_at "cls"); (case nn => walk_at "na"); (case ww => rfl))
  | with_reducible refine w_sfld ?_
  | ((with_reducible refine' w_sfldAt ?vv ?cc ?nn ?ll ?ee ?_); (case vv => walk_at "tr"); (case cc => walk_at "cls"); (case nn => walk_at "na"); (case ll => simp); (case ee => rfl))
  | ((with_reducible refine' w_tupL ?vv ?_); (case vv => walk_at "tr"))
  | ((with_reducible refine' w_tupT ?vv ?_); (case vv => walk_at "tr"))
  | ((with_reducible refine' w_listL ?vv ?_); (case vv => walk_at "tr"))
  | ((with_reducible refine' w_listT ?vv ?_); (case vv => walk_at "tr"))
  | with_reducible refine w_tyS ?_
  | with_reducible refine w_lcZM ?_
  | with_reducible refine w_js ?_
  | with_reducible refine w_jsN ?_
  | ((with_reducible refine' w_jsP ?vv ?_); (case vv => walk_at "size"))
  | with_reducible refine w_fmt ?_
  | with_reducible refine w_forRR ?_
  | with_reducible refine w_retN ?_
  | with_reducible refine w_break ?_
  | with_reducible refine w_cont ?_)
local macro_rules | `(tactic| walk_at "w") => `(tactic| first
  | walk_at "v"
  | with_reducible refine w_or ?_
  | with_reducible refine w_and ?_
  | with_reducible refine w_andV ?_
  | with_reducible refine w_orV ?_)
local macro_rules | `(tactic| walk_at "wd") => `(tactic| first
  | walk_at "w"
  | ((with_reducible refine' w_decT ?vv ?_); (case vv => decide +kernel))
  | ((with_reducible refine' w_decF ?vv ?_); (case vv => decide +kernel)))
local macro_rules | `(tactic| walk_at "tz") => `(tactic| (intro S z; (repeat walk_at "w"); exact z))
local macro_rules | `(tactic| walk_at "wf") => `(tactic| first
  | walk_at "wd"
  | ((with_reducible refine' w_decF ?vv ?_); (case vv => with_reducible assumption)))
/-! ### k25: the least chain -/
section
variable {X : Cx} {K : PySem.W.Frag} {H : Hp} {Q : VK}
def rMinO (K : PySem.W.Frag) : List V → Hp → VK → Prop := fun vs H Q => ∃ (a : Addr) (ns : List Int), vs = [V.ref a] ∧ SqL K H a (ns.map V.int) ∧ 0 < ns.length ∧ ∀ m, m ∈ ns → (∀ y, y ∈ ns → m ≤ y) → Q (.int m) H
theorem call_minL (hK : X.K = K) (hc : X.calm = true) : CallR X (.builtin "min") (rMinO K) := by subst hK; exact cr_min hc
theorem w_minL {a : Addr} {ns : List Int} (h : SqL K H a (ns.map V.int)) (hl : 0 < ns.length) (k : ∀ m, m ∈ ns → (∀ y, y ∈ ns → m ≤ y) → Q (.int m) H) : rMinO K [.ref a] H Q := ⟨a, ns, rfl, h, hl, k⟩
end
def spLeast (K : PySem.W.Frag) : Sp := fun vs H Q _ => ∃ (q1 B : Addr) (us : List V) (L : List Stp) (bs : List Addr), vs = [.ref q1, .ref B] ∧ H q1 = some (.lst us) ∧ DpAll K H us (L.map Stp.d) ∧ (∀ c ∈ L, c.ok) ∧ L.length ≤ 900 ∧ BeatsAt H B bs (prs L) ∧
  ∀ F H', H' F = some (.lst (intsN (chF L (tops (prs L))))) → Same H H' → H F = none → Q (.ref F) H'
theorem len_law_least {K : PySem.W.Frag} {vs H Q E} (h : spLeast K vs H Q E) : vs.length = 2 := by obtain ⟨_, _, _, _, _, rfl, _⟩ := h; rfl
def keepB (L : List Stp) (f : List Nat) (a : Nat) : Bool := match f with
  | [] => true
  | h :: _ => meetL L a h
theorem min_head {a : Nat} {r : List Nat} (h : (a :: r).Pairwise (· < ·)) {m : Int} (hm : m ∈ (a :: r).map fun i : Nat => (i : Int)) (hy : ∀ y ∈ (a :: r).map fun i : Nat => (i : Int), m ≤ y) : m = (a : Int) := by
  obtain ⟨b, hb, rfl⟩ := List.mem_map.mp hm
  have h1 := hy (a : Int) (List.mem_map.mpr ⟨a, List.mem_cons_self, rfl⟩)
  rcases List.mem_cons.mp hb with z | z
  · rw [z]
  · have := (List.pairwise_cons.mp h).1 b z
    omega
section
variable {P : Program} {w : World} {K : PySem.W.Frag} {mg : Str → Option Value}
theorem ok_law_least [c : Facts K mg] [ct : FactsT w K] (G__law_meet : XL.Fn P w K mg "_law_meet" 2 ["one", "other"] ((spLMeet K))) : XL.Fn P w K mg "_law_least" 3 ["told", "beats"] ((spLeast K)) := by
  obtain ⟨fd, F⟩ := c.d_law_least
  refine XL.Fn.mk' F c.g_law_least sc_law_least (k := 2) (fun vs H Q E h => ?_) (fun _ _ _ _ _ _ us hl => match us, hl with | [_, _], _ => rfl) (fun base cdv A outer s H vs Q E hr h => ?_)
  · exact len_law_least h
  · have nd := sc_law_least.nd
    have hu := hu_of hr.r
    have hr__law_meet : XL.Rm 2 _ := hr.mono (by omega)
    refine ⟨_, (PSs.nox (pss_cons (ps_set (i := 2) nd rfl (Or.inr rfl) (pe_lst pa_nil))
      (pss_cons (ps_for PassesOwn.never rfl (pi_list (pe_revL (pv 1))) (pg_name (i := 3) nd rfl (Or.inl rfl)) (pss_cons (ps_setLc (i := 4) (own := [("at", 5)]) rfl nd rfl rfl (sw_true rfl rfl rfl (by decide +kernel)) (pi_list (pv 3)) (blkOk_by (N := N_law_least) (sc := defScope s_law_least) (by decide +kernel)) (fun _ _ _ _ _ => (pg_name (i := 5) nd rfl (Or.inl rfl))) (fun _ _ _ _ _ => pts_one (PW.pt (pw_or (pt_cmpR (op_eqA (K := K) rfl hr.units) (pv 2) (pe_lst pa_nil) (nomark _)) (pw_or1 (pt_val (XL.pe_fn G__law_meet hr__law_meet (by rfl) (pa_cons (pe_ix (ix_any (K := K) rfl) (pv 0) (pv 5) (fun _ _ => rfl)) (pa_cons (pe_ix (ix_any (K := K) rfl) (pv 0) (pe_ix (ix_any (K := K) rfl) (pv 2) pe_int (fun _ _ => rfl)) (fun _ _ => rfl)) pa_nil)))))))) (fun _ _ _ _ _ => (pv 5)))
      (pss_cons (ps_if (pt_cmpR (op_eqA (K := K) rfl hr.units) (pv 4) (pe_lst pa_nil) (nomark _)) (pss_one (ps_ret pe_non)) pss_nil)
      (pss_one (ps_set (i := 2) nd rfl (Or.inr rfl) (pe_op (op_addA (K := K) rfl) (pe_lst (pa_cons (pe_callB (call_minL (K := K) rfl rfl) (by rfl) c.f_min boot_min (pa_cons (pv 4) pa_nil)) pa_nil)) (pv 2)))))))
      (pss_one (ps_ret (pv 2)))))), ?_⟩
    try dsimp only [cxOf, Cx.nox, Cx.wish]
    obtain ⟨q1, B, us, L, bs, rfl, hq, hd, ok, hL, ⟨hB, hlen, hnd, hBn, hb⟩, q⟩ := h
    have hz : sizeLine = 16777216 := sizeLine_eq
    have hul : us.length = L.length := by rw [dpa_len hd, List.length_map]
    have htl := top_len L
    repeat walk_at "w"
    refine w_new fun F0 H1 n1 s1 f1 => ?_
    have hB1 := s1 _ _ hB
    repeat walk_at "w"
    refine ⟨B, _, rfl, SqL.of hB1, ?_⟩
    refine w_new fun R H2 n2 s2 f2 => ?_
    have s02 := s1.trans s2
    have f12 := s2 _ _ f1
    repeat walk_at "w"
    refine fl_list (bs.map V.ref).reverse (fun i σ H' => ∃ F o3 o4 o5, σ = [some (.ref q1), some (.ref B), some (.ref F), o3, o4, o5] ∧ Same H2 H' ∧ H' F = some (.lst (intsN (chF L i))) ∧ H F = none) (SqL.of f2) ⟨F0, _, _, _, rfl, Same.refl _, f12, n1⟩ (fun i σ H' hi hp => ?_) (fun i x σ H' hx hp => ?_) (fun σ H' hp => ?_)
    · obtain ⟨_, _, _, _, _, h, _⟩ := hp
      exact SqL.of (h _ _ f2)
    · obtain ⟨F, o3, o4, o5, rfl, e', hF, nF⟩ := hp
      have hi := (List.getElem?_eq_some_iff.mp hx).1
      rw [List.length_reverse, List.length_map] at hi
      rw [List.getElem?_reverse (by rw [List.length_map]; exact hi), List.length_map] at hx
      have hkk : bs.length - 1 - i = tops (prs L) - 1 - i := by omega
      rw [hkk, List.getElem?_map] at hx
      obtain ⟨b, hbk, rfl⟩ := Option.map_eq_some_iff.mp hx
      have s0' := s02.trans e'
      have fb := s0' _ _ (hb _ b hbk)
      have hq' := s0' _ _ hq
      have hd' := dpAll_ts (TS.of s0') _ _ (stps_tup L) hd
      have hbl := beatF_len (prs L) (tops (prs L) - 1 - i)
      rw [prs_len] at hbl
      obtain ⟨c1, c2, c3, c4⟩ := chF_ok L i (by omega)
      obtain ⟨ah, ar, har⟩ := c4 (by omega)
      have asc := able_asc L (tops (prs L) - 1 - i) (chF L i)
      have atOf : ∀ {H6 : Hp} {a : Nat} {s : Stp}, Same H' H6 → L[a]? = some s → ∃ x, us[a]? = some x ∧ Dp K H6 x s.d := fun {H6 a s} e6 hs => by
        have hal := (List.getElem?_eq_some_iff.mp hs).1
        obtain ⟨x, hx⟩ : ∃ x, us[a]? = some x := ⟨_, List.getElem?_eq_getElem (by omega)⟩
        obtain ⟨d, g1, g2⟩ := dpa_at' (dpAll_ts (TS.of e6) _ _ (stps_tup L) hd') hx
        rw [List.getElem?_map, hs] at g1
        cases Option.some.inj g1
        exact ⟨x, hx, g2⟩
      have abl : (ableF L (tops (prs L) - 1 - i) (chF L i)).length ≤ 900 := by
        cases hf : chF L i with
        | nil => show (beatF _ _).length ≤ _; omega
        | cons h t =>
          have := List.length_filter_le (fun a => meetL L a h) (beatF (prs L) (tops (prs L) - 1 - i))
          show (List.filter _ _).length ≤ _
          omega
      repeat walk_at "w"
      refine lc_L (intsN (beatF (prs L) (tops (prs L) - 1 - i))) (fun D j ys H6 => Same H' H6 ∧ ys = intsN (((beatF (prs L) (tops (prs L) - 1 - i)).take j).filter (keepB L (chF L i)))) (SqL.of fb) (fun D H' hD e f => ⟨e, by simp [intsN]⟩) (fun D hD j ys H' hj hy hp => SqL.of (hp.1 _ _ fb)) (fun D hD j x ys H6 hx hll hy2 hp => ?_) (fun D hD ys H7 hll hy2 hp => ?_)
      · obtain ⟨e2, rfl⟩ := hp
        unfold intsN at hx
        rw [List.getElem?_map] at hx
        obtain ⟨n, hx', rfl⟩ := Option.map_eq_some_iff.mp hx
        rw [List.getElem?_map] at hx'
        obtain ⟨a, ha, rfl⟩ := Option.map_eq_some_iff.mp hx'
        obtain ⟨sa, hsa, _⟩ := beat_num (List.mem_of_getElem? ha)
        have hF6 := e2 _ _ hF
        have hbl2 := List.length_filter_le (keepB L (chF L i)) ((beatF (prs L) (tops (prs L) - 1 - i)).take j)
        rw [List.length_take] at hbl2
        repeat walk_at "w"
        refine w_new fun Z H8 n8 s8 f8 => ?_
        have hF8 := s8 _ _ hF6
        have hy8 := s8 _ _ hy2
        have e8 := e2.trans s8
        have hq8 := e8 _ _ hq'
        refine w_eqIL (ns := (chF L i).map fun i : Nat => (i : Int)) (ms := []) (SqL.of hF8) (SqL.of f8) ?_
        refine ⟨_, rfl, ?_⟩
        cases hf : chF L i with
        | nil =>
          have kv : keepB L (chF L i) a = true := by rw [hf]; rfl
          refine iteT ?_
          refine iteT ?_
          repeat walk_at "w"
          refine lc_end hy8 hll (by rw [hz]; unfold intsN; rw [List.length_map, List.length_map]; omega) fun H9 e9 f9 => ⟨But.new e8 hD e9, ?_⟩
          rw [hf, tk_snoc ha, List.filter_append, List.filter_cons, if_pos (show keepB L [] a = true from rfl), List.filter_nil]; unfold intsN; rw [List.map_append, List.map_append]; rfl
        | cons hh tt =>
          rw [hf] at hF8
          have hbn : hh ∈ beatF (prs L) (tops (prs L) - i) := c3 hh tt hf
          obtain ⟨sh, hsh, _⟩ := beat_num hbn
          have kv : keepB L (chF L i) a = meetS sa sh := by rw [hf]; exact meetL_of hsa hsh
          obtain ⟨xa, hxa, ga⟩ := atOf e8 hsa
          obtain ⟨xh, hxh, gh⟩ := atOf e8 hsh
          refine iteF ?_
          repeat walk_at "w"
          refine w_ixL (n := ((a : Nat) : Int)) (SqL.of hq8) (atI_of (by omega) (by rw [Int.toNat_natCast]; exact hxa)) ?_
          repeat walk_at "w"
          refine w_ixL (n := ((hh : Nat) : Int)) (SqL.of hq8) (atI_of (by omega) (by rw [Int.toNat_natCast]; exact hxh)) ?_
          repeat walk_at "w"
          refine ⟨xa, xh, sa, sh, rfl, ga, gh, ok sa (List.mem_of_getElem? hsa), ok sh (List.mem_of_getElem? hsh), fun H9 s9 => ?_⟩
          have hy9 := s9 _ _ hy8
          refine ⟨_, rfl, ?_⟩
          refine ite2 (fun hk => ?_) (fun hk => ?_)
          · repeat walk_at "w"
            refine lc_end hy9 hll (by rw [hz]; unfold intsN; rw [List.length_map, List.length_map]; omega) fun H10 e10 f10 => ⟨But.new (e8.trans s9) hD e10, ?_⟩
            rw [hf, tk_snoc ha, List.filter_append, List.filter_cons, if_pos (by rw [← hf, kv]; exact hk), List.filter_nil]; unfold intsN; rw [List.map_append, List.map_append]; rfl
          · refine lc_skip hy9 hll ⟨e8.trans s9, ?_⟩
            rw [hf, tk_snoc ha, List.filter_append, List.filter_cons, if_neg (by rw [← hf, kv]; exact hk), List.filter_nil, List.append_nil]
      · obtain ⟨e2, rfl⟩ := hp
        have hab : (beatF (prs L) (tops (prs L) - 1 - i)).filter (keepB L (chF L i)) = ah :: ar := by
          rw [← har]
          cases hf : chF L i with
          | nil => exact List.filter_eq_self.mpr fun _ _ => rfl
          | cons h t => rfl
        have hlen2 : (intsN (beatF (prs L) (tops (prs L) - 1 - i))).length = (beatF (prs L) (tops (prs L) - 1 - i)).length := by unfold intsN; rw [List.length_map, List.length_map]
        rw [hlen2, List.take_length, hab] at hy2
        rw [har] at asc abl
        have hF7 := e2 _ _ hF
        repeat walk_at "w"
        refine w_new fun Z H8 n8 s8 f8 => ?_
        have hy8 := s8 _ _ hy2
        have hF8 := s8 _ _ hF7
        refine w_eqIL (ns := (ah :: ar).map fun i : Nat => (i : Int)) (ms := []) (SqL.of hy8) (SqL.of f8) ?_
        refine ⟨_, rfl, ?_⟩
        refine iteF ?_
        repeat walk_at "w"
        refine w_minL (ns := (ah :: ar).map fun i : Nat => (i : Int)) (SqL.of hy8) (by simp) fun m hm1 hm2 => ?_
        have em := min_head asc hm1 hm2
        subst em
        repeat walk_at "w"
        refine w_new fun Z2 H9 n9 s9 f9 => ?_
        have hF9 := s9 _ _ hF8
        have fcl : (intsN (chF L i)).length = i := by unfold intsN; rw [List.length_map, List.length_map]; exact c2
        repeat walk_at "w"
        refine w_addL f9 hF9 (by rw [hz, fcl]; simp only [List.length_cons, List.length_nil]; omega) ?_
        refine w_new fun F3 H10 n10 s10 f10 => ?_
        refine ⟨F3, _, _, _, rfl, e'.trans (e2.trans (s8.trans (s9.trans s10))), ?_, (s0'.trans (e2.trans (s8.trans s9))).free n10⟩
        rw [f10]
        show some (HO.lst _) = some (HO.lst (intsN ((ableF L (tops (prs L) - 1 - i) (chF L i)).take 1 ++ chF L i)))
        rw [har]
        rfl
    · obtain ⟨F, o3, o4, o5, rfl, e', hF, nF⟩ := hp
      rw [List.length_reverse, List.length_map, hlen] at hF
      repeat walk_at "w"
      exact q F H' hF (s02.trans e') nF
end

end J
namespace J
open PySem PySem.Spec PyProof.Rows L2
local macro_rules | `(tactic| walk_at "cls") => `(tactic| first
  | with_reducible exact Facts.cl_Step
  | with_reducible exact Facts.cl_Get
  | with_reducible exact Facts.cl_Ask
  | with_reducible exact Facts.cl_Cell
  | with_reducible exact Facts.cl_Two
  | with_reducible exact Facts.cl_Put
  | with_reducible exact Facts.cl_Tell
  | with_reducible exact Facts.cl_Store)
local macro_rules | `(tactic| walk_at "na") => `(tactic| first
  | with_reducible exact Facts.na_Get_to
  | with_reducible exact Facts.na_Get_sel
  | with_reducible exact Facts.na_Ask_to
  | with_reducible exact Facts.na_Ask_sel
  | with_reducible exact Facts.na_Cell_to
  | with_reducible exact Facts.na_Cell_source
  | with_reducible exact Facts.na_Two_to
  | with_reducible exact Facts.na_Two_op
  | with_reducible exact Facts.na_Two_one
  | with_reducible exact Facts.na_Two_other
  | with_reducible exact Facts.na_Put_sel
  | with_reducible exact Facts.na_Put_source
  | with_reducible exact Facts.na_Tell_sel
  | with_reducible exact Facts.na_Tell_source
  | with_reducible exact Facts.na_Store_at
  | with_reducible exact Facts.na_Store_source)
local macro_rules | `(tactic| walk_at "ty") => `(tactic| first
  | with_reducible exact ty_int
  | with_reducible exact ty_bl
  | with_reducible exact ty_str
  | with_reducible exact ty_non
  | ((with_reducible refine' ty_lst ?vv); (case vv => walk_at "tr"))
  | ((with_reducible refine' ty_sqT ?vv); (case vv => walk_at "tr"))
  | ((with_reducible refine' ty_dic ?vv); (case vv => walk_at "tr")))
local macro_rules | `(tactic| walk_at "ix") => `(tactic| first | exact at0 | exact at1 | exact at2 | assumption)
local macro_rules | `(tactic| walk_at "size") => `(tactic| first
  | assumption
  | (show _ < sizeLine; rw [sizeLine_eq]; (try simp only [List.length_cons, List.length_nil, List.length_append, List.length_map]); omega)
  | (show _ ≤ sizeLine; rw [sizeLine_eq]; (try simp only [List.length_cons, List.length_nil, List.length_append, List.length_map]); omega))
local macro_rules | `(tactic| walk_at "side") => `(tactic| first
  | assumption
  | ((with_reducible refine cdw ?_ ?_) <;> omega)
  | omega
  | (exact ⟨by omega, by omega⟩)
  | (exact Or.inl ⟨by omega, by omega⟩)
  | (exact Or.inr ⟨by omega, by omega⟩)
  | decide
  | (simp only [List.length_cons, List.length_nil, List.length_append, List.length_map]; omega)
  | (show _ ≤ _; decide))
local macro_rules | `(tactic| walk_at "as") => `(tactic| with_reducible assumption)
local macro_rules | `(tactic| walk_at "tr") => `(tactic| first
  | with_reducible assumption
  | with_reducible exact upd_same
  | ((with_reducible refine' SqL.of ?hh); (case hh => walk_at "as"))
  | ((with_reducible refine' SqT.of ?hh); (case hh => walk_at "as"))
  | ((with_reducible refine' Same.stm ?ee ?gg); (case ee => walk_at "as"); (case gg => walk_at "tr"))
  | ((with_reducible refine' Same.sqT ?ee ?gg); (case ee => walk_at "as"); (case gg => walk_at "tr"))
  | ((with_reducible refine' Same.sqL ?ee ?gg); (case ee => walk_at "as"); (case gg => walk_at "tr"))
  | ((with_reducible refine' Same.at ?ee ?gg); (case ee => walk_at "as"); (case gg => walk_at "tr"))
  | ((with_reducible refine' But.stm ?ee ?ff ?gg); (case ee => walk_at "as"); (case ff => walk_at "ne"); (case gg => walk_at "tr"))
  | ((with_reducible refine' But.tup ?ee ?ff ?gg); (case ee => walk_at "as"); (case ff => walk_at "tr1"); (case gg => walk_at "tr"))
  | ((with_reducible refine' But.sqT ?ee ?ff ?gg); (case ee => walk_at "as"); (case ff => walk_at "tr1"); (case gg => walk_at "tr"))
  | ((with_reducible refine' But.tupL ?ee ?ff ?gg); (case ee => walk_at "as"); (case ff => walk_at "tr1"); (case gg => walk_at "tr"))
  | ((with_reducible refine' But.sqTL ?ee ?ff ?gg); (case ee => walk_at "as"); (case ff => walk_at "tr1"); (case gg => walk_at "tr"))
  | ((with_reducible refine' But.sqL ?ee ?ff ?gg); (case ee => walk_at "as"); (case ff => walk_at "ne"); (case gg => walk_at "tr"))
  | ((with_reducible refine' But.at ?ee ?ff ?gg); (case ee => walk_at "as"); (case ff => walk_at "ne"); (case gg => walk_at "tr")))
local macro_rules | `(tactic| walk_at "ts") => `(tactic| first
  | with_reducible assumption
  | with_reducible exact TS.refl _
  | ((with_reducible refine' TS.trans ?gg (TS.of ?ee)); (case ee => walk_at "as"); (case gg => walk_at "ts"))
  | ((with_reducible refine' TS.trans ?gg (TS.butS ?ee ?ff)); (case ee => walk_at "as"); (case ff => walk_at "tr1"); (case gg => walk_at "ts"))
  | ((with_reducible refine' TS.trans ?gg (TS.butL ?ee ?ff)); (case ee => walk_at "as"); (case ff => walk_at "tr1"); (case gg => walk_at "ts"))
  | ((with_reducible refine' TS.trans ?gg (TS.butI ?ee ?ff)); (case ee => walk_at "as"); (case ff => walk_at "tr1"); (case gg => walk_at "ts")))
local macro_rules | `(tactic| walk_at "sm") => `(tactic| first
  | with_reducible assumption
  | with_reducible exact Same.refl _
  | ((with_reducible refine' Same.trans ?gg ?ee); (case ee => walk_at "as"); (case gg => walk_at "sm"))
  | ((with_reducible refine' But.new ?gg ?nn ?ee); (case ee => walk_at "as"); (case nn => walk_at "fr"); (case gg => walk_at "sm")))
local macro_rules | `(tactic| walk_at "fr") => `(tactic| first
  | with_reducible assumption
  | ((with_reducible refine' Same.back ?ee ?nn); (case nn => walk_at "as"); (case ee => walk_at "sm"))
  | ((with_reducible refine' But.back ?ee ?ff ?nn); (case nn => walk_at "as"); (case ff => walk_at "ne0"); (case ee => walk_at "bu")))
local macro_rules | `(tactic| walk_at "bu") => `(tactic| first
  | with_reducible assumption
  | with_reducible exact But.refl _ _
  | ((with_reducible refine' But.trans ?gg ?ee); (case ee => walk_at "as"); (case gg => walk_at "bu"))
  | ((with_reducible refine' But.trans ?gg (But.of ?ee)); (case ee => walk_at "as"); (case gg => walk_at "bu"))
  | ((with_reducible refine' But.new2 ?gg ?nn ?ee); (case ee => walk_at "as"); (case nn => walk_at "frB"); (case gg => walk_at "bu")))
local macro_rules | `(tactic| walk_at "frB") => `(tactic| first
  | with_reducible assumption
  | ((with_reducible refine' Same.back ?ee ?nn); (case nn => walk_at "as"); (case ee => walk_at "sm"))
  | ((with_reducible refine' But.back' ?ee ?ff ?nn); (case nn => walk_at "as"); (case ee => walk_at "bu"); (case ff => walk_at "tr1")))
local macro_rules | `(tactic| walk_at "tr1") => `(tactic| first
  | with_reducible assumption
  | ((with_reducible refine' Same.stm ?ee ?gg); (case ee => walk_at "as"); (case gg => walk_at "tr1"))
  | ((with_reducible refine' Same.at ?ee ?gg); (case ee => walk_at "as"); (case gg => walk_at "tr1"))
  | ((with_reducible refine' But.at ?ee ?ff ?gg); (case ee => walk_at "as"); (case ff => walk_at "ne0"); (case gg => walk_at "tr1"))
  | ((with_reducible refine' But.stm ?ee ?ff ?gg); (case ee => walk_at "as"); (case ff => walk_at "ne0"); (case gg => walk_at "tr1")))
local macro_rules | `(tactic| walk_at "ne0") => `(tactic| first
  | with_reducible assumption
  | (with_reducible apply Ne.symm; with_reducible assumption))
local macro_rules | `(tactic| walk_at "ne") => `(tactic| first
  | with_reducible assumption
  | (with_reducible apply Ne.symm; with_reducible assumption)
  | ((with_reducible refine' stm_ne ?hh ?nn); (case nn => walk_at "as"); (case hh => walk_at "tr1"))
  | ((with_reducible refine' ne_of_none ?hh ?nn); (case nn => walk_at "as"); (case hh => walk_at "tr1"))
  | ((with_reducible apply Ne.symm); (with_reducible refine' ne_of_none ?hh ?nn); (case nn => walk_at "as"); (case hh => walk_at "tr1")))
local macro_rules | `(tactic| walk_at "v") => `(tactic| first
  | with_reducible refine w_seq ?_
  | ((with_reducible refine' w_var ?vv ?_); (case vv => exact rfl))
  | with_reducible refine w_c ?_
  | with_reducible refine w_op ?_
  | with_reducible refine w_asg ?_
  | with_reducible refine w_gName ?_
  | with_reducible refine w_ret ?_
  | with_reducible refine w_ifS ?_
  | with_reducible refine w_drop ?_
  | with_reducible refine w_next ?_
  | with_reducible refine w_cons ?_
  | with_reducible refine w_nil ?_
  | with_reducible refine w_call ?_
  | with_reducible refine w_cb ?_
  | with_reducible refine w_rI0 ?_
  | with_reducible refine w_addI ?_
  | with_reducible refine w_eqI ?_
  | with_reducible refine w_neI ?_
  | with_reducible refine w_eqS ?_
  | with_reducible refine w_neS ?_
  | with_reducible refine w_eqB ?_
  | with_reducible refine w_neB ?_
  | with_reducible refine w_chain ?_
  | with_reducible refine w_test ?_
  | with_reducible refine w_tB ?_
  | with_reducible refine w_bl ?_
  | ((with_reducible refine' w_mulI ?vv ?_); (case vv => walk_at "side"))
  | ((with_reducible refine' w_rI ?vv ?_); (case vv => walk_at "side"))
  | with_reducible refine w_int1 ?_
  | with_reducible refine w_int1b ?_
  | with_reducible refine w_tup ?_
  | with_reducible refine w_lst ?_
  | with_reducible refine w_un ?_
  | with_reducible refine w_rU ?_
  | with_reducible refine w_not ?_
  | with_reducible refine w_notV ?_
  | with_reducible refine w_ifE ?_
  | with_reducible refine w_nT ?_
  | with_reducible refine w_nF ?_
  | with_reducible refine iteT ?_
  | with_reducible refine iteF ?_
  | ((with_reducible refine' w_ixT ?vv ?ww ?_); (case vv => walk_at "tr"); (case ww => walk_at "ix"))
  | ((with_reducible refine' w_ixL ?vv ?ww ?_); (case vv => walk_at "tr"); (case ww => walk_at "ix"))
  | with_reducible refine w_gSub ?_
  | ((with_reducible refine' w_setL ?vv ?ww ?_); (case vv => walk_at "tr"); (case ww => first | rfl | decide | assumption))
  | ((with_reducible refine' w_lenL ?vv ?_); (case vv => walk_at "tr"))
  | ((with_reducible refine' w_lenT ?vv ?_); (case vv => walk_at "tr"))
  | with_reducible refine w_max2 ?_
  | with_reducible refine w_max3 ?_
  | with_reducible refine w_din ?_
  | with_reducible refine w_dnotin ?_
  | with_reducible refine w_dput ?_
  | with_reducible refine w_min2 ?_
  | with_reducible refine w_bm ?_
  | with_reducible refine w_bm0 ?_
  | ((with_reducible refine' w_tyL ?vv ?_); (case vv => walk_at "tr"))
  | ((with_reducible refine' w_append ?vv ?ww ?_); (case vv => walk_at "tr"); (case ww => walk_at "size"))
  | ((with_reducible refine' w_size ?vv ?_); (case vv => walk_at "size"))
  | with_reducible refine w_forL ?_
  | with_reducible refine w_forT ?_
  | with_reducible refine w_forR1 ?_
  | with_reducible refine w_forR2 ?_
  | with_reducible refine w_lcL ?_
  | with_reducible refine w_lcT ?_
  | with_reducible refine w_lcR1 ?_
  | with_reducible refine w_yes ?_
  | with_reducible refine w_sl ?_
  | with_reducible refine w_noPart ?_
  | with_reducible refine w_part ?_
  | with_reducible refine w_int ?_
  | ((with_reducible refine' w_slL ?vv ?_); (case vv => walk_at "tr"))
  | ((with_reducible refine' w_seqL ?vv ?ww ?_); (case vv => walk_at "tr"); (case ww => rfl))
  | ((with_reducible refine' w_seqT ?vv ?ww ?_); (case vv => walk_at "tr"); (case ww => rfl))
  | with_reducible refine w_gNil ?_
  | with_reducible refine w_gCons ?_
  | with_reducible refine w_forZ ?_
  | with_reducible refine w_forM ?_
  | with_reducible refine w_forE ?_
  | with_reducible refine w_forV ?_
  | with_reducible refine w_lcZ ?_
  | with_reducible refine w_lcE ?_
  | ((with_reducible refine' w_isi (b := true) ?vv ?ww ?_); (case vv => walk_at "ty"); (case ww => decide +kernel))
  | ((with_reducible refine' w_isi (b := false) ?vv ?ww ?_); (case vv => walk_at "ty"); (case ww => decide +kernel))
  | with_reducible refine w_revL ?_
  | with_reducible refine w_pairN ?_
  | with_reducible refine w_pairC ?_
  | with_reducible refine w_dget ?_
  | with_reducible refine w_met ?_
  | ((with_reducible refine' w_metAt ?vv ?ww ?_); (case vv => walk_at "tr"); (case ww => rfl))
  | with_reducible refine w_mkI ?_
  | with_reducible refine w_fld ?_
  | ((with_reducible refine' w_fldAt ?vv ?cc ?nn ?ww ?_); (case vv => walk_at "tr"); (case cc => walk_at "cls"); (case nn => walk_at "na"); (case ww => rfl))
  | with_reducible refine w_sfld ?_
  | ((with_reducible refine' w_sfldAt ?vv ?cc ?nn ?ll ?ee ?_); (case vv => walk_at "tr"); (case cc => walk_at "cls"); (case nn => walk_at "na"); (case ll => simp); (case ee => rfl))
  | ((with_reducible refine' w_tupL ?vv ?_); (case vv => walk_at "tr"))
  | ((with_reducible refine' w_tupT ?vv ?_); (case vv => walk_at "tr"))
  | ((with_reducible refine' w_listL ?vv ?_); (case vv => walk_at "tr"))
  | ((with_reducible refine' w_listT ?vv ?_); (case vv => walk_at "tr"))
  | with_reducible refine w_tyS ?_
  | with_reducible refine w_lcZM ?_
  | with_reducible refine w_js ?_
  | with_reducible refine w_jsN ?_
  | ((with_reducible refine' w_jsP ?vv ?_); (case vv => walk_at "size"))
  | with_reducible refine w_fmt ?_
  | with_reducible refine w_forRR ?_
  | with_reducible refine w_retN ?_
  | with_reducible refine w_break ?_
  | with_reducible refine w_cont ?_)
local macro_rules | `(tactic| walk_at "w") => `(tactic| first
  | walk_at "v"
  | with_reducible refine w_or ?_
  | with_reducible refine w_and ?_
  | with_reducible refine w_andV ?_
  | with_reducible refine w_orV ?_)
local macro_rules | `(tactic| walk_at "wd") => `(tactic| first
  | walk_at "w"
  | ((with_reducible refine' w_decT ?vv ?_); (case vv => decide +kernel))
  | ((with_reducible refine' w_decF ?vv ?_); (case vv => decide +kernel)))
local macro_rules | `(tactic| walk_at "tz") => `(tactic| (intro S z; (repeat walk_at "w"); exact z))
local macro_rules | `(tactic| walk_at "wf") => `(tactic| first
  | walk_at "wd"
  | ((with_reducible refine' w_decF ?vv ?_); (case vv => with_reducible assumption)))
/-! ### small rules of the raising layer -/
section
variable {K : PySem.W.Frag} {σ : L2.St} {H : Hp} {nx : L2.St → Hp → Prop} {rt : VK} {bk ct : L2.St → Hp → Prop} {t u : L2.TS} {ta : TA} {i j : Nat}
/-- behind a branch: what both ways come to -/
theorem w_seqN (Φ : L2.St → Hp → Prop) (h1 : ∀ K : L2.St → Hp → Prop, (∀ σ' H', Φ σ' H' → K σ' H') → t ⟨K, rt, bk, ct⟩ σ H) (h2 : ∀ σ' H', Φ σ' H' → u ⟨nx, rt, bk, ct⟩ σ' H') : tSeq t u ⟨nx, rt, bk, ct⟩ σ H := h1 _ h2
theorem w_reprD {v : V} {d : PyData} {Q : VK} (h : Dp K H v d) (hs : d.showable = true) (hd : d.depth ≤ 60) (hz : d.shown.length ≤ sizeLine) (k : Q (.str d.shown) H) : XL.rReprA K [v] H Q := .inl ⟨v, d, rfl, h, hs, hd, hz, k⟩
theorem w_par (k : ta σ H fun vs H1 => ∃ v w, vs = [v, w] ∧ nx ((σ.set i (some v)).set j (some w)) H1) : tPar i j ta ⟨nx, rt, bk, ct⟩ σ H := k
theorem w_parE {v w : V} {R : V → V → Prop} (k : R v w) : ∃ v' w', [v, w] = [v', w'] ∧ R v' w' := ⟨v, w, rfl, k⟩
end

end J
namespace J
open PySem PySem.Spec PyProof.Rows L2
local macro_rules | `(tactic| walk_at "cls") => `(tactic| first
  | with_reducible exact Facts.cl_Step
  | with_reducible exact Facts.cl_Get
  | with_reducible exact Facts.cl_Ask
  | with_reducible exact Facts.cl_Cell
  | with_reducible exact Facts.cl_Two
  | with_reducible exact Facts.cl_Put
  | with_reducible exact Facts.cl_Tell
  | with_reducible exact Facts.cl_Store)
local macro_rules | `(tactic| walk_at "na") => `(tactic| first
  | with_reducible exact Facts.na_Get_to
  | with_reducible exact Facts.na_Get_sel
  | with_reducible exact Facts.na_Ask_to
  | with_reducible exact Facts.na_Ask_sel
  | with_reducible exact Facts.na_Cell_to
  | with_reducible exact Facts.na_Cell_source
  | with_reducible exact Facts.na_Two_to
  | with_reducible exact Facts.na_Two_op
  | with_reducible exact Facts.na_Two_one
  | with_reducible exact Facts.na_Two_other
  | with_reducible exact Facts.na_Put_sel
  | with_reducible exact Facts.na_Put_source
  | with_reducible exact Facts.na_Tell_sel
  | with_reducible exact Facts.na_Tell_source
  | with_reducible exact Facts.na_Store_at
  | with_reducible exact Facts.na_Store_source)
local macro_rules | `(tactic| walk_at "ty") => `(tactic| first
  | with_reducible exact ty_int
  | with_reducible exact ty_bl
  | with_reducible exact ty_str
  | with_reducible exact ty_non
  | ((with_reducible refine' ty_lst ?vv); (case vv => walk_at "tr"))
  | ((with_reducible refine' ty_sqT ?vv); (case vv => walk_at "tr"))
  | ((with_reducible refine' ty_dic ?vv); (case vv => walk_at "tr")))
local macro_rules | `(tactic| walk_at "ix") => `(tactic| first | exact at0 | exact at1 | exact at2 | assumption)
local macro_rules | `(tactic| walk_at "size") => `(tactic| first
  | assumption
  | (show _ < sizeLine; rw [sizeLine_eq]; (try simp only [List.length_cons, List.length_nil, List.length_append, List.length_map]); omega)
  | (show _ ≤ sizeLine; rw [sizeLine_eq]; (try simp only [List.length_cons, List.length_nil, List.length_append, List.length_map]); omega))
local macro_rules | `(tactic| walk_at "side") => `(tactic| first
  | assumption
  | ((with_reducible refine cdw ?_ ?_) <;> omega)
  | omega
  | (exact ⟨by omega, by omega⟩)
  | (exact Or.inl ⟨by omega, by omega⟩)
  | (exact Or.inr ⟨by omega, by omega⟩)
  | decide
  | (simp only [List.length_cons, List.length_nil, List.length_append, List.length_map]; omega)
  | (show _ ≤ _; decide))
local macro_rules | `(tactic| walk_at "as") => `(tactic| with_reducible assumption)
local macro_rules | `(tactic| walk_at "tr") => `(tactic| first
  | with_reducible assumption
  | with_reducible exact upd_same
  | ((with_reducible refine' SqL.of ?hh); (case hh => walk_at "as"))
  | ((with_reducible refine' SqT.of ?hh); (case hh => walk_at "as"))
  | ((with_reducible refine' Same.stm ?ee ?gg); (case ee => walk_at "as"); (case gg => walk_at "tr"))
  | ((with_reducible refine' Same.sqT ?ee ?gg); (case ee => walk_at "as"); (case gg => walk_at "tr"))
  | ((with_reducible refine' Same.sqL ?ee ?gg); (case ee => walk_at "as"); (case gg => walk_at "tr"))
  | ((with_reducible refine' Same.at ?ee ?gg); (case ee => walk_at "as"); (case gg => walk_at "tr"))
  | ((with_reducible refine' But.stm ?ee ?ff ?gg); (case ee => walk_at "as"); (case ff => walk_at "ne"); (case gg => walk_at "tr"))
  | ((with_reducible refine' But.tup ?ee ?ff ?gg); (case ee => walk_at "as"); (case ff => walk_at "tr1"); (case gg => walk_at "tr"))
  | ((with_reducible refine' But.sqT ?ee ?ff ?gg); (case ee => walk_at "as"); (case ff => walk_at "tr1"); (case gg => walk_at "tr"))
  | ((with_reducible refine' But.tupL ?ee ?ff ?gg); (case ee => walk_at "as"); (case ff => walk_at "tr1"); (case gg => walk_at "tr"))
  | ((with_reducible refine' But.sqTL ?ee ?ff ?gg); (case ee => walk_at "as"); (case ff => walk_at "tr1"); (case gg => walk_at "tr"))
  | ((with_reducible refine' But.sqL ?ee ?ff ?gg); (case ee => walk_at "as"); (case ff => walk_at "ne"); (case gg => walk_at "tr"))
  | ((with_reducible refine' But.at ?ee ?ff ?gg); (case ee => walk_at "as"); (case ff => walk_at "ne"); (case gg => walk_at "tr")))
local macro_rules | `(tactic| walk_at "ts") => `(tactic| first
  | with_reducible assumption
  | with_reducible exact TS.refl _
  | ((with_reducible refine' TS.trans ?gg (TS.of ?ee)); (case ee => walk_at "as"); (case gg => walk_at "ts"))
  | ((with_reducible refine' TS.trans ?gg (TS.butS ?ee ?ff)); (case ee => walk_at "as"); (case ff => walk_at "tr1"); (case gg => walk_at "ts"))
  | ((with_reducible refine' TS.trans ?gg (TS.butL ?ee ?ff)); (case ee => walk_at "as"); (case ff => walk_at "tr1"); (case gg => walk_at "ts"))
  | ((with_reducible refine' TS.trans ?gg (TS.butI ?ee ?ff)); (case ee => walk_at "as"); (case ff => walk_at "tr1"); (case gg => walk_at "ts")))
local macro_rules | `(tactic| walk_at "sm") => `(tactic| first
  | with_reducible assumption
  | with_reducible exact Same.refl _
  | ((with_reducible refine' Same.trans ?gg ?ee); (case ee => walk_at "as"); (case gg => walk_at "sm"))
  | ((with_reducible refine' But.new ?gg ?nn ?ee); (case ee => walk_at "as"); (case nn => walk_at "fr"); (case gg => walk_at "sm")))
local macro_rules | `(tactic| walk_at "fr") => `(tactic| first
  | with_reducible assumption
  | ((with_reducible refine' Same.back ?ee ?nn); (case nn => walk_at "as"); (case ee => walk_at "sm"))
  | ((with_reducible refine' But.back ?ee ?ff ?nn); (case nn => walk_at "as"); (case ff => walk_at "ne0"); (case ee => walk_at "bu")))
local macro_rules | `(tactic| walk_at "bu") => `(tactic| first
  | with_reducible assumption
  | with_reducible exact But.refl _ _
  | ((with_reducible refine' But.trans ?gg ?ee); (case ee => walk_at "as"); (case gg => walk_at "bu"))
  | ((with_reducible refine' But.trans ?gg (But.of ?ee)); (case ee => walk_at "as"); (case gg => walk_at "bu"))
  | ((with_reducible refine' But.new2 ?gg ?nn ?ee); (case ee => walk_at "as"); (case nn => walk_at "frB"); (case gg => walk_at "bu")))
local macro_rules | `(tactic| walk_at "frB") => `(tactic| first
  | with_reducible assumption
  | ((with_reducible refine' Same.back ?ee ?nn); (case nn => walk_at "as"); (case ee => walk_at "sm"))
  | ((with_reducible refine' But.back' ?ee ?ff ?nn); (case nn => walk_at "as"); (case ee => walk_at "bu"); (case ff => walk_at "tr1")))
local macro_rules | `(tactic| walk_at "tr1") => `(tactic| first
  | with_reducible assumption
  | ((with_reducible refine' Same.stm ?ee ?gg); (case ee => walk_at "as"); (case gg => walk_at "tr1"))
  | ((with_reducible refine' Same.at ?ee ?gg); (case ee => walk_at "as"); (case gg => walk_at "tr1"))
  | ((with_reducible refine' But.at ?ee ?ff ?gg); (case ee => walk_at "as"); (case ff => walk_at "ne0"); (case gg => walk_at "tr1"))
  | ((with_reducible refine' But.stm ?ee ?ff ?gg); (case ee => walk_at "as"); (case ff => walk_at "ne0"); (case gg => walk_at "tr1")))
local macro_rules | `(tactic| walk_at "ne0") => `(tactic| first
  | with_reducible assumption
  | (with_reducible apply Ne.symm; with_reducible assumption))
local macro_rules | `(tactic| walk_at "ne") => `(tactic| first
  | with_reducible assumption
  | (with_reducible apply Ne.symm; with_reducible assumption)
  | ((with_reducible refine' stm_ne ?hh ?nn); (case nn => walk_at "as"); (case hh => walk_at "tr1"))
  | ((with_reducible refine' ne_of_none ?hh ?nn); (case nn => walk_at "as"); (case hh => walk_at "tr1"))
  | ((with_reducible apply Ne.symm); (with_reducible refine' ne_of_none ?hh ?nn); (case nn => walk_at "as"); (case hh => walk_at "tr1")))
local macro_rules | `(tactic| walk_at "v") => `(tactic| first
  | with_reducible refine w_seq ?_
  | ((with_reducible refine' w_var ?vv ?_); (case vv => exact rfl))
  | with_reducible refine w_c ?_
  | with_reducible refine w_op ?_
  | with_reducible refine w_asg ?_
  | with_reducible refine w_gName ?_
  | with_reducible refine w_ret ?_
  | with_reducible refine w_ifS ?_
  | with_reducible refine w_drop ?_
  | with_reducible refine w_next ?_
  | with_reducible refine w_cons ?_
  | with_reducible refine w_nil ?_
  | with_reducible refine w_call ?_
  | with_reducible refine w_cb ?_
  | with_reducible refine w_rI0 ?_
  | with_reducible refine w_addI ?_
  | with_reducible refine w_eqI ?_
  | with_reducible refine w_neI ?_
  | with_reducible refine w_eqS ?_
  | with_reducible refine w_neS ?_
  | with_reducible refine w_eqB ?_
  | with_reducible refine w_neB ?_
  | with_reducible refine w_chain ?_
  | with_reducible refine w_test ?_
  | with_reducible refine w_tB ?_
  | with_reducible refine w_bl ?_
  | ((with_reducible refine' w_mulI ?vv ?_); (case vv => walk_at "side"))
  | ((with_reducible refine' w_rI ?vv ?_); (case vv => walk_at "side"))
  | with_reducible refine w_int1 ?_
  | with_reducible refine w_int1b ?_
  | with_reducible refine w_tup ?_
  | with_reducible refine w_lst ?_
  | with_reducible refine w_un ?_
  | with_reducible refine w_rU ?_
  | with_reducible refine w_not ?_
  | with_reducible refine w_notV ?_
  | with_reducible refine w_ifE ?_
  | with_reducible refine w_nT ?_
  | with_reducible refine w_nF ?_
  | with_reducible refine iteT ?_
  | with_reducible refine iteF ?_
  | ((with_reducible refine' w_ixT ?vv ?ww ?_); (case vv => walk_at "tr"); (case ww => walk_at "ix"))
  | ((with_reducible refine' w_ixL ?vv ?ww ?_); (case vv => walk_at "tr"); (case ww => walk_at "ix"))
  | with_reducible refine w_gSub ?_
  | ((with_reducible refine' w_setL ?vv ?ww ?_); (case vv => walk_at "tr"); (case ww => first | rfl | decide | assumption))
  | ((with_reducible refine' w_lenL ?vv ?_); (case vv => walk_at "tr"))
  | ((with_reducible refine' w_lenT ?vv ?_); (case vv => walk_at "tr"))
  | with_reducible refine w_max2 ?_
  | with_reducible refine w_max3 ?_
  | with_reducible refine w_din ?_
  | with_reducible refine w_dnotin ?_
  | with_reducible refine w_dput ?_
  | with_reducible refine w_min2 ?_
  | with_reducible refine w_bm ?_
  | with_reducible refine w_bm0 ?_
  | ((with_reducible refine' w_tyL ?vv ?_); (case vv => walk_at "tr"))
  | ((with_reducible refine' w_append ?vv ?ww ?_); (case vv => walk_at "tr"); (case ww => walk_at "size"))
  | ((with_reducible refine' w_size ?vv ?_); (case vv => walk_at "size"))
  | with_reducible refine w_forL ?_
  | with_reducible refine w_forT ?_
  | with_reducible refine w_forR1 ?_
  | with_reducible refine w_forR2 ?_
  | with_reducible refine w_lcL ?_
  | with_reducible refine w_lcT ?_
  | with_reducible refine w_lcR1 ?_
  | with_reducible refine w_yes ?_
  | with_reducible refine w_sl ?_
  | with_reducible refine w_noPart ?_
  | with_reducible refine w_part ?_
  | with_reducible refine w_int ?_
  | ((with_reducible refine' w_slL ?vv ?_); (case vv => walk_at "tr"))
  | ((with_reducible refine' w_seqL ?vv ?ww ?_); (case vv => walk_at "tr"); (case ww => rfl))
  | ((with_reducible refine' w_seqT ?vv ?ww ?_); (case vv => walk_at "tr"); (case ww => rfl))
  | with_reducible refine w_gNil ?_
  | with_reducible refine w_gCons ?_
  | with_reducible refine w_forZ ?_
  | with_reducible refine w_forM ?_
  | with_reducible refine w_forE ?_
  | with_reducible refine w_forV ?_
  | with_reducible refine w_lcZ ?_
  | with_reducible refine w_lcE ?_
  | ((with_reducible refine' w_isi (b := true) ?vv ?ww ?_); (case vv => walk_at "ty"); (case ww => decide +kernel))
  | ((with_reducible refine' w_isi (b := false) ?vv ?ww ?_); (case vv => walk_at "ty"); (case ww => decide +kernel))
  | with_reducible refine w_revL ?_
  | with_reducible refine w_pairN ?_
  | with_reducible refine w_pairC ?_
  | with_reducible refine w_dget ?_
  | with_reducible refine w_met ?_
  | ((with_reducible refine' w_metAt ?vv ?ww ?_); (case vv => walk_at "tr"); (case ww => rfl))
  | with_reducible refine w_mkI ?_
  | with_reducible refine w_fld ?_
  | ((with_reducible refine' w_fldAt ?vv ?cc ?nn ?ww ?_); (case vv => walk_at "tr"); (case cc => walk_at "cls"); (case nn => walk_at "na"); (case ww => rfl))
  | with_reducible refine w_sfld ?_
  | ((with_reducible refine' w_sfldAt ?vv ?cc ?nn ?ll ?ee ?_); (case vv => walk_at "tr"); (case cc => walk_at "cls"); (case nn => walk_at "na"); (case ll => simp); (case ee => rfl))
  | ((with_reducible refine' w_tupL ?vv ?_); (case vv => walk_at "tr"))
  | ((with_reducible refine' w_tupT ?vv ?_); (case vv => walk_at "tr"))
  | ((with_reducible refine' w_listL ?vv ?_); (case vv => walk_at "tr"))
  | ((with_reducible refine' w_listT ?vv ?_); (case vv => walk_at "tr"))
  | with_reducible refine w_tyS ?_
  | with_reducible refine w_lcZM ?_
  | with_reducible refine w_js ?_
  | with_reducible refine w_jsN ?_
  | ((with_reducible refine' w_jsP ?vv ?_); (case vv => walk_at "size"))
  | with_reducible refine w_fmt ?_
  | with_reducible refine w_forRR ?_
  | with_reducible refine w_retN ?_
  | with_reducible refine w_break ?_
  | with_reducible refine w_cont ?_)
local macro_rules | `(tactic| walk_at "w") => `(tactic| first
  | walk_at "v"
  | with_reducible refine w_or ?_
  | with_reducible refine w_and ?_
  | with_reducible refine w_andV ?_
  | with_reducible refine w_orV ?_)
local macro_rules | `(tactic| walk_at "wd") => `(tactic| first
  | walk_at "w"
  | ((with_reducible refine' w_decT ?vv ?_); (case vv => decide +kernel))
  | ((with_reducible refine' w_decF ?vv ?_); (case vv => decide +kernel)))
local macro_rules | `(tactic| walk_at "tz") => `(tactic| (intro S z; (repeat walk_at "w"); exact z))
local macro_rules | `(tactic| walk_at "wf") => `(tactic| first
  | walk_at "wd"
  | ((with_reducible refine' w_decF ?vv ?_); (case vv => with_reducible assumption)))
/-! ### k25: the law -/
theorem cutT (xs : List V) : cutV xs (some 1) none = xs.tail := by
  cases xs with
  | nil => rfl
  | cons x r => exact cut1 x r
theorem cutL (xs : List V) (v : V) : cutV (xs ++ [v]) none (some (-1)) = xs := by
  unfold cutV
  have e : HT.sIx (xs ++ [v]).length (xs ++ [v]).length (some (-1)) = xs.length := by
    show (if (-1 : Int) < 0 then ((-1 : Int) + ((xs ++ [v]).length : Int)).toNat else min (-1 : Int).toNat (xs ++ [v]).length) = xs.length
    rw [if_pos (by decide), List.length_append, List.length_singleton]; omega
  rw [e]
  show ((xs ++ [v]).drop 0).take (xs.length - 0) = xs
  rw [List.drop_zero, Nat.sub_zero, List.take_left']
  rfl
theorem ch_nil : chF [] (tops (prs [])) = [] := rfl
def twoS : List Stp := [.get 0 ⟨false, 0⟩, .put ⟨false, 1⟩ (.inn 0)]
theorem StepsIn.is {K : PySem.W.Frag} {H H' : Hp} {ps : List Addr} {L : List Stp} (h : StepsIn K H ps L) (e : IS H H') : StepsIn K H' ps L := ⟨h.1, fun i c hc => by
  obtain ⟨p, a, b⟩ := h.2 i c hc
  exact ⟨p, a, e.step b⟩⟩
theorem BeatsAt.sm {H H' : Hp} {B : Addr} {bs : List Addr} {P : List (Stp × Nat)} (h : BeatsAt H B bs P) (e : Same H H') : BeatsAt H' B bs P := ⟨e _ _ h.1, h.2.1, h.2.2.1, h.2.2.2.1, fun k b hk => e _ _ (h.2.2.2.2 k b hk)⟩
theorem BeatsAt.dp {K : PySem.W.Frag} {H : Hp} {B : Addr} {bs : List Addr} {P : List (Stp × Nat)} (h : BeatsAt H B bs P) : Dp K H (.ref B) (dueD P) := dp_beats h.1 h.2.1 h.2.2.2.2
theorem ch_ints (L : List Stp) {j : Nat} (hj : j ≤ tops (prs L)) : ((chF L j).map fun i : Nat => (i : Int)).Pairwise (· < ·) := by
  rw [List.pairwise_map]
  exact (ChL.asc (chF_ok L j hj).1).imp fun h => by omega
def reprT : PyData := .list [.list [], .list [.int 0, .int 1]]
theorem rep_ok : reprT.showable = true ∧ reprT.depth ≤ 60 ∧ reprT.shown.length ≤ sizeLine := ⟨by decide +kernel, by decide +kernel, by rw [sizeLine_eq]; decide +kernel⟩
theorem two_ok : ∀ c ∈ twoS, c.ok := by
  intro c hc
  rcases (by simpa [twoS] using hc : c = .get 0 ⟨false, 0⟩ ∨ c = .put ⟨false, 1⟩ (.inn 0)) with rfl | rfl
  · refine ⟨fun c hc => ?_, fun l hl => ?_, fun n hn => ?_, fun _ _ _ _ e => nomatch e⟩
    · cases hc
    · rw [List.mem_singleton.mp hl]; show 0 ≤ 3; decide
    · rw [List.mem_singleton.mp hn]; decide
  · refine ⟨fun c hc => ?_, fun l hl => ?_, fun n hn => ?_, fun _ _ _ _ e => nomatch e⟩
    · rw [List.mem_singleton.mp hc]; show 0 ≤ 7; decide
    · rw [List.mem_singleton.mp hl]; show 1 ≤ 3; decide
    · cases hn
theorem ch_two : chF twoS (tops (prs twoS)) = [0, 1] := by decide +kernel
section
variable {P : Program} {w : World} {K : PySem.W.Frag} {mg : Str → Option Value}
theorem ok_law [c : Facts K mg] [ct : FactsT w K] (G__law_beats : XL.Fn P w K mg "_law_beats" 3 ["told"] ((spBeats K))) (G__law_cell : XL.Fn P w K mg "_law_cell" 1 ["script", "k"] ((spCell K))) (G__law_least : XL.Fn P w K mg "_law_least" 3 ["told", "beats"] ((spLeast K))) (G__law_meet : XL.Fn P w K mg "_law_meet" 2 ["one", "other"] ((spLMeet K))) (G__law_objects : XL.Fn P w K mg "_law_objects" 8 ["stream", "told"] ((spObj K))) (G__law_steps : XL.Fn P w K mg "_law_steps" 4 ["stream", "most"] ((spLSteps K))) (G__law_stream : XL.Fn P w K mg "_law_stream" 1 ["cell"] (spStream)) (G__law_take : XL.Fn P w K mg "_law_take" 1 ["stream", "many"] (spTake)) (G_chain_of : XL.Fn P w K mg "chain_of" 6 ["steps"] ((spChain K))) (G_packed : XL.Fn P w K mg "packed" 5 ["steps"] ((spPacked K))) (G_step_of : XL.Fn P w K mg "step_of" 6 ["told"] ((spStepOf K))) : XL.Fn P w K mg "law" 9 ["script"] ((spLaw K)) := by
  obtain ⟨fd, F⟩ := c.d_law
  refine XL.Fn.mk' F c.g_law sc_law (k := 8) (fun vs H Q E h => ?_) (fun _ _ _ _ _ _ us hl => match us, hl with | [_], _ => rfl) (fun base cdv A outer s H vs Q E hr h => ?_)
  · exact len_law h
  · have nd := sc_law.nd
    have hu := hu_of hr.r
    have hr__law_beats : XL.Rm 3 _ := hr.mono (by omega)
    have hr__law_cell : XL.Rm 1 _ := hr.mono (by omega)
    have hr__law_least : XL.Rm 3 _ := hr.mono (by omega)
    have hr__law_meet : XL.Rm 2 _ := hr.mono (by omega)
    have hr__law_objects : XL.Rm 8 _ := hr.mono (by omega)
    have hr__law_steps : XL.Rm 4 _ := hr.mono (by omega)
    have hr__law_stream : XL.Rm 1 _ := hr.mono (by omega)
    have hr__law_take : XL.Rm 1 _ := hr.mono (by omega)
    have hr_chain_of : XL.Rm 6 _ := hr.mono (by omega)
    have hr_packed : XL.Rm 5 _ := hr.mono (by omega)
    have hr_step_of : XL.Rm 6 _ := hr.mono (by omega)
    refine ⟨_, (PSs.nox (pss_cons (ps_for PassesOwn.never rfl (pi_range1 (by rfl) c.f_range (pa_cons (pe_callB (call_max2A rfl) (by rfl) c.f_max boot_max (pa_cons pe_int (pa_cons (pe_callB (call_min2A rfl) (by rfl) c.f_min boot_min (pa_cons (pe_callB (call_lenA (K := K) rfl) (by rfl) c.f_len boot_len (pa_cons (pv 0) pa_nil)) (pa_cons pe_int pa_nil))) pa_nil))) pa_nil)) (pg_name (i := 1) nd rfl (Or.inl rfl)) (pss_cons (ps_set (i := 2) nd rfl (Or.inl rfl) (XL.pe_fn G__law_stream hr__law_stream (by rfl) (pa_cons (XL.pe_fn G__law_cell hr__law_cell (by rfl) (pa_cons (pv 0) (pa_cons (pv 1) pa_nil))) pa_nil)))
      (pss_cons (ps_set (i := 3) nd rfl (Or.inl rfl) (XL.pe_fn G__law_steps hr__law_steps (by rfl) (pa_cons (pv 2) (pa_cons (pe_ix (ix_any (K := K) rfl) (pe_lst (pa_cons pe_int (pa_cons pe_int pa_nil))) (pe_callTy call_int1A (by rfl) c.f_int boot_int (pa_cons (pe_cmpR (op_eqA (K := K) rfl hr.units) (XL.pe_fn G__law_take hr__law_take (by rfl) (pa_cons (pv 2) (pa_cons pe_int pa_nil))) pe_int (nomark _)) pa_nil)) (fun _ _ => rfl)) pa_nil))))
      (pss_cons (ps_set (i := 4) nd rfl (Or.inl rfl) (XL.pe_fn G__law_objects hr__law_objects (by rfl) (pa_cons (pv 2) (pa_cons (pv 3) pa_nil))))
      (pss_cons (ps_set (i := 5) nd rfl (Or.inl rfl) (XL.pe_fn G__law_beats hr__law_beats (by rfl) (pa_cons (pv 3) pa_nil)))
      (pss_cons (ps_if (pt_cmpR (op_eqA (K := K) rfl hr.units) (XL.pe_fn G__law_take hr__law_take (by rfl) (pa_cons (pv 2) (pa_cons pe_int pa_nil))) pe_int (nomark _)) (pss_cons (ps_set (i := 6) nd rfl (Or.inl rfl) (XL.pe_fn G_packed hr_packed (by rfl) (pa_cons (pv 4) pa_nil)))
      (pss_one (ps_set (i := 7) nd rfl (Or.inl rfl) (XL.pe_fn G_chain_of hr_chain_of (by rfl) (pa_cons (pv 4) pa_nil))))) (pss_cons (ps_set (i := 7) nd rfl (Or.inl rfl) (XL.pe_fn G_chain_of hr_chain_of (by rfl) (pa_cons (pe_callTy (call_tupA (K := K) rfl) (by rfl) c.f_tuple boot_tuple (pa_cons (pv 4) pa_nil)) pa_nil)))
      (pss_one (ps_set (i := 6) nd rfl (Or.inl rfl) (XL.pe_fn G_packed hr_packed (by rfl) (pa_cons (pv 4) pa_nil))))))
      (pss_cons (ps_if (pt_cmpR (op_neA (K := K) rfl hr.units) (pv 6) (pv 5) (nomark _)) (pss_one (ps_ret pe_bl)) pss_nil)
      (pss_cons (ps_if (PW.pt (pw_or (pt_not (pt_val (pe_callB (call_isiA (K := K) rfl) (by rfl) c.f_isinstance boot_isinstance (pa_cons (pv 7) (pa_cons (pe_bltn (v := .ty "list") (by rfl) c.f_list boot_list rfl) pa_nil))))) (pw_or (pt_cmpR (op_neA (K := K) rfl hr.units) (pe_callB (call_lenA (K := K) rfl) (by rfl) c.f_len boot_len (pa_cons (pv 7) pa_nil)) (pe_callB (call_lenA (K := K) rfl) (by rfl) c.f_len boot_len (pa_cons (pv 5) pa_nil)) (nomark _)) (pw_or1 (pt_cmpR (op_neA (K := K) rfl hr.units) (pv 7) (pe_callB (call_sortSI rfl) (by rfl) c.f_sorted boot_sorted (pa_cons (pe_callTy (call_setI (K := K) rfl rfl) (by rfl) c.f_set boot_set (pa_cons (pv 7) pa_nil)) pa_nil)) (nomark _)))))) (pss_one (ps_ret pe_bl)) pss_nil)
      (pss_cons (ps_for PassesOwn.never rfl (pi_zip (by rfl) c.f_zip (pa_cons (pv 7) (pa_cons (pe_slice (sl_any (K := K) rfl) (pv 7) (po_some pe_int) po_none) pa_nil))) (pg_seq 2 (K := K) rfl rfl (pgs_cons (pg_name (i := 8) nd rfl (Or.inl rfl)) (pgs_cons (pg_name (i := 9) nd rfl (Or.inl rfl)) pgs_nil))) (pss_one (ps_if (pt_not (pt_val (XL.pe_fn G__law_meet hr__law_meet (by rfl) (pa_cons (pe_ix (ix_any (K := K) rfl) (pv 3) (pv 8) (fun _ _ => rfl)) (pa_cons (pe_ix (ix_any (K := K) rfl) (pv 3) (pv 9) (fun _ _ => rfl)) pa_nil))))) (pss_one (ps_ret pe_bl)) pss_nil)))
      (pss_cons (ps_if (PW.pt (pw_or (pt_cmpR (op_neA (K := K) rfl hr.units) (pv 7) (XL.pe_fn G__law_least hr__law_least (by rfl) (pa_cons (pv 3) (pa_cons (pv 5) pa_nil))) (nomark _)) (pw_or1 (pt_cmpR (op_inA (K := K) rfl) pe_bl (pe_lc (own := [("at", 11)]) rfl nd (pi_list (pv 7)) (blkOk_by (N := N_law) (sc := defScope s_law) (by decide +kernel)) (fun _ _ _ _ _ => (pg_name (i := 11) nd rfl (Or.inl rfl))) (fun _ _ _ _ _ => pts_nil) (fun _ _ _ _ _ => (pe_callB (call_isiA (K := K) rfl) (by rfl) c.f_isinstance boot_isinstance (pa_cons (pv 11) (pa_cons (pe_bltn (v := .ty "bool") (by rfl) c.f_bool boot_bool rfl) pa_nil))))) (by rfl))))) (pss_one (ps_ret pe_bl)) pss_nil)
      (pss_cons (ps_expr (pe_bm PySem.F.plainAttrs_list PySem.F.slot_list_append PySem.F.type_list_append mt_append (pv 7) (pa_cons pe_int pa_nil)))
      (pss_one (ps_if (pt_cmpR (op_neA (K := K) rfl hr.units) (XL.pe_fn G_chain_of hr_chain_of (by rfl) (pa_cons (pv 4) pa_nil)) (pe_slice (sl_any (K := K) rfl) (pv 7) po_none (po_some (pe_un un_neg pe_int))) (nomark _)) (pss_one (ps_ret pe_bl)) pss_nil)))))))))))))
      (pss_cons (ps_set (i := 10) nd rfl (Or.inl rfl) (pe_lst (pa_cons (XL.pe_fn G_step_of hr_step_of (by rfl) (pa_cons (pe_tup (pa_cons pe_str (pa_cons pe_int (pa_cons (pe_tup (pa_cons pe_str (pa_cons pe_int pa_nil))) pa_nil)))) pa_nil)) (pa_cons (XL.pe_fn G_step_of hr_step_of (by rfl) (pa_cons (pe_tup (pa_cons pe_str (pa_cons (pe_tup (pa_cons pe_str (pa_cons pe_int pa_nil))) (pa_cons (pe_tup (pa_cons pe_str (pa_cons pe_int pa_nil))) pa_nil)))) pa_nil)) pa_nil))))
      (pss_one (ps_ret (pe_cmpR (op_eqA (K := K) rfl hr.units) (pe_callB (XL.call_reprA (K := K) rfl hr.gd hr.units) (by rfl) c.f_repr boot_repr (pa_cons (pe_lst (pa_cons (XL.pe_fn G_chain_of hr_chain_of (by rfl) (pa_cons (pe_lst pa_nil) pa_nil)) (pa_cons (XL.pe_fn G_chain_of hr_chain_of (by rfl) (pa_cons (pv 10) pa_nil)) pa_nil))) pa_nil)) (pe_callB (XL.call_reprA (K := K) rfl hr.gd hr.units) (by rfl) c.f_repr boot_repr (pa_cons (pe_lst (pa_cons (pe_lst pa_nil) (pa_cons (pe_lst (pa_cons pe_int (pa_cons pe_int pa_nil))) pa_nil))) pa_nil)) (nomark _))))))), ?_⟩
    try dsimp only [cxOf, Cx.nox, Cx.wish]
    obtain ⟨a, ns, rfl, hS, hl, q⟩ := h
    have hz : sizeLine = 16777216 := sizeLine_eq
    repeat walk_at "w"
    refine fl_rng1 (fun i σ H' => ∃ o1 o2 o3 o4 o5 o6 o7 o8 o9 o11, σ = [some (.ref a), o1, o2, o3, o4, o5, o6, o7, o8, o9, none, o11] ∧ SqL K H' a (ns.map V.int)) (by omega) (by omega) ⟨_, _, _, _, _, _, _, _, _, _, rfl, hS⟩ (fun i σ H1 hi hp => ?_) (fun σ H1 hp => ?_)
    · obtain ⟨o1, o2, o3, o4, o5, o6, o7, o8, o9, o11, rfl, hS1⟩ := hp
      repeat walk_at "w"
      refine ⟨a, ns, i, rfl, hS1, by omega, fun c => ?_⟩
      repeat walk_at "w"
      refine ⟨c, rfl, fun s H2 s2 n2 hs2 => ?_⟩
      repeat walk_at "w"
      refine w_new fun p3 H3 n3 s3 f3 => ?_
      have hs3 : Stm H3 s := s3.stm hs2
      repeat walk_at "w"
      refine ⟨s, 8, rfl, hs3, by decide, by decide, fun z H4 z0 z1 hs4 e4 => ?_⟩
      have hl4 : SqL K H4 p3 [.int 40, .int 100] := e4.sqL (stm_ne hs2 n3) (SqL.of f3)
      repeat walk_at "w"
      have zb : 0 ≤ (if decide (z = 0) = true then (1 : Int) else 0) ∧ (if decide (z = 0) = true then (1 : Int) else 0) < 2 := by split <;> omega
      refine w_ix2 hl4 zb.1 zb.2 fun m hm => ?_
      have mb : 0 ≤ m ∧ m ≤ 100 := by rcases hm with rfl | rfl <;> decide
      repeat walk_at "w"
      refine ⟨s, m, rfl, hs4, mb.1, mb.2, fun q5 us L H5 hq5 hd5 ok hL hs5 b45 n5 => ?_⟩
      have hLb : L.length ≤ 900 := by omega
      have s15 : Same H1 H5 := But.new s2 n2 (((But.of s3).trans e4).trans b45)
      have nqs : q5 ≠ s := stm_ne hs4 n5
      repeat walk_at "w"
      refine ⟨s, q5, us, L, rfl, hs5, nqs, hq5, hd5, ok, hLb, fun DS ps H7 hDS hst hs7 b67 n7 => ?_⟩
      have s17 : Same H1 H7 := But.new s2 n2 ((((But.of s3).trans e4).trans b45).trans b67)
      have hq7 := b67 _ _ nqs hq5
      have hd7 := dpAll_ts (TS.butS b67 hs5) _ _ (stps_tup L) hd5
      have hpl : ps.length = L.length := hst.1
      repeat walk_at "w"
      refine ⟨q5, us, L, rfl, hq7, hd7, ok, hLb, fun B bs H8 hBA s78 nB nbs => ?_⟩
      have s18 := s17.trans s78
      have hs8 : Stm H8 s := s78.stm hs7
      have hDS8 := s78 _ _ hDS
      have hst8 := hst.sm s78
      refine w_seqN (fun σ H' => ∃ D2 bs2 F, σ = [some (.ref a), some (.int (i : Int)), some (.ref s), some (.ref q5), some (.ref DS), some (.ref B), some (.ref D2), some (.ref F), o8, o9, none, o11] ∧ But s H8 H' ∧ BeatsAt H' D2 bs2 (prs L) ∧ H' F = some (.lst (intsN (chF L (tops (prs L))))) ∧ H8 F = none) (fun KK hK => ?_) (fun σ H9 hp => ?_)
      · repeat walk_at "w"
        refine ⟨s, 2, rfl, hs8, by decide, by decide, fun z H9 z0 z1 hs9 e9 => ?_⟩
        have n8s : ∀ {p : Addr} {o : HO}, H8 p = some o → (∀ x y z : Int, o ≠ .lst [.int x, .int y, .int z]) → H9 p = some o := fun {p o} h n => e9 _ _ (fun z => by
          obtain ⟨x, y, u, hh⟩ := hs8
          rw [z, hh] at h
          exact n x y u (Option.some.inj h).symm) h
        have hDSs : DS ≠ s := fun z => by
          rw [z] at n7
          obtain ⟨x, y, u, hh⟩ := hs5
          rw [hh] at n7; cases n7
        have hDS9 := e9 _ _ hDSs hDS8
        have hst9 : StepsIn K H9 ps L := by
          obtain ⟨x, y, u, hh⟩ := hs8
          exact hst8.is (IS.but e9 hh plain_lst)
        repeat walk_at "w"
        refine ite2 (fun hk => ?_) (fun hk => ?_)
        · repeat walk_at "w"
          refine ⟨DS, ps, L, rfl, .inl (SqL.of hDS9), hst9, ok, by omega, fun D2 bs2 H10 hBA2 s10 nD2 nbs2 => ?_⟩
          repeat walk_at "w"
          refine ⟨DS, ps, L, rfl, .inl (SqL.of (s10 _ _ hDS9)), hst9.sm s10, ok, by omega, fun F H11 hF s11 nF => ?_⟩
          repeat walk_at "w"
          exact hK _ _ ⟨D2, bs2, F, rfl, e9.trans (But.of (s10.trans s11)), hBA2.sm s11, hF, e9.back (fun z => by rw [z] at nF; obtain ⟨x, y, u, hh⟩ := s10.stm hs9; rw [hh] at nF; cases nF) (s10.free nF)⟩
        · repeat walk_at "w"
          refine w_new fun T H10 n10 s10 f10 => ?_
          repeat walk_at "w"
          refine ⟨T, ps, L, rfl, .inr (SqT.of f10), hst9.sm s10, ok, by omega, fun F H11 hF s11 nF => ?_⟩
          have s911 := s10.trans s11
          repeat walk_at "w"
          refine ⟨DS, ps, L, rfl, .inl (SqL.of (s911 _ _ hDS9)), hst9.sm s911, ok, by omega, fun D2 bs2 H12 hBA2 s12 nD2 nbs2 => ?_⟩
          repeat walk_at "w"
          exact hK _ _ ⟨D2, bs2, F, rfl, e9.trans (But.of (s911.trans s12)), hBA2, s12 _ _ hF, e9.back (fun z => by rw [z] at nF; obtain ⟨x, y, u, hh⟩ := s10.stm hs9; rw [hh] at nF; cases nF) (s10.free nF)⟩
      · obtain ⟨D2, bs2, F, rfl, e89, hBA2, hF, nF⟩ := hp
        have hBA9 : BeatsAt H9 B bs (prs L) := ⟨e89 _ _ (stm_ne hs7 nB) hBA.1, hBA.2.1, hBA.2.2.1, hBA.2.2.2.1, fun k b hk => e89 _ _ (stm_ne hs7 (nbs b (List.mem_of_getElem? hk))) (hBA.2.2.2.2 k b hk)⟩
        have hq8 := s78 _ _ hq7
        have hd8 := dpAll_ts (TS.of s78) _ _ (stps_tup L) hd7
        have hq9 := e89 _ _ nqs hq8
        have hd9 := dpAll_ts (TS.butS e89 hs8) _ _ (stps_tup L) hd8
        have hul : us.length = L.length := by rw [dpa_len hd5, List.length_map]
        have hDSs : DS ≠ s := fun z => by
          rw [z] at n7
          obtain ⟨x, y, u, hh⟩ := hs5
          rw [hh] at n7; cases n7
        have hDS9 := e89 _ _ hDSs hDS8
        have hst9 : StepsIn K H9 ps L := by
          obtain ⟨x, y, u, hh⟩ := hs8
          exact hst8.is (IS.but e89 hh plain_lst)
        have htl := top_len L
        obtain ⟨c1, c2, c3, c4⟩ := chF_ok L (tops (prs L)) (Nat.le_refl _)
        have hcl : (intsN (chF L (tops (prs L)))).length = tops (prs L) := by unfold intsN; rw [List.length_map, List.length_map, c2]
        repeat walk_at "w"
        refine w_neP hBA2.dp hBA9.dp (due_cmp _) (due_cmp _) fun b hb => ?_
        have hb0 : b = false := by
          cases b with
          | false => rfl
          | true => exact ((hb.mp rfl) rfl).elim
        subst hb0
        have hB9 := hBA9.1
        repeat walk_at "w"
        rw [decide_eq_true (show ((intsN (chF L (tops (prs L)))).length : Int) = ((bs.map V.ref).length : Int) by rw [hcl, List.length_map, hBA.2.1])]
        repeat walk_at "w"
        refine w_setI (ns := (chF L (tops (prs L))).map fun i : Nat => (i : Int)) (SqL.of hF) (by rw [List.length_map, c2]; omega) fun sa cn H10 s10 nsa hcn fsa => ?_
        rw [List.length_map, c2] at hcn
        repeat walk_at "w"
        refine w_sortSI fsa (by omega) fun ms h1 h2 h3 => ?_
        have ems : ms = (chF L (tops (prs L))).map fun i : Nat => (i : Int) := asc_one h1 (ch_ints L (Nat.le_refl _)) fun k => by rw [h2 k, decide_eq_true_eq]
        subst ems
        refine w_new fun M H11 n11 s11 f11 => ?_
        have s911 := s10.trans s11
        have hF11 := s911 _ _ hF
        refine w_neIL (ns := (chF L (tops (prs L))).map fun i : Nat => (i : Int)) (ms := (chF L (tops (prs L))).map fun i : Nat => (i : Int)) (SqL.of hF11) (SqL.of f11) ?_
        rw [decide_eq_true rfl]
        repeat walk_at "w"
        try rw [cutT]
        refine w_new fun Y H12 n12 s12 f12 => ?_
        have s912 := s911.trans s12
        have hF12 := s12 _ _ hF11
        have hq12 := s912 _ _ hq9
        have hd12 := dpAll_ts (TS.of s912) _ _ (stps_tup L) hd9
        repeat walk_at "w"
        refine fl_zip (fun i' σ H' => ∃ o8 o9, σ = [some (.ref a), some (.int (i : Int)), some (.ref s), some (.ref q5), some (.ref DS), some (.ref B), some (.ref D2), some (.ref F), o8, o9, none, o11] ∧ Same H12 H') (SqL.of hF12) (SqL.of f12) ⟨_, _, rfl, Same.refl _⟩ (fun i' σ H' hi hp => ?_) (fun i' x y T σ H13 H14 hx hy hp nT s14 fT => ?_) (fun σ H13 hp => ?_)
        · obtain ⟨_, _, _, e⟩ := hp
          exact ⟨SqL.of (e _ _ hF12), SqL.of (e _ _ f12)⟩
        · obtain ⟨o8', o9', rfl, e13⟩ := hp
          have e14 := e13.trans s14
          have hq14 := e14 _ _ hq12
          have hd14 := dpAll_ts (TS.of e14) _ _ (stps_tup L) hd12
          rw [List.getElem?_tail] at hy
          unfold intsN at hx hy
          rw [List.getElem?_map] at hx hy
          obtain ⟨n, hx', rfl⟩ := Option.map_eq_some_iff.mp hx
          obtain ⟨m', hy', rfl⟩ := Option.map_eq_some_iff.mp hy
          rw [List.getElem?_map] at hx' hy'
          obtain ⟨a1, ha1, rfl⟩ := Option.map_eq_some_iff.mp hx'
          obtain ⟨a2, ha2, rfl⟩ := Option.map_eq_some_iff.mp hy'
          have l1 := chF_mem (L := L) (Nat.le_refl _) a1 (List.mem_of_getElem? ha1)
          have l2 := chF_mem (L := L) (Nat.le_refl _) a2 (List.mem_of_getElem? ha2)
          have hm := c1.at ha1 ha2
          obtain ⟨t1, ht1⟩ : ∃ t, L[a1]? = some t := ⟨_, List.getElem?_eq_getElem l1⟩
          obtain ⟨t2, ht2⟩ : ∃ t, L[a2]? = some t := ⟨_, List.getElem?_eq_getElem l2⟩
          rw [meetL_of ht1 ht2] at hm
          obtain ⟨x1, hx1⟩ : ∃ x, us[a1]? = some x := ⟨_, List.getElem?_eq_getElem (by omega)⟩
          obtain ⟨x2, hx2⟩ : ∃ x, us[a2]? = some x := ⟨_, List.getElem?_eq_getElem (by omega)⟩
          obtain ⟨d1, g1, g1'⟩ := dpa_at' hd14 hx1
          obtain ⟨d2, g2, g2'⟩ := dpa_at' hd14 hx2
          rw [List.getElem?_map, ht1] at g1
          rw [List.getElem?_map, ht2] at g2
          cases Option.some.inj g1
          cases Option.some.inj g2
          repeat walk_at "w"
          refine w_ixL (n := ((a1 : Nat) : Int)) (SqL.of hq14) (atI_of (by omega) (by rw [Int.toNat_natCast]; exact hx1)) ?_
          repeat walk_at "w"
          refine w_ixL (n := ((a2 : Nat) : Int)) (SqL.of hq14) (atI_of (by omega) (by rw [Int.toNat_natCast]; exact hx2)) ?_
          repeat walk_at "w"
          refine ⟨x1, x2, t1, t2, rfl, g1', g2', ok _ (List.mem_of_getElem? ht1), ok _ (List.mem_of_getElem? ht2), fun H15 s15 => ?_⟩
          rw [hm]
          repeat walk_at "w"
          exact ⟨_, _, rfl, e14.trans s15⟩
        · obtain ⟨o8', o9', rfl, e13⟩ := hp
          have s913 := s912.trans e13
          have hF13 := e13 _ _ hF12
          have hq13 := s913 _ _ hq9
          have hd13 := dpAll_ts (TS.of s913) _ _ (stps_tup L) hd9
          repeat walk_at "w"
          refine ⟨q5, B, us, L, bs, rfl, hq13, hd13, ok, hLb, hBA9.sm s913, fun F2 H14 hF2 s14 nF2 => ?_⟩
          have hF14 := s14 _ _ hF13
          refine w_neIL (ns := (chF L (tops (prs L))).map fun i : Nat => (i : Int)) (ms := (chF L (tops (prs L))).map fun i : Nat => (i : Int)) (SqL.of hF14) (SqL.of hF2) ?_
          rw [decide_eq_true rfl]
          repeat walk_at "w"
          refine lc_L (intsN (chF L (tops (prs L)))) (fun D j ys H' => Same H14 H' ∧ ys = (List.replicate j false).map V.bl) (SqL.of hF14) (fun D H' hD e f => ⟨e, rfl⟩) (fun D hD j ys H' hj hy hp => SqL.of (hp.1 _ _ hF14)) (fun D hD j x ys H' hx hll hy hp => ?_) (fun D hD ys H15 hll hy hp => ?_)
          · obtain ⟨e, rfl⟩ := hp
            obtain ⟨n, _, rfl⟩ := List.mem_map.mp (List.mem_of_getElem? hx)
            repeat walk_at "w"
            refine lc_end hy hll (by rw [hz, List.length_map, List.length_replicate]; have := (List.getElem?_eq_some_iff.mp hx).1; omega) fun H16 e16 f16 => ⟨But.new e hD e16, ?_⟩
            rw [List.replicate_succ', List.map_append]; rfl
          · obtain ⟨e, rfl⟩ := hp
            refine w_inL (SqL.of hy) rfl (flat_bls _) ?_
            rw [in_false]
            have hF15 := e _ _ hF14
            repeat walk_at "w"
            try refine w_append hF15 (by rw [hz, hcl]; omega) ?_
            refine w_chg fun H16 e16 f16 => ?_
            have s915 := s913.trans (s14.trans e)
            have hDS15 := s915 _ _ hDS9
            have hDSF : DS ≠ F := ne_of_none hDS8 nF
            have hDS16 := e16 _ _ hDSF hDS15
            have hst16 : StepsIn K H16 ps L := (hst9.sm s915).is (IS.but e16 hF15 plain_lst)
            repeat walk_at "w"
            refine ⟨DS, ps, L, rfl, .inl (SqL.of hDS16), hst16, ok, by omega, fun F3 H17 hF3 s17' nF3 => ?_⟩
            have f17 := s17' _ _ f16
            repeat walk_at "w"
            try rw [cutL]
            refine w_new fun F4 H18 n18 s18' f18 => ?_
            have hF3' := s18' _ _ hF3
            refine w_neIL (ns := (chF L (tops (prs L))).map fun i : Nat => (i : Int)) (ms := (chF L (tops (prs L))).map fun i : Nat => (i : Int)) (SqL.of hF3') (SqL.of f18) ?_
            rw [decide_eq_true rfl]
            repeat walk_at "w"
            have nF1 : H1 F = none := s18.free nF
            have ns1 : H1 s = none := n2
            exact ⟨_, _, _, _, _, _, _, _, _, _, rfl, (But.new (But.new s18 ns1 (e89.trans (But.of s915))) nF1 (e16.trans (But.of (s17'.trans s18')))).sqL hS1⟩
    · obtain ⟨o1, o2, o3, o4, o5, o6, o7, o8, o9, o11, rfl, hS1⟩ := hp
      repeat walk_at "w"
      refine w_new fun p2 H2 n2 s2 f2 => ?_
      repeat walk_at "w"
      refine w_new fun p3 H3 n3 s3 f3 => ?_
      repeat walk_at "w"
      refine ⟨.ref p3, .get 0 ⟨false, 0⟩, rfl, .tup (SqT.of f3) (.cons (.str _) (.cons (.int 0) (.cons (.tup (SqT.of (s3 _ _ f2)) (.cons (.str _) (.cons (.int 0) .nil))) .nil))), two_ok _ (List.mem_cons_self ..), fun g1 H4 hg1 s4 ng1 => ?_⟩
      repeat walk_at "w"
      refine w_new fun p5 H5 n5 s5 f5 => ?_
      repeat walk_at "w"
      refine w_new fun p6 H6 n6 s6 f6 => ?_
      repeat walk_at "w"
      refine w_new fun p7 H7 n7 s7 f7 => ?_
      repeat walk_at "w"
      refine ⟨.ref p7, .put ⟨false, 1⟩ (.inn 0), rfl, .tup (SqT.of f7) (.cons (.str _) (.cons (.tup (SqT.of (s7 _ _ (s6 _ _ f5))) (.cons (.str _) (.cons (.int 1) .nil))) (.cons (.tup (SqT.of (s7 _ _ f6)) (.cons (.str _) (.cons (.int 0) .nil))) .nil))), two_ok _ (List.mem_cons_of_mem _ (List.mem_cons_self ..)), fun g2 H8 hg2 s8 ng2 => ?_⟩
      repeat walk_at "w"
      refine w_new fun T H9 n9 s9 f9 => ?_
      have hst : StepsIn K H9 [g1, g2] twoS := ⟨rfl, fun k c hc => by
        rcases k with _ | _ | k
        · cases hc
          exact ⟨g1, rfl, (hg1.sm (s5.trans (s6.trans (s7.trans s8)))).sm s9⟩
        · cases hc
          exact ⟨g2, rfl, hg2.sm s9⟩
        · cases hc⟩
      repeat walk_at "w"
      refine w_new fun Em H10 n10 s10 f10 => ?_
      repeat walk_at "w"
      refine ⟨Em, [], [], rfl, .inl (SqL.of f10), ⟨rfl, fun _ _ h => nomatch h⟩, fun _ h => (List.not_mem_nil h).elim, by simp, fun F1 H11 hF1 s11 nF1 => ?_⟩
      rw [ch_nil] at hF1
      have hT11 := s11 _ _ (s10 _ _ f9)
      repeat walk_at "w"
      refine ⟨T, [g1, g2], twoS, rfl, .inl (SqL.of hT11), hst.sm (s10.trans s11), two_ok, by decide, fun F2 H12 hF2 s12 nF2 => ?_⟩
      rw [ch_two] at hF2
      have hF1' := s12 _ _ hF1
      repeat walk_at "w"
      refine w_new fun R H13 n13 s13 f13 => ?_
      repeat walk_at "w"
      refine w_reprD (d := reprT) (.lst (SqL.of f13) (.cons (.lst (SqL.of (s13 _ _ hF1')) .nil) (.cons (.lst (SqL.of (s13 _ _ hF2)) (.cons (.int 0) (.cons (.int 1) .nil))) .nil))) rep_ok.1 rep_ok.2.1 rep_ok.2.2 ?_
      repeat walk_at "w"
      refine w_new fun E1 H14 n14 s14 f14 => ?_
      repeat walk_at "w"
      refine w_new fun E2 H15 n15 s15 f15 => ?_
      repeat walk_at "w"
      refine w_new fun E3 H16 n16 s16 f16 => ?_
      repeat walk_at "w"
      refine w_reprD (d := reprT) (.lst (SqL.of f16) (.cons (.lst (SqL.of (s16 _ _ (s15 _ _ f14))) .nil) (.cons (.lst (SqL.of (s16 _ _ f15)) (.cons (.int 0) (.cons (.int 1) .nil))) .nil))) rep_ok.1 rep_ok.2.1 rep_ok.2.2 ?_
      repeat walk_at "w"
      rw [decide_eq_true rfl]
      exact q _
end

end J
namespace J
open PySem PySem.Spec PyProof.Rows L2
theorem all_ok {P : Program} {w : World} {K : PySem.W.Frag} {mg : Str → Option Value} [c : Facts K mg] [ct : FactsT w K] : XL.Fn P w K mg "law" 9 ["script"] (spLaw K) := by
  have G__law_touched := ok_law_touched (P := P) (w := w) (K := K)
  have G__law_meet := ok_law_meet (P := P) (w := w) (K := K) G__law_touched
  have G__law_beats := ok_law_beats (P := P) (w := w) (K := K) G__law_meet
  have G__law_cell := ok_law_cell (P := P) (w := w) (K := K)
  have G__law_least := ok_law_least (P := P) (w := w) (K := K) G__law_meet
  have G__law_take := ok_law_take (P := P) (w := w) (K := K)
  have G_is_whole := ok_is_whole (P := P) (w := w) (K := K)
  have G_is_within := ok_is_within (P := P) (w := w) (K := K) G_is_whole
  have G_is_pair := ok_is_pair (P := P) (w := w) (K := K) G_is_within
  have G_ops_told := ok_ops_told (P := P) (w := w) (K := K)
  have G_is_part := ok_is_part (P := P) (w := w) (K := K) G_is_pair G_is_within G_ops_told
  have G_is_step := ok_is_step (P := P) (w := w) (K := K) G_is_part
  obtain ⟨fd_Ask___init__, F_Ask___init__⟩ := c.dm_Ask___init__
  have GM_Ask___init__ := ok_Asku_initu (P := P) (w := w) (K := K) F_Ask___init__
  obtain ⟨fd_Cell___init__, F_Cell___init__⟩ := c.dm_Cell___init__
  have GM_Cell___init__ := ok_Cellu_initu (P := P) (w := w) (K := K) F_Cell___init__
  obtain ⟨fd_Get___init__, F_Get___init__⟩ := c.dm_Get___init__
  have GM_Get___init__ := ok_Getu_initu (P := P) (w := w) (K := K) F_Get___init__
  obtain ⟨fd_Put___init__, F_Put___init__⟩ := c.dm_Put___init__
  have GM_Put___init__ := ok_Putu_initu (P := P) (w := w) (K := K) F_Put___init__
  obtain ⟨fd_Store___init__, F_Store___init__⟩ := c.dm_Store___init__
  have GM_Store___init__ := ok_Storeu_initu (P := P) (w := w) (K := K) F_Store___init__
  obtain ⟨fd_Tell___init__, F_Tell___init__⟩ := c.dm_Tell___init__
  have GM_Tell___init__ := ok_Tellu_initu (P := P) (w := w) (K := K) F_Tell___init__
  obtain ⟨fd_Two___init__, F_Two___init__⟩ := c.dm_Two___init__
  have GM_Two___init__ := ok_Twou_initu (P := P) (w := w) (K := K) F_Two___init__
  have G_step_of := ok_step_of (P := P) (w := w) (K := K) G_is_step GM_Ask___init__ GM_Cell___init__ GM_Get___init__ GM_Put___init__ GM_Store___init__ GM_Tell___init__ GM_Two___init__
  have G__law_objects := ok_law_objects (P := P) (w := w) (K := K) G__law_take G_step_of
  have G__law_sel := ok_law_sel (P := P) (w := w) (K := K) G__law_take
  have G__law_source := ok_law_source (P := P) (w := w) (K := K) G__law_take
  have G__law_step := ok_law_step (P := P) (w := w) (K := K) G__law_sel G__law_source G__law_take
  have G__law_steps := ok_law_steps (P := P) (w := w) (K := K) G__law_step G__law_take
  have G__law_stream := ok_law_stream (P := P) (w := w) (K := K)
  have G_met := ok_met (P := P) (w := w) (K := K)
  have G_beat_of := ok_beat_of (P := P) (w := w) (K := K) G_met
  have G_bits_of := ok_bits_of (P := P) (w := w) (K := K)
  obtain ⟨fd_Get_sources, F_Get_sources⟩ := c.dm_Get_sources
  have GM_Get_sources := ok_Step_sources (P := P) (w := w) (K := K) (C := "Get") F_Get_sources (by decide)
  obtain ⟨fd_Ask_sources, F_Ask_sources⟩ := c.dm_Ask_sources
  have GM_Ask_sources := ok_Step_sources (P := P) (w := w) (K := K) (C := "Ask") F_Ask_sources (by decide)
  obtain ⟨fd_Cell_sources, F_Cell_sources⟩ := c.dm_Cell_sources
  have GM_Cell_sources := ok_Cell_sources (P := P) (w := w) (K := K) F_Cell_sources
  obtain ⟨fd_Two_sources, F_Two_sources⟩ := c.dm_Two_sources
  have GM_Two_sources := ok_Two_sources (P := P) (w := w) (K := K) F_Two_sources
  obtain ⟨fd_Put_sources, F_Put_sources⟩ := c.dm_Put_sources
  have GM_Put_sources := ok_Put_sources (P := P) (w := w) (K := K) F_Put_sources
  obtain ⟨fd_Tell_sources, F_Tell_sources⟩ := c.dm_Tell_sources
  have GM_Tell_sources := ok_Tell_sources (P := P) (w := w) (K := K) F_Tell_sources
  obtain ⟨fd_Store_sources, F_Store_sources⟩ := c.dm_Store_sources
  have GM_Store_sources := ok_Store_sources (P := P) (w := w) (K := K) F_Store_sources
  have GU_sources : ∀ C ∈ fam_Step, XL.FnA P w K mg (He.ma K (He.ga K C) "sources") 1 ["self"] ((spSrcs K C)) := (List.forall_mem_cons.mpr ⟨GM_Get_sources, (List.forall_mem_cons.mpr ⟨GM_Ask_sources, (List.forall_mem_cons.mpr ⟨GM_Cell_sources, (List.forall_mem_cons.mpr ⟨GM_Two_sources, (List.forall_mem_cons.mpr ⟨GM_Put_sources, (List.forall_mem_cons.mpr ⟨GM_Tell_sources, (List.forall_mem_cons.mpr ⟨GM_Store_sources, (List.forall_mem_nil _)⟩)⟩)⟩)⟩)⟩)⟩)⟩)
  obtain ⟨fd_Get_uses_way, F_Get_uses_way⟩ := c.dm_Get_uses_way
  have GM_Get_uses_way := ok_Step_uses_way (P := P) (w := w) (K := K) (C := "Get") F_Get_uses_way (by decide)
  obtain ⟨fd_Ask_uses_way, F_Ask_uses_way⟩ := c.dm_Ask_uses_way
  have GM_Ask_uses_way := ok_Step_uses_way (P := P) (w := w) (K := K) (C := "Ask") F_Ask_uses_way (by decide)
  obtain ⟨fd_Cell_uses_way, F_Cell_uses_way⟩ := c.dm_Cell_uses_way
  have GM_Cell_uses_way := ok_Step_uses_way (P := P) (w := w) (K := K) (C := "Cell") F_Cell_uses_way (by decide)
  obtain ⟨fd_Two_uses_way, F_Two_uses_way⟩ := c.dm_Two_uses_way
  have GM_Two_uses_way := ok_Two_uses_way (P := P) (w := w) (K := K) F_Two_uses_way
  obtain ⟨fd_Put_uses_way, F_Put_uses_way⟩ := c.dm_Put_uses_way
  have GM_Put_uses_way := ok_Step_uses_way (P := P) (w := w) (K := K) (C := "Put") F_Put_uses_way (by decide)
  obtain ⟨fd_Tell_uses_way, F_Tell_uses_way⟩ := c.dm_Tell_uses_way
  have GM_Tell_uses_way := ok_Step_uses_way (P := P) (w := w) (K := K) (C := "Tell") F_Tell_uses_way (by decide)
  obtain ⟨fd_Store_uses_way, F_Store_uses_way⟩ := c.dm_Store_uses_way
  have GM_Store_uses_way := ok_Step_uses_way (P := P) (w := w) (K := K) (C := "Store") F_Store_uses_way (by decide)
  have GU_uses_way : ∀ C ∈ fam_Step, XL.FnA P w K mg (He.ma K (He.ga K C) "uses_way") 1 ["self"] ((spWay K C)) := (List.forall_mem_cons.mpr ⟨GM_Get_uses_way, (List.forall_mem_cons.mpr ⟨GM_Ask_uses_way, (List.forall_mem_cons.mpr ⟨GM_Cell_uses_way, (List.forall_mem_cons.mpr ⟨GM_Two_uses_way, (List.forall_mem_cons.mpr ⟨GM_Put_uses_way, (List.forall_mem_cons.mpr ⟨GM_Tell_uses_way, (List.forall_mem_cons.mpr ⟨GM_Store_uses_way, (List.forall_mem_nil _)⟩)⟩)⟩)⟩)⟩)⟩)⟩)
  obtain ⟨fd_Get_reads, F_Get_reads⟩ := c.dm_Get_reads
  have GM_Get_reads := ok_Step_reads (P := P) (w := w) (K := K) (C := "Get") F_Get_reads (by decide) GU_sources GU_uses_way
  obtain ⟨fd_Ask_reads, F_Ask_reads⟩ := c.dm_Ask_reads
  have GM_Ask_reads := ok_Step_reads (P := P) (w := w) (K := K) (C := "Ask") F_Ask_reads (by decide) GU_sources GU_uses_way
  obtain ⟨fd_Cell_reads, F_Cell_reads⟩ := c.dm_Cell_reads
  have GM_Cell_reads := ok_Step_reads (P := P) (w := w) (K := K) (C := "Cell") F_Cell_reads (by decide) GU_sources GU_uses_way
  obtain ⟨fd_Two_reads, F_Two_reads⟩ := c.dm_Two_reads
  have GM_Two_reads := ok_Step_reads (P := P) (w := w) (K := K) (C := "Two") F_Two_reads (by decide) GU_sources GU_uses_way
  obtain ⟨fd_Put_reads, F_Put_reads⟩ := c.dm_Put_reads
  have GM_Put_reads := ok_Step_reads (P := P) (w := w) (K := K) (C := "Put") F_Put_reads (by decide) GU_sources GU_uses_way
  obtain ⟨fd_Tell_reads, F_Tell_reads⟩ := c.dm_Tell_reads
  have GM_Tell_reads := ok_Step_reads (P := P) (w := w) (K := K) (C := "Tell") F_Tell_reads (by decide) GU_sources GU_uses_way
  obtain ⟨fd_Store_reads, F_Store_reads⟩ := c.dm_Store_reads
  have GM_Store_reads := ok_Step_reads (P := P) (w := w) (K := K) (C := "Store") F_Store_reads (by decide) GU_sources GU_uses_way
  have GU_reads : ∀ C ∈ fam_Step, XL.FnA P w K mg (He.ma K (He.ga K C) "reads") 2 ["self"] ((spRds K C)) := (List.forall_mem_cons.mpr ⟨GM_Get_reads, (List.forall_mem_cons.mpr ⟨GM_Ask_reads, (List.forall_mem_cons.mpr ⟨GM_Cell_reads, (List.forall_mem_cons.mpr ⟨GM_Two_reads, (List.forall_mem_cons.mpr ⟨GM_Put_reads, (List.forall_mem_cons.mpr ⟨GM_Tell_reads, (List.forall_mem_cons.mpr ⟨GM_Store_reads, (List.forall_mem_nil _)⟩)⟩)⟩)⟩)⟩)⟩)⟩)
  obtain ⟨fd_Get_changed_places, F_Get_changed_places⟩ := c.dm_Get_changed_places
  have GM_Get_changed_places := ok_Get_changed_places (P := P) (w := w) (K := K) F_Get_changed_places
  obtain ⟨fd_Ask_changed_places, F_Ask_changed_places⟩ := c.dm_Ask_changed_places
  have GM_Ask_changed_places := ok_Ask_changed_places (P := P) (w := w) (K := K) F_Ask_changed_places
  obtain ⟨fd_Cell_changed_places, F_Cell_changed_places⟩ := c.dm_Cell_changed_places
  have GM_Cell_changed_places := ok_Cell_changed_places (P := P) (w := w) (K := K) F_Cell_changed_places
  obtain ⟨fd_Two_changed_places, F_Two_changed_places⟩ := c.dm_Two_changed_places
  have GM_Two_changed_places := ok_Two_changed_places (P := P) (w := w) (K := K) F_Two_changed_places
  obtain ⟨fd_Put_changed_places, F_Put_changed_places⟩ := c.dm_Put_changed_places
  have GM_Put_changed_places := ok_Step_changed_places (P := P) (w := w) (K := K) (C := "Put") F_Put_changed_places (by decide)
  obtain ⟨fd_Tell_changed_places, F_Tell_changed_places⟩ := c.dm_Tell_changed_places
  have GM_Tell_changed_places := ok_Step_changed_places (P := P) (w := w) (K := K) (C := "Tell") F_Tell_changed_places (by decide)
  obtain ⟨fd_Store_changed_places, F_Store_changed_places⟩ := c.dm_Store_changed_places
  have GM_Store_changed_places := ok_Step_changed_places (P := P) (w := w) (K := K) (C := "Store") F_Store_changed_places (by decide)
  have GU_changed_places : ∀ C ∈ fam_Step, XL.FnA P w K mg (He.ma K (He.ga K C) "changed_places") 1 ["self"] ((spChg K C)) := (List.forall_mem_cons.mpr ⟨GM_Get_changed_places, (List.forall_mem_cons.mpr ⟨GM_Ask_changed_places, (List.forall_mem_cons.mpr ⟨GM_Cell_changed_places, (List.forall_mem_cons.mpr ⟨GM_Two_changed_places, (List.forall_mem_cons.mpr ⟨GM_Put_changed_places, (List.forall_mem_cons.mpr ⟨GM_Tell_changed_places, (List.forall_mem_cons.mpr ⟨GM_Store_changed_places, (List.forall_mem_nil _)⟩)⟩)⟩)⟩)⟩)⟩)⟩)
  obtain ⟨fd_Get_writes, F_Get_writes⟩ := c.dm_Get_writes
  have GM_Get_writes := ok_Step_writes (P := P) (w := w) (K := K) (C := "Get") F_Get_writes (by decide) GU_changed_places GU_uses_way
  obtain ⟨fd_Ask_writes, F_Ask_writes⟩ := c.dm_Ask_writes
  have GM_Ask_writes := ok_Step_writes (P := P) (w := w) (K := K) (C := "Ask") F_Ask_writes (by decide) GU_changed_places GU_uses_way
  obtain ⟨fd_Cell_writes, F_Cell_writes⟩ := c.dm_Cell_writes
  have GM_Cell_writes := ok_Step_writes (P := P) (w := w) (K := K) (C := "Cell") F_Cell_writes (by decide) GU_changed_places GU_uses_way
  obtain ⟨fd_Two_writes, F_Two_writes⟩ := c.dm_Two_writes
  have GM_Two_writes := ok_Step_writes (P := P) (w := w) (K := K) (C := "Two") F_Two_writes (by decide) GU_changed_places GU_uses_way
  obtain ⟨fd_Put_writes, F_Put_writes⟩ := c.dm_Put_writes
  have GM_Put_writes := ok_Step_writes (P := P) (w := w) (K := K) (C := "Put") F_Put_writes (by decide) GU_changed_places GU_uses_way
  obtain ⟨fd_Tell_writes, F_Tell_writes⟩ := c.dm_Tell_writes
  have GM_Tell_writes := ok_Step_writes (P := P) (w := w) (K := K) (C := "Tell") F_Tell_writes (by decide) GU_changed_places GU_uses_way
  obtain ⟨fd_Store_writes, F_Store_writes⟩ := c.dm_Store_writes
  have GM_Store_writes := ok_Step_writes (P := P) (w := w) (K := K) (C := "Store") F_Store_writes (by decide) GU_changed_places GU_uses_way
  have GU_writes : ∀ C ∈ fam_Step, XL.FnA P w K mg (He.ma K (He.ga K C) "writes") 2 ["self"] ((spWrs K C)) := (List.forall_mem_cons.mpr ⟨GM_Get_writes, (List.forall_mem_cons.mpr ⟨GM_Ask_writes, (List.forall_mem_cons.mpr ⟨GM_Cell_writes, (List.forall_mem_cons.mpr ⟨GM_Two_writes, (List.forall_mem_cons.mpr ⟨GM_Put_writes, (List.forall_mem_cons.mpr ⟨GM_Tell_writes, (List.forall_mem_cons.mpr ⟨GM_Store_writes, (List.forall_mem_nil _)⟩)⟩)⟩)⟩)⟩)⟩)⟩)
  have G_touched := ok_touched (P := P) (w := w) (K := K) G_bits_of GU_reads GU_writes
  have G_packed := ok_packed (P := P) (w := w) (K := K) G_beat_of G_touched
  have G_chain_of := ok_chain_of (P := P) (w := w) (K := K) G_met G_packed G_touched
  have G_law := ok_law (P := P) (w := w) (K := K) G__law_beats G__law_cell G__law_least G__law_meet G__law_objects G__law_steps G__law_stream G__law_take G_chain_of G_packed G_step_of
  exact G_law
theorem heldF {P : Program} {w : World} {K : PySem.W.Frag} {h : Heap} {mg : Str → Option Value} {f : Addr} (X : K.In h) (G : h.Ns mainGlobals mg) (hfa : mg ("law" : Str) = some (.ref f)) (c : He.SaysX fa fn tabs [] exB w h K) :
    ∃ fd : FuncData, (∀ (s : Shared) (v : Value), BindsTo s fd ⟨[v], []⟩ [("script", v)]) ∧ ∀ base : Heap, XL.FnR P w K mg base 9 f fd ["script"] (spLaw K) := by
  have CT := factsT_of c.t
  have C := facts_of X G (congrArg (fun z : He.AlT => z.1) c.t) c.more
  have e := hfa.symm.trans C.g_law
  cases e
  obtain ⟨fd, h1, _, h3, _⟩ := (all_ok (P := P) (w := w) (K := K)).ex
  exact ⟨fd, fun s v => h3 s [v] rfl, h1⟩
end J
open PySem PySem.W PySem.Calls PyProof.Rows
theorem PySem.Challenge.cw_rowsjoined_k25_chains_as_long_holds : PySem.Challenge.rw_rowsjoined_k25_chains_as_long.Holds := by
  w_on; o_law
  refine HandSHeadRun.head_any (r := J.rowR) (q := view J.rowR.prog [50]) (H := J.hk) (ob := J.ob) (M := 12000) (loose := J.loose) (d := HandSHeadRun.topDef J.rowR.prog 50) (kwd := []) J.ob_eq
    (by kernel_rfl) (fun s => by kernel_rfl) J.run (by kernel_rfl) (by kernel_rfl) (by kernel_rfl) (by rfl) (by first | assumption | decide +kernel) (by decide +kernel) ⟨rfl, rfl, rfl, rfl, rfl, by decide +kernel⟩ ?hw ?hc
  case hw => w_witness2
  case hc =>
    refine J.XL.walk_ofR (l := PySem.Challenge.rw_rowsjoined_k25_chains_as_long) (n := 63) (k := 9) (x := "script") rfl (by decide) (by kernel_rfl) ⟨rfl, by decide, by decide⟩ ?F
    intro w mg fa h Y G hmg0
    obtain ⟨K, KX, c⟩ := Y
    have hmg : mg ("law" : PySem.Str) = some (.ref fa) := by
      have e : (HandSHeadRun.topDef J.rowR.prog 50).name = ("law" : PySem.Str) := by kernel_rfl
      rw [← e]
      exact hmg0
    obtain ⟨fd, hb, hF⟩ := J.heldF (P := (PySem.Challenge.rw_rowsjoined_k25_chains_as_long).prog) (w := w) KX G hmg c
    exact ⟨K, fd, _, KX, hb, fun H a ns hl hO hS => J.law_in hl hO hS, hF⟩
