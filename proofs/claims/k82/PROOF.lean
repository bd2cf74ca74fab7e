import PyProof.Rows.All
import Wide.All
import OpenK.AllK
import Wide.FinOn
import Lean
import HandS.Base
import HandS.Call
import HandS.Ends
import HandS.EndBits
import HandS.List
import HandS.Comp
import HandS.Iter
import HandS.Text
import HandS.Wide
import HandS.Words
import HandS.WordsList
import HandS.Defaults
import HandS.IsInst
import HandS.Rev
import HandS.TupAny
import HandS.TryOnly
import HandS.Zip
import HandS.Walk
import HandS.Style
import HandS.Flow
import HandS.Head0
import HandS.Head1
import HandS.Head2
import HandS.HeadEnd
import HandS.HeadHook1
import HandS.HeadHook2
import HandS.Codes
import HandS.Replace
import HandS.ReplaceLit
import HandS.SortOrd
import HandS.SortRule
import HandS.TupSets
import HandS.SetFor
import HandS.FStr
import HandS.Flt
import HandS.Sort
import HandS.Conv
import HandS.Dict
import HandS.Zip0
import KE.GoesMore
import HandS.ExcInit
import HandS.ClsMeth
import HandS.ExcIs
import HandS.ExcField
import HandS.ExcValue
import HandS.Exc
import HandS.ExcOwn
import HandS.TryMany
import HandS.HeadHook4
import PySem.Challenge.RW_rowsjoined_k82_items_as_bits
import HandS.More
import HandS.HeadHook3
import HandS.SetKeys
import KE.KDictKeyed
import KE.KeyNested
set_option Elab.async false
set_option linter.all false
set_option maxRecDepth 100000
set_option maxHeartbeats 4000000
namespace J
open PySem PySem.Spec PyProof.Rows L2

/-! ### frames -/
def But (s : Addr) (H H' : Hp) : Prop := ∀ b o, b ≠ s → H b = some o → H' b = some o
theorem _root_.L2.Same.one {H : Hp} {p : Addr} {o : HO} (h : H p = none) : Same H (upd H p o) := fun a u e => by
  rw [upd_ne (ne_of_none e h)]; exact e
theorem But.of {s : Addr} {H H' : Hp} (e : Same H H') : But s H H' := fun b o _ h => e b o h
theorem But.refl (s : Addr) (H : Hp) : But s H H := fun _ _ _ h => h
theorem But.trans {s : Addr} {H H1 H2 : Hp} (a : But s H H1) (b : But s H1 H2) : But s H H2 := fun c o n h => b c o n (a c o n h)
theorem But.at {s b : Addr} {H H' : Hp} {o : HO} (e : But s H H') (n : b ≠ s) (h : H b = some o) : H' b = some o := e b o n h
theorem But.upd (s : Addr) (H : Hp) (o : HO) : But s H (upd H s o) := fun b u n h => by rw [upd_ne n]; exact h
/-- all that was there stays, what lies at s was not there -/
theorem But.new {s : Addr} {H H1 H2 : Hp} (e : Same H H1) (n : H s = none) (k : But s H1 H2) : Same H H2 := fun b o h => k b o (ne_of_none h n) (e b o h)

theorem But.new2 {s t : Addr} {H H1 H2 : Hp} (e : But s H H1) (n : H t = none) (k : But t H1 H2) : But s H H2 := fun b o hs h => k b o (ne_of_none h n) (e b o hs h)
theorem But.back {s p : Addr} {H H' : Hp} (e : But s H H') (hp : p ≠ s) (h : H' p = none) : H p = none := by
  cases q : H p with
  | none => rfl
  | some o => rw [e p o hp q] at h; cases h
theorem But.back' {s p : Addr} {H H' : Hp} {o : HO} (e : But s H H') (hs : H' s = some o) (h : H' p = none) : H p = none := e.back (fun z => by rw [z, hs] at h; cases h) h
/-- a stream of draws -/
def Stm (H : Hp) (s : Addr) : Prop := ∃ a b c : Int, H s = some (.lst [.int a, .int b, .int c])
theorem stm_ne {s p : Addr} {H : Hp} (h : Stm H s) (n : H p = none) : p ≠ s := fun q => by
  obtain ⟨_, _, _, g⟩ := h
  rw [← q, n] at g
  cases g
theorem But.tup {s b : Addr} {H H' : Hp} {xs : List V} (e : But s H H') (t : Stm H s) (h : H b = some (.tup xs)) : H' b = some (.tup xs) := by
  obtain ⟨_, _, _, t⟩ := t
  exact e b _ (ne_of h t (by intro q; cases q)) h
theorem But.tupL {s b : Addr} {H H' : Hp} {xs ys : List V} (e : But s H H') (t : H s = some (.lst ys)) (h : H b = some (.tup xs)) : H' b = some (.tup xs) := e b _ (ne_of h t (by intro q; cases q)) h
theorem But.sqTL {K : PySem.W.Frag} {s a : Addr} {H H' : Hp} {xs ys : List V} (e : But s H H') (t : H s = some (.lst ys)) (h : SqT K H a xs) : SqT K H' a xs := by
  rcases h with (h | ⟨o, h⟩) | h
  · exact .inl (.inl (e _ _ (ne_of h t (by intro q; cases q)) h))
  · exact .inl (.inr ⟨o, e _ _ (ne_of h t (by intro q; cases q)) h⟩)
  · exact .inr h
theorem But.stm {s a : Addr} {H H' : Hp} (e : But s H H') (n : a ≠ s) (h : Stm H a) : Stm H' a := by
  obtain ⟨x, y, z, h⟩ := h
  exact ⟨x, y, z, e _ _ n h⟩
theorem _root_.L2.Same.back {H H' : Hp} {p : Addr} (e : Same H H') (h : H' p = none) : H p = none := e.free h
theorem But.frz {s b : Addr} {H H' : Hp} {o : Obj} {u : HO} (e : But s H H') (t : Stm H s) (h : H b = some (.frz o u)) : H' b = some (.frz o u) := by
  obtain ⟨_, _, _, t⟩ := t
  exact e b _ (ne_of h t (by intro q; cases q)) h
theorem But.sqT {K : PySem.W.Frag} {s a : Addr} {H H' : Hp} {xs : List V} (e : But s H H') (t : Stm H s) (h : SqT K H a xs) : SqT K H' a xs := by
  rcases h with (h | ⟨o, h⟩) | h
  · exact .inl (.inl (e.tup t h))
  · exact .inl (.inr ⟨o, e.frz t h⟩)
  · exact .inr h
theorem But.sqL {K : PySem.W.Frag} {s a : Addr} {H H' : Hp} {xs : List V} (e : But s H H') (n : a ≠ s) (h : SqL K H a xs) : SqL K H' a xs := by
  rcases h with (h | ⟨o, h⟩) | h
  · exact .inl (.inl (e a _ n h))
  · exact .inl (.inr ⟨o, e a _ n h⟩)
  · exact .inr h
theorem _root_.L2.Same.sqT {K : PySem.W.Frag} {H H' : Hp} {a : Addr} {xs : List V} (e : Same H H') (h : SqT K H a xs) : SqT K H' a xs := by
  rcases h with (h | ⟨o, h⟩) | h
  · exact .inl (.inl (e _ _ h))
  · exact .inl (.inr ⟨o, e _ _ h⟩)
  · exact .inr h
theorem _root_.L2.Same.sqL {K : PySem.W.Frag} {H H' : Hp} {a : Addr} {xs : List V} (e : Same H H') (h : SqL K H a xs) : SqL K H' a xs := e.seq h
theorem _root_.L2.Same.stm {H H' : Hp} {s : Addr} (e : Same H H') (h : Stm H s) : Stm H' s := by
  obtain ⟨a, b, c, h⟩ := h
  exact ⟨a, b, c, e _ _ h⟩
theorem _root_.L2.Same.at {H H' : Hp} {b : Addr} {o : HO} (e : Same H H') (h : H b = some o) : H' b = some o := e b o h
/-- a list that stands, seen past a list changed elsewhere -/
theorem sqL_upd {K : PySem.W.Frag} {H : Hp} {a p : Addr} {o : HO} {xs : List V} (n : a ≠ p) (h : SqL K H a xs) : SqL K (upd H p o) a xs := by
  rcases h with (h | ⟨u, h⟩) | h
  · exact .inl (.inl (by rw [upd_ne n]; exact h))
  · exact .inl (.inr ⟨u, by rw [upd_ne n]; exact h⟩)
  · exact .inr h
theorem sqT_updL {K : PySem.W.Frag} {H : Hp} {a p : Addr} {o : HO} {xs ys : List V} (hp : H p = some (.lst ys)) (h : SqT K H a xs) : SqT K (upd H p o) a xs := by
  rcases h with (h | ⟨u, h⟩) | h
  · exact .inl (.inl (by rw [upd_ne (ne_of h hp (by intro q; cases q))]; exact h))
  · exact .inl (.inr ⟨u, by rw [upd_ne (ne_of h hp (by intro q; cases q))]; exact h⟩)
  · exact .inr h
theorem stm_upd {H : Hp} {a p : Addr} {o : HO} (n : a ≠ p) (h : Stm H a) : Stm (upd H p o) a := by
  obtain ⟨x, y, z, h⟩ := h
  exact ⟨x, y, z, by rw [upd_ne n]; exact h⟩
theorem at_updL {H : Hp} {a p : Addr} {o u : HO} (n : a ≠ p) (h : H a = some u) : upd H p o a = some u := by rw [upd_ne n]; exact h

/-! ### readings, step by step -/
section
variable {K : PySem.W.Frag} {σ : L2.St} {H : Hp} {i : Nat} {v x y z : V} {ta tb tc te tv : TE} {Q : VK} {nx : L2.St → Hp → Prop} {rt : VK} {bk ct : L2.St → Hp → Prop} {t u : TS} {tt tu : TT}
theorem w_seq (k : t ⟨u ⟨nx, rt, bk, ct⟩, rt, bk, ct⟩ σ H) : tSeq t u ⟨nx, rt, bk, ct⟩ σ H := k
theorem w_asg {g : TG} (k : te σ H fun x H1 => g x σ H1 nx) : tAsg te g ⟨nx, rt, bk, ct⟩ σ H := k
theorem w_gName {R : L2.St → Hp → Prop} (k : R (σ.set i (some v)) H) : gName i v σ H R := k
theorem w_ret (k : te σ H rt) : tRet te ⟨nx, rt, bk, ct⟩ σ H := k
theorem w_retN (k : rt .non H) : tRetN ⟨nx, rt, bk, ct⟩ σ H := k
theorem w_drop (k : te σ H fun _ H1 => nx σ H1) : tDrop te ⟨nx, rt, bk, ct⟩ σ H := k
theorem w_next (k : nx σ H) : tNext ⟨nx, rt, bk, ct⟩ σ H := k
theorem w_break (k : bk σ H) : tBreak ⟨nx, rt, bk, ct⟩ σ H := k
theorem w_cont (k : ct σ H) : tCont ⟨nx, rt, bk, ct⟩ σ H := k
theorem w_ifS (k : tt σ H fun b H1 => if b = true then t ⟨nx, rt, bk, ct⟩ σ H1 else u ⟨nx, rt, bk, ct⟩ σ H1) : tIfS tt t u ⟨nx, rt, bk, ct⟩ σ H := k
theorem w_var (h : σ[i]? = some (some v)) (k : Q v H) : tVar i σ H Q := ⟨v, h, k⟩
theorem w_c (k : Q v H) : tC v σ H Q := k
theorem w_op {r : R2} (k : ta σ H fun x H1 => tb σ H1 fun y H2 => r x y H2 Q) : tOp r ta tb σ H Q := k
theorem w_un {r : V → Hp → VK → Prop} (k : ta σ H fun x H1 => r x H1 Q) : tUn r ta σ H Q := k
theorem w_rU {g : Int → V} {n : Int} (k : Q (g n) H) : rU g (.int n) H Q := ⟨n, rfl, k⟩
theorem w_rI0 {g : Int → Int → V} {m n : Int} (k : Q (g m n) H) : rI0 g (.int m) (.int n) H Q := ⟨m, n, rfl, rfl, k⟩
theorem w_rI {C : Int → Int → Prop} {g : Int → Int → V} {m n : Int} (c : C m n) (k : Q (g m n) H) : rI C g (.int m) (.int n) H Q := ⟨m, n, rfl, rfl, c, k⟩
theorem w_nil {R : List V → Hp → Prop} (k : R [] H) : tNil σ H R := k
theorem w_cons {tr : TA} {R : List V → Hp → Prop} (k : te σ H fun x H1 => tr σ H1 fun xs H2 => R (x :: xs) H2) : tCons te tr σ H R := k
/-- a new object -/
def NewO (o : HO) (H : Hp) (Q : VK) : Prop := ∀ p, H p = none → Q (.ref p) (upd H p o)
theorem w_new {o : HO} (k : ∀ p H', H p = none → Same H H' → H' p = some o → Q (.ref p) H') : NewO o H Q := fun p hp => k p _ hp (Same.one hp) upd_same
/-- an object changed -/
def ChgO (l : Addr) (o : HO) (H : Hp) (R : Hp → Prop) : Prop := R (upd H l o)
theorem w_chg {l : Addr} {o : HO} {R : Hp → Prop} (k : ∀ H', But l H H' → H' l = some o → R H') : ChgO l o H R := k _ (But.upd _ _ _) upd_same
theorem w_tup {tr : TA} (k : tr σ H fun xs H1 => xs.length ≤ sizeLine ∧ NewO (.tup xs) H1 Q) : tTup tr σ H Q := k
theorem w_lst {tr : TA} (k : tr σ H fun xs H1 => xs.length ≤ sizeLine ∧ NewO (.lst xs) H1 Q) : tLst tr σ H Q := k
theorem w_cb {r : List V → Hp → VK → Prop} {tr : TA} (k : tr σ H fun vs H1 => r vs H1 Q) : tCB r tr σ H Q := k
theorem w_call {sp : Sp} {E : XK} {tr : TA} (k : tr σ H fun vs H1 => sp vs H1 Q E) : tCall sp [] E tr σ H Q := by
  show tr σ H fun vs H1 => sp (vs ++ []) H1 Q E
  simp only [List.append_nil]
  exact k
theorem w_chain {r r' : R2} (k : ta σ H fun x H1 => tb σ H1 fun y H2 => r x y H2 fun z H3 => ∃ k, z = .bl k ∧ if k = true then tc σ H3 (fun w H4 => r' y w H4 Q) else Q (.bl false) H3) : tChain r r' ta tb tc σ H Q := k
theorem w_test {R : Bool → Hp → Prop} (k : te σ H fun x H' => ∃ b, x = .bl b ∧ R b H') : tTest te σ H R := k
theorem w_tB {R : Bool → Hp → Prop} (k : te σ H fun x H' => ∃ b, x = .bl b ∧ R b H') : tB te σ H R := k
theorem w_bl {b : Bool} {R : Bool → Prop} (k : R b) : ∃ c, V.bl b = .bl c ∧ R c := ⟨b, rfl, k⟩
theorem w_and {R : Bool → Hp → Prop} (k : tt σ H fun c H1 => if c = true then tu σ H1 R else R false H1) : tAnd tt tu σ H R := k
theorem w_or {R : Bool → Hp → Prop} (k : tt σ H fun c H1 => if c = true then R true H1 else tu σ H1 R) : tOr tt tu σ H R := k
theorem w_not {R : Bool → Hp → Prop} (k : tt σ H fun c H1 => R (!c) H1) : tNot tt σ H R := k
theorem w_andV (k : ta σ H fun x H1 => ∃ c, x = .bl c ∧ if c = true then tb σ H1 Q else Q (.bl false) H1) : tAndV ta tb σ H Q := k
theorem w_orV (k : ta σ H fun x H1 => ∃ c, x = .bl c ∧ if c = true then Q (.bl true) H1 else tb σ H1 Q) : tOrV ta tb σ H Q := k
theorem w_ifE (k : tt σ H fun c H1 => if c = true then ta σ H1 Q else tb σ H1 Q) : tIf tt ta tb σ H Q := k
theorem w_notV (k : ta σ H fun x H1 => ∃ c, x = .bl c ∧ Q (.bl (!c)) H1) : tNotV ta σ H Q := k

/-- or, and: of two tests that leave the heap -/
theorem w_orP (p q : Prop) [Decidable p] [Decidable q] {R : Bool → Hp → Prop} (ht : ∀ S : Bool → Hp → Prop, S (decide p) H → tt σ H S) (hu : ∀ S : Bool → Hp → Prop, S (decide q) H → tu σ H S) (k : ∀ b : Bool, (b = true ↔ p ∨ q) → R b H) : tOr tt tu σ H R := by
  refine w_or (ht _ ?_)
  by_cases hp : p
  · rw [decide_eq_true hp]; exact iteT (k _ (by simp [hp]))
  · rw [decide_eq_false hp]; exact iteF (hu _ (k _ (by simp [hp])))
theorem w_andP (p q : Prop) [Decidable p] [Decidable q] {R : Bool → Hp → Prop} (ht : ∀ S : Bool → Hp → Prop, S (decide p) H → tt σ H S) (hu : ∀ S : Bool → Hp → Prop, S (decide q) H → tu σ H S) (k : ∀ b : Bool, (b = true ↔ p ∧ q) → R b H) : tAnd tt tu σ H R := by
  refine w_and (ht _ ?_)
  by_cases hp : p
  · rw [decide_eq_true hp]; exact iteT (hu _ (k _ (by simp [hp])))
  · rw [decide_eq_false hp]; exact iteF (k _ (by simp [hp]))
/-- and, or: first what either answer comes to, where Φ of the heap -/
theorem w_andK (Φ : Hp → Prop) {R : Bool → Hp → Prop} (hR : ∀ b H', Φ H' → R b H') (k : (∀ b H', Φ H' → R b H') → tt σ H fun c H1 => if c = true then tu σ H1 R else R false H1) : tAnd tt tu σ H R := k hR
theorem w_andF (Φ : Hp → Prop) {R : Bool → Hp → Prop} (hR : ∀ H', Φ H' → R false H') (k : (∀ H', Φ H' → R false H') → tt σ H fun c H1 => if c = true then tu σ H1 R else R false H1) : tAnd tt tu σ H R := k hR
theorem w_orK (Φ : Hp → Prop) {R : Bool → Hp → Prop} (hR : ∀ b H', Φ H' → R b H') (k : (∀ b H', Φ H' → R b H') → tt σ H fun c H1 => if c = true then R true H1 else tu σ H1 R) : tOr tt tu σ H R := k hR
theorem w_nT {A B : Prop} (k : B) : if (!true) = true then A else B := k
theorem w_nF {A B : Prop} (k : A) : if (!false) = true then A else B := k
theorem w_decT {p A B : Prop} [Decidable p] (h : p) (k : A) : if decide p = true then A else B := by rw [decide_eq_true h]; exact iteT k
theorem w_decF {p A B : Prop} [Decidable p] (h : ¬ p) (k : B) : if decide p = true then A else B := by rw [decide_eq_false h]; exact iteF k
/-! ### operators, together -/
def rAddS : R2 := fun x y H Q => ∃ i j, x = .str i ∧ y = .str j ∧ i.length + j.length ≤ sizeLine ∧ Q (.str (i ++ j)) H
def rAddA (K : PySem.W.Frag) : R2 := fun x y H Q => rI0 (fun i j => .int (i + j)) x y H Q ∨ (rAddS x y H Q ∨ (rCat x y H Q ∨ rCatT K x y H Q))
theorem op_addA {X : Cx} {K : PySem.W.Frag} (hK : X.K = K) : OpR X (binaryOp .Add) (rAddA K) := by
  subst hK
  exact op_add.or (OpR.or (r := rAddS) op_add_str (op_cat.or op_catT))
theorem w_addI {m n : Int} (k : Q (.int (m + n)) H) : rAddA K (.int m) (.int n) H Q := .inl ⟨m, n, rfl, rfl, k⟩
theorem w_addS {a b : Str} (h : a.length + b.length ≤ sizeLine) (k : Q (.str (a ++ b)) H) : rAddA K (.str a) (.str b) H Q := .inr (.inl ⟨a, b, rfl, rfl, h, k⟩)
theorem w_addL {l b : Addr} {xs zs : List V} (h1 : H l = some (.lst xs)) (h2 : H b = some (.lst zs)) (h : xs.length + zs.length ≤ sizeLine) (k : NewO (.lst (xs ++ zs)) H Q) :
    rAddA K (.ref l) (.ref b) H Q := .inr (.inr (.inl ⟨l, b, xs, zs, rfl, rfl, h1, h2, h, k⟩))
def rMulA : R2 := fun x y H Q => rI CMul (fun i j => .int (i * j)) x y H Q ∨ rRep x y H Q
theorem op_mulA {X : Cx} : OpR X (binaryOp .Mult) rMulA := op_mul.or op_rep
theorem w_mulI {m n : Int} (c : CMul m n) (k : Q (.int (m * n)) H) : rMulA (.int m) (.int n) H Q := .inl ⟨m, n, rfl, rfl, c, k⟩
def rEqA (K : PySem.W.Frag) : R2 := fun x y H Q => rEq x y H Q ∨ rEqD K x y H Q
def rNeA (K : PySem.W.Frag) : R2 := fun x y H Q => rNe x y H Q ∨ rNeD K x y H Q
theorem op_eqA {X : Cx} {K : PySem.W.Frag} (hK : X.K = K) (hu : X.A.units + 64 < cLine) : OpR X (compareOp .Eq) (rEqA K) := by
  subst hK
  exact op_eq.or (op_eqD hu)
theorem op_neA {X : Cx} {K : PySem.W.Frag} (hK : X.K = K) (hu : X.A.units + 64 < cLine) : OpR X (compareOp .NotEq) (rNeA K) := by
  subst hK
  exact op_ne.or (op_neD hu)
theorem w_eqI {m n : Int} (k : Q (.bl (decide (m = n))) H) : rEqA K (.int m) (.int n) H Q := .inl ⟨rfl, by rw [show decide (V.int m = V.int n) = decide (m = n) by rw [dec_int]; rfl]; exact k⟩
theorem w_neI {m n : Int} (k : Q (.bl (!decide (m = n))) H) : rNeA K (.int m) (.int n) H Q := .inl ⟨rfl, by rw [show decide (V.int m = V.int n) = decide (m = n) by rw [dec_int]; rfl]; exact k⟩
theorem w_eqS {m n : Str} (k : Q (.bl (decide (m = n))) H) : rEqA K (.str m) (.str n) H Q := .inl ⟨rfl, by rw [dec_str]; exact k⟩
theorem w_neS {m n : Str} (k : Q (.bl (!decide (m = n))) H) : rNeA K (.str m) (.str n) H Q := .inl ⟨rfl, by rw [dec_str]; exact k⟩
theorem w_eqB {m n : Bool} (k : Q (.bl (m == n)) H) : rEqA K (.bl m) (.bl n) H Q := .inl ⟨rfl, by rw [dec_bl]; exact k⟩
theorem w_neB {m n : Bool} (k : Q (.bl (!(m == n))) H) : rNeA K (.bl m) (.bl n) H Q := .inl ⟨rfl, by rw [dec_bl]; exact k⟩
theorem w_eqD {d e : PyData} (hd : Dp K H x d) (he : Dp K H y e) (sd : SeqAt.shaped d = true) (se : SeqAt.shaped e = true) (k : Q (.bl (PyData.eqv d e)) H) : rEqA K x y H Q := .inr ⟨d, e, hd, he, sd, se, k⟩
theorem w_neD {d e : PyData} (hd : Dp K H x d) (he : Dp K H y e) (sd : SeqAt.shaped d = true) (se : SeqAt.shaped e = true) (k : Q (.bl (!PyData.eqv d e)) H) : rNeA K x y H Q := .inr ⟨d, e, hd, he, sd, se, k⟩
/-- in, of texts and of things in a list or a tuple -/
def rInStr (neg : Bool) : R2 := fun x y H Q => ∃ i j, x = .str i ∧ y = .str j ∧ Q (.bl (if neg then !(!(Builtin.Str.occurrences j i 0 j.length 1).isEmpty) else !(Builtin.Str.occurrences j i 0 j.length 1).isEmpty)) H
def rInA (K : PySem.W.Frag) (neg : Bool) : R2 := fun x y H Q => rIn K neg x y H Q ∨ rInStr neg x y H Q
theorem op_inA {X : Cx} {K : PySem.W.Frag} (hK : X.K = K) : OpR X (compareOp .In) (rInA K false) := by
  subst hK
  exact op_in_seq.or (fun pins s σ H x y v u Q I rx ry h => op_in_str pins s σ H x y v u Q I rx ry h)
theorem op_notInA {X : Cx} {K : PySem.W.Frag} (hK : X.K = K) : OpR X (compareOp .NotIn) (rInA K true) := by
  subst hK
  exact op_notIn_seq.or (fun pins s σ H x y v u Q I rx ry h => op_notIn_str pins s σ H x y v u Q I rx ry h)
theorem w_inL {p : Addr} {xs : List V} (h : SqL K H p xs) (hx : flatV x = true) (ha : xs.all flatV = true) (k : Q (.bl (inV x xs)) H) : rInA K false x (.ref p) H Q := .inl ⟨p, xs, rfl, .inl h, hx, ha, k⟩
theorem w_inT {p : Addr} {xs : List V} (h : SqT K H p xs) (hx : flatV x = true) (ha : xs.all flatV = true) (k : Q (.bl (inV x xs)) H) : rInA K false x (.ref p) H Q := .inl ⟨p, xs, rfl, .inr h, hx, ha, k⟩
theorem w_niL {p : Addr} {xs : List V} (h : SqL K H p xs) (hx : flatV x = true) (ha : xs.all flatV = true) (k : Q (.bl (!inV x xs)) H) : rInA K true x (.ref p) H Q := .inl ⟨p, xs, rfl, .inl h, hx, ha, k⟩
theorem w_niT {p : Addr} {xs : List V} (h : SqT K H p xs) (hx : flatV x = true) (ha : xs.all flatV = true) (k : Q (.bl (!inV x xs)) H) : rInA K true x (.ref p) H Q := .inl ⟨p, xs, rfl, .inr h, hx, ha, k⟩
/-- subscripts -/
theorem ix_any {X : Cx} {K : PySem.W.Frag} (hK : X.K = K) : IxR X (rIx K) := by
  subst hK
  exact ix_seq
theorem w_ixL {p : Addr} {xs : List V} {n : Int} (h : SqL K H p xs) (ha : atI xs n = some v) (k : Q v H) : rIx K (.ref p) (.int n) H Q := .inl ⟨p, xs, n, v, rfl, rfl, h, ha, k⟩
theorem w_ixT {p : Addr} {xs : List V} {n : Int} (h : SqT K H p xs) (ha : atI xs n = some v) (k : Q v H) : rIx K (.ref p) (.int n) H Q := .inr (.inl ⟨p, xs, n, v, rfl, rfl, h, ha, k⟩)
theorem w_ixS {a : Str} {c : Nat} {n : Int} (h : a.length ≤ sizeLine) (ha : atI a.cps.toList n = some c) (k : Q (.str ⟨#[c]⟩) H) : rIx K (.str a) (.int n) H Q := .inr (.inr ⟨a, n, c, rfl, rfl, h, ha, k⟩)
/-! slices -/
def rSlAny (K : PySem.W.Frag) : V → Option Int → Option Int → Hp → VK → Prop := fun x lo hi H Q => rSlL K x lo hi H Q ∨ (rSlS x lo hi H Q ∨ rSlA K x lo hi H Q)
/-- calls -/
def rInt1 : List V → Hp → VK → Prop := fun xs H Q => (∃ i, xs = [.int i] ∧ Q (.int i) H) ∨ ∃ k, xs = [.bl k] ∧ Q (.int (if k then 1 else 0)) H
theorem call_int1A {X : Cx} : CallR X (.type "int") rInt1 := call_int1
theorem w_int1 {n : Int} (k : Q (.int n) H) : rInt1 [.int n] H Q := .inl ⟨n, rfl, k⟩
theorem w_int1b {b : Bool} (k : Q (.int (if b then 1 else 0)) H) : rInt1 [.bl b] H Q := .inr ⟨b, rfl, k⟩
def rLenA (K : PySem.W.Frag) : List V → Hp → VK → Prop := fun xs H Q => ∃ x n, xs = [x] ∧ LenV K x H n ∧ Q (.int n) H
theorem call_lenA {X : Cx} {K : PySem.W.Frag} (hK : X.K = K) : CallR X (.builtin "len") (rLenA K) := by
  subst hK
  exact call_len
theorem w_lenL {p : Addr} {xs : List V} (h : SqL K H p xs) (k : Q (.int xs.length) H) : rLenA K [.ref p] H Q := ⟨_, _, rfl, .inl ⟨xs, h, rfl⟩, k⟩
theorem w_lenT {p : Addr} {xs : List V} (h : SqT K H p xs) (k : Q (.int xs.length) H) : rLenA K [.ref p] H Q := ⟨_, _, rfl, .inr ⟨xs, h, rfl⟩, k⟩
theorem w_lenS {a : Str} (h : a.length ≤ sizeLine) (k : Q (.int a.length) H) : rLenA K [.str a] H Q := ⟨_, _, rfl, ⟨h, rfl⟩, k⟩
def rAbsA : List V → Hp → VK → Prop := fun xs H Q => ∃ i, xs = [.int i] ∧ Q (.int (if i < 0 then -i else i)) H
theorem call_absA {X : Cx} : CallR X (.builtin "abs") rAbsA := call_abs
def rMax2 : List V → Hp → VK → Prop := fun xs H Q => ∃ i j, xs = [.int i, .int j] ∧ Q (.int (if j > i then j else i)) H
def rMin2 : List V → Hp → VK → Prop := fun xs H Q => ∃ i j, xs = [.int i, .int j] ∧ Q (.int (if j < i then j else i)) H
theorem call_max2A {X : Cx} (hc : X.calm = true) : CallR X (.builtin "max") rMax2 := call_max2 hc
theorem call_min2A {X : Cx} (hc : X.calm = true) : CallR X (.builtin "min") rMin2 := call_min2 hc
theorem max_if (i j : Int) : (if j > i then j else i) = max i j := by split <;> omega
theorem min_if (i j : Int) : (if j < i then j else i) = min i j := by split <;> omega
theorem w_max2 {i j : Int} (k : Q (.int (max i j)) H) : rMax2 [.int i, .int j] H Q := ⟨i, j, rfl, by rw [max_if]; exact k⟩
theorem w_min2 {i j : Int} (k : Q (.int (min i j)) H) : rMin2 [.int i, .int j] H Q := ⟨i, j, rfl, by rw [min_if]; exact k⟩
def rBool1 : List V → Hp → VK → Prop := fun xs H Q => (∃ i, xs = [.int i] ∧ Q (.bl (i != 0)) H) ∨ ∃ k, xs = [.bl k] ∧ Q (.bl k) H
theorem call_bool1A {X : Cx} : CallR X (.type "bool") rBool1 := call_bool1
def rStrI : List V → Hp → VK → Prop := fun xs H Q => ∃ i, xs = [.int i] ∧ i.natAbs.log2 < 1920 ∧ Q (.str (toString i)) H
theorem call_strA {X : Cx} : CallR X (.type "str") rStrI := call_str_int
theorem w_strI {n : Int} (h : n.natAbs.log2 < 1920) (k : Q (.str (toString n)) H) : rStrI [.int n] H Q := ⟨n, rfl, h, k⟩
theorem w_size {xs : List V} {R : Prop} (h : xs.length ≤ sizeLine) (k : R) : xs.length ≤ sizeLine ∧ R := ⟨h, k⟩
/-- stores by place -/
theorem w_gSub {to ti : TE} {ts : TSet} {R : L2.St → Hp → Prop} (k : to σ H fun o H1 => ti σ H1 fun i H2 => ts o i v H2 fun H3 => R σ H3) : gSub to ti ts v σ H R := k
theorem w_setL {l : Addr} {xs : List V} {n : Int} {j : Nat} {R : Hp → Prop} (h : H l = some (.lst xs)) (hj : ixN xs.length n = some j) (k : ChgO l (.lst (xs.set j v)) H R) : rSetL (.ref l) (.int n) v H R := ⟨l, xs, n, j, rfl, rfl, h, hj, k⟩
/-- methods of lists -/
theorem w_bm {T : String} {r : V → List V → Hp → VK → Prop} {tr : TA} (k : ta σ H fun x H1 => tyV K T x H1 ∧ tr σ H1 fun xs H2 => r x xs H2 Q) : tBM K T r ta tr σ H Q := k
theorem w_bm0 {T : String} {r : V → List V → Hp → VK → Prop} (k : ta σ H fun x H1 => tyV K T x H1 ∧ r x [] H1 Q) : tBM0 K T r ta σ H Q := k
theorem w_tyL {p : Addr} {xs : List V} {R : Prop} (h : SqL K H p xs) (k : R) : tyV K "list" (.ref p) H ∧ R := ⟨.inl ⟨rfl, xs, h⟩, k⟩
theorem w_tyS {a : Str} {R : Prop} (k : R) : tyV K "str" (.str a) H ∧ R := ⟨rfl, k⟩
theorem w_append {l : Addr} {xs : List V} (h : H l = some (.lst xs)) (hz : xs.length < sizeLine) (k : ChgO l (.lst (xs ++ [v])) H (Q .non)) : rAppend (.ref l) [v] H Q := ⟨l, xs, v, rfl, rfl, h, hz, k⟩
theorem w_clear {l : Addr} {xs : List V} (h : H l = some (.lst xs)) (k : ChgO l (.lst []) H (Q .non)) : rClear (.ref l) [] H Q := ⟨l, xs, rfl, rfl, h, k⟩
end

/-! ### loops -/
section
variable {K : PySem.W.Frag} {σ : L2.St} {H : Hp} {a D : Addr} {xs : List V} {g : TG} {tb : TS} {nx : L2.St → Hp → Prop} {rt : VK} {bk ct : L2.St → Hp → Prop} {tl te : TE} {ta : TA} {tt : TT} {Q : VK} {vs : List Nat} {j : Nat}
def WFor (J : It) (g : TG) (tb : TS) (nx : L2.St → Hp → Prop) (rt : VK) (σ : L2.St) (H : Hp) : Prop := ∃ W : Nat → Nat → L2.St → Hp → Prop, (∃ m, W 0 m σ H) ∧ ∀ i m σ H, W i m σ H →
  (J.stop i H ∧ nx σ H) ∨ (J.go i H ∧ ∃ N : L2.St → Hp → Prop, (∀ σ' H', N σ' H' → ∃ m', m' < m ∧ W (i + 1) m' σ' H') ∧ ∀ x H', J.yld i H x H' → g x σ H' fun σ2 H2 => tb ⟨N, rt, nx, N⟩ σ2 H2)
theorem w_forL (k : tl σ H fun x H1 => ∃ a, x = .ref a ∧ (∃ xs, SqL K H1 a xs) ∧ WFor (Itl K a) g tb nx rt σ H1) : tFor (iList K tl) g tb ⟨nx, rt, bk, ct⟩ σ H := k
theorem w_forT (k : tl σ H fun x H1 => ∃ a, x = .ref a ∧ (∃ xs, SqT K H1 a xs) ∧ WFor (Itt K a) g tb nx rt σ H1) : tFor (iTup K tl) g tb ⟨nx, rt, bk, ct⟩ σ H := k
theorem w_forR1 (k : ta σ H fun vs H1 => ∃ j : Int, vs = [.int j] ∧ -(2 ^ 62) ≤ j ∧ j < 2 ^ 62 ∧ WFor (Itr 0 j.toNat) g tb nx rt σ H1) : tFor (iRng1 ta) g tb ⟨nx, rt, bk, ct⟩ σ H := k
theorem w_forR2 (k : ta σ H fun vs H1 => ∃ i j : Int, vs = [.int i, .int j] ∧ (-(2 ^ 62) ≤ i ∧ i < 2 ^ 62 ∧ -(2 ^ 62) ≤ j ∧ j < 2 ^ 62) ∧ WFor (Itr i (j - i).toNat) g tb nx rt σ H1) : tFor (iRng2 ta) g tb ⟨nx, rt, bk, ct⟩ σ H := k
/-- over a list that stands: the word by the turn, the slots, the heap -/
theorem fl_list (xs : List V) (Pv : Nat → L2.St → Hp → Prop) (hS : SqL K H a xs) (h0 : Pv 0 σ H) (hl : ∀ i σ H, i ≤ xs.length → Pv i σ H → SqL K H a xs)
    (hs : ∀ i x σ H, xs[i]? = some x → Pv i σ H → g x σ H fun σ2 H2 => tb ⟨Pv (i + 1), rt, nx, Pv (i + 1)⟩ σ2 H2) (hd : ∀ σ H, Pv xs.length σ H → nx σ H) :
    ∃ b, V.ref a = .ref b ∧ (∃ xs, SqL K H b xs) ∧ WFor (Itl K b) g tb nx rt σ H := ⟨a, rfl, ⟨xs, hS⟩, for_list (D := ⟨nx, rt, fun _ _ => False, fun _ _ => False⟩) Pv h0 hl hs hd⟩
theorem fl_tup (xs : List V) (Pv : Nat → L2.St → Hp → Prop) (hS : SqT K H a xs) (h0 : Pv 0 σ H) (hl : ∀ i σ H, i ≤ xs.length → Pv i σ H → SqT K H a xs)
    (hs : ∀ i x σ H, xs[i]? = some x → Pv i σ H → g x σ H fun σ2 H2 => tb ⟨Pv (i + 1), rt, nx, Pv (i + 1)⟩ σ2 H2) (hd : ∀ σ H, Pv xs.length σ H → nx σ H) :
    ∃ b, V.ref a = .ref b ∧ (∃ xs, SqT K H b xs) ∧ WFor (Itt K b) g tb nx rt σ H := ⟨a, rfl, ⟨xs, hS⟩, for_tup (D := ⟨nx, rt, fun _ _ => False, fun _ _ => False⟩) Pv h0 hl hs hd⟩
theorem fl_rng1 {n : Int} (Pv : Nat → L2.St → Hp → Prop) (hb : n < 2 ^ 62) (hb0 : -(2 ^ 62) ≤ n) (h0 : Pv 0 σ H)
    (hs : ∀ i σ H, i < n.toNat → Pv i σ H → g (.int (i : Int)) σ H fun σ2 H2 => tb ⟨Pv (i + 1), rt, nx, Pv (i + 1)⟩ σ2 H2) (hd : ∀ σ H, Pv n.toNat σ H → nx σ H) :
    ∃ j : Int, [V.int n] = [.int j] ∧ -(2 ^ 62) ≤ j ∧ j < 2 ^ 62 ∧ WFor (Itr 0 j.toNat) g tb nx rt σ H := by
  refine ⟨n, rfl, hb0, hb, for_range (D := ⟨nx, rt, fun _ _ => False, fun _ _ => False⟩) Pv h0 (fun i σ H hi p => ?_) hd⟩
  rw [Int.zero_add]
  exact hs i σ H hi p
theorem fl_rng2 {m n : Int} (Pv : Nat → L2.St → Hp → Prop) (hb : -(2 ^ 62) ≤ m ∧ m < 2 ^ 62 ∧ -(2 ^ 62) ≤ n ∧ n < 2 ^ 62) (h0 : Pv 0 σ H)
    (hs : ∀ i σ H, i < (n - m).toNat → Pv i σ H → g (.int (m + (i : Int))) σ H fun σ2 H2 => tb ⟨Pv (i + 1), rt, nx, Pv (i + 1)⟩ σ2 H2) (hd : ∀ σ H, Pv (n - m).toNat σ H → nx σ H) :
    ∃ i j : Int, [V.int m, V.int n] = [.int i, .int j] ∧ (-(2 ^ 62) ≤ i ∧ i < 2 ^ 62 ∧ -(2 ^ 62) ≤ j ∧ j < 2 ^ 62) ∧ WFor (Itr i (j - i).toNat) g tb nx rt σ H :=
  ⟨m, n, rfl, hb, for_range (D := ⟨nx, rt, fun _ _ => False, fun _ _ => False⟩) Pv h0 hs hd⟩
/-- over a short list, turn by turn -/
def runL (K : PySem.W.Frag) (a : Addr) (all : List V) (g : TG) (tb : TS) (nx : L2.St → Hp → Prop) (rt : VK) : List V → L2.St → Hp → Prop
  | [], σ, H => nx σ H
  | x :: r, σ, H => g x σ H fun σ2 H2 => tb ⟨fun σ' H' => SqL K H' a all ∧ runL K a all g tb nx rt r σ' H', rt, nx, fun σ' H' => SqL K H' a all ∧ runL K a all g tb nx rt r σ' H'⟩ σ2 H2
theorem fl_run (xs : List V) (hS : SqL K H a xs) (k : runL K a xs g tb nx rt xs σ H) : ∃ b, V.ref a = .ref b ∧ (∃ xs, SqL K H b xs) ∧ WFor (Itl K b) g tb nx rt σ H := by
  refine fl_list xs (fun i σ H => SqL K H a xs ∧ runL K a xs g tb nx rt (xs.drop i) σ H) hS ⟨hS, by rw [List.drop_zero]; exact k⟩ (fun _ _ _ _ h => h.1) (fun i x σ H hi h => ?_) (fun σ H h => ?_)
  · have e : xs.drop i = x :: xs.drop (i + 1) := by
      obtain ⟨hl, rfl⟩ := List.getElem?_eq_some_iff.mp hi
      exact List.drop_eq_getElem_cons hl
    have h2 := h.2
    rw [e] at h2
    exact h2
  · have h2 := h.2
    rw [List.drop_length] at h2
    exact h2
theorem w_runN (k : nx σ H) : runL K a xs g tb nx rt [] σ H := k
theorem w_runC {x : V} {r : List V} (k : g x σ H fun σ2 H2 => tb ⟨fun σ' H' => SqL K H' a xs ∧ runL K a xs g tb nx rt r σ' H', rt, nx, fun σ' H' => SqL K H' a xs ∧ runL K a xs g tb nx rt r σ' H'⟩ σ2 H2) :
    runL K a xs g tb nx rt (x :: r) σ H := k
/-- the first of two, by what stands -/
theorem w_both {A B : Prop} (h : A) (k : B) : A ∧ B := ⟨h, k⟩
/-! comprehensions -/
def WLc (J : It) (g : TG) (tt : TT) (te : TE) (vs : List Nat) (σ : L2.St) (D : Addr) (H1 : Hp) (Q : VK) : Prop := ∃ W : Nat → Nat → Hp → Prop, (∃ m, W 0 m (upd H1 D (.lst []))) ∧ ∀ i m H, W i m H →
  (J.stop i H ∧ Q (.ref D) H) ∨ (J.go i H ∧ ∃ Nx : Hp → Prop, (∀ H', Nx H' → ∃ m', m' < m ∧ W (i + 1) m' H') ∧ ∀ x H', J.yld i H x H' → g x (wipe σ vs) H' fun σ2 H2 => wipe σ2 vs = wipe σ vs ∧ tt σ2 H2 fun b H3 =>
    if b = true then te σ2 H3 fun y H4 => ∃ acc, H4 D = some (.lst acc) ∧ acc.length < sizeLine ∧ Nx (upd H4 D (.lst (acc ++ [y]))) else Nx H3)
theorem w_lcL (k : tl σ H fun x H1 => ∃ a, x = .ref a ∧ (∃ xs, SqL K H1 a xs) ∧ ∀ D, H1 D = none → WLc (Itl K a) g tt te vs σ D H1 Q) : tLc (iList K tl) g tt te vs σ H Q := k
theorem w_lcT (k : tl σ H fun x H1 => ∃ a, x = .ref a ∧ (∃ xs, SqT K H1 a xs) ∧ ∀ D, H1 D = none → WLc (Itt K a) g tt te vs σ D H1 Q) : tLc (iTup K tl) g tt te vs σ H Q := k
theorem w_lcR1 (k : ta σ H fun us H1 => ∃ j : Int, us = [.int j] ∧ -(2 ^ 62) ≤ j ∧ j < 2 ^ 62 ∧ ∀ D, H1 D = none → WLc (Itr 0 j.toNat) g tt te vs σ D H1 Q) : tLc (iRng1 ta) g tt te vs σ H Q := k
theorem wipe1 (σ : L2.St) (j : Nat) (x : Option V) : wipe ((wipe σ [j]).set j x) [j] = wipe σ [j] := by
  show (((σ.set j none).set j x).set j none) = σ.set j none
  rw [List.set_set, List.set_set]
def LcEnd (D : Addr) (Pv : Nat → List V → Hp → Prop) (i : Nat) (y : V) (H4 : Hp) : Prop := ∃ acc, H4 D = some (.lst acc) ∧ acc.length < sizeLine ∧
  ∃ ys, ys.length ≤ i + 1 ∧ upd H4 D (.lst (acc ++ [y])) D = some (.lst ys) ∧ Pv (i + 1) ys (upd H4 D (.lst (acc ++ [y])))
theorem lc_end {D : Addr} {Pv : Nat → List V → Hp → Prop} {i : Nat} {y : V} {H4 : Hp} {ys : List V} (h : H4 D = some (.lst ys)) (hl : ys.length ≤ i) (hz : ys.length < sizeLine) (k : ∀ H', But D H4 H' → H' D = some (.lst (ys ++ [y])) → Pv (i + 1) (ys ++ [y]) H') : LcEnd D Pv i y H4 :=
  ⟨ys, h, hz, ys ++ [y], by rw [List.length_append]; exact Nat.succ_le_succ hl, upd_same, k _ (But.upd _ _ _) upd_same⟩
def LcSkip (D : Addr) (Pv : Nat → List V → Hp → Prop) (i : Nat) (H4 : Hp) : Prop := ∃ ys, ys.length ≤ i + 1 ∧ H4 D = some (.lst ys) ∧ Pv (i + 1) ys H4
theorem lc_skip {D : Addr} {Pv : Nat → List V → Hp → Prop} {i : Nat} {H4 : Hp} {ys : List V} (h : H4 D = some (.lst ys)) (hl : ys.length ≤ i) (k : Pv (i + 1) ys H4) : LcSkip D Pv i H4 := ⟨ys, Nat.le_succ_of_le hl, h, k⟩
/-- over a list: the word by the turn, the list so far, the heap; any test -/
theorem lc_L (xs : List V) (Pv : Addr → Nat → List V → Hp → Prop) (hS : SqL K H a xs) (h0 : ∀ D H', H D = none → Same H H' → H' D = some (.lst []) → Pv D 0 [] H')
    (hl : ∀ D, H D = none → ∀ i ys H', i ≤ xs.length → H' D = some (.lst ys) → Pv D i ys H' → SqL K H' a xs)
    (hs : ∀ D, H D = none → ∀ i x ys H', xs[i]? = some x → ys.length ≤ i → H' D = some (.lst ys) → Pv D i ys H' → tt ((wipe σ [j]).set j (some x)) H' fun b H3 => if b = true then te ((wipe σ [j]).set j (some x)) H3 fun y H4 => LcEnd D (Pv D) i y H4 else LcSkip D (Pv D) i H3)
    (hd : ∀ D, H D = none → ∀ ys H', ys.length ≤ xs.length → H' D = some (.lst ys) → Pv D xs.length ys H' → Q (.ref D) H') :
    ∃ b, V.ref a = .ref b ∧ (∃ xs, SqL K H b xs) ∧ ∀ D, H D = none → WLc (Itl K b) (gName j) tt te [j] σ D H Q :=
  ⟨a, rfl, ⟨xs, hS⟩, fun D hD => lc_list (xs := xs) (fun i H' => ∃ ys, ys.length ≤ i ∧ H' D = some (.lst ys) ∧ Pv D i ys H') ⟨[], Nat.le_refl _, upd_same, h0 D _ hD (Same.one hD) upd_same⟩ (fun i H' hi ⟨ys, _, e, p⟩ => hl D hD i ys H' hi e p)
    (fun i x H' hi ⟨ys, e, e2, p⟩ => ⟨wipe1 _ _ _, hs D hD i x ys H' hi e e2 p⟩) (fun H' ⟨ys, e, e2, p⟩ => hd D hD ys H' e e2 p)⟩
theorem lc_T (xs : List V) (Pv : Addr → Nat → List V → Hp → Prop) (hS : SqT K H a xs) (h0 : ∀ D H', H D = none → Same H H' → H' D = some (.lst []) → Pv D 0 [] H')
    (hl : ∀ D, H D = none → ∀ i ys H', i ≤ xs.length → H' D = some (.lst ys) → Pv D i ys H' → SqT K H' a xs)
    (hs : ∀ D, H D = none → ∀ i x ys H', xs[i]? = some x → ys.length ≤ i → H' D = some (.lst ys) → Pv D i ys H' → tt ((wipe σ [j]).set j (some x)) H' fun b H3 => if b = true then te ((wipe σ [j]).set j (some x)) H3 fun y H4 => LcEnd D (Pv D) i y H4 else LcSkip D (Pv D) i H3)
    (hd : ∀ D, H D = none → ∀ ys H', ys.length ≤ xs.length → H' D = some (.lst ys) → Pv D xs.length ys H' → Q (.ref D) H') :
    ∃ b, V.ref a = .ref b ∧ (∃ xs, SqT K H b xs) ∧ ∀ D, H D = none → WLc (Itt K b) (gName j) tt te [j] σ D H Q :=
  ⟨a, rfl, ⟨xs, hS⟩, fun D hD => lc_tup (xs := xs) (fun i H' => ∃ ys, ys.length ≤ i ∧ H' D = some (.lst ys) ∧ Pv D i ys H') ⟨[], Nat.le_refl _, upd_same, h0 D _ hD (Same.one hD) upd_same⟩ (fun i H' hi ⟨ys, _, e, p⟩ => hl D hD i ys H' hi e p)
    (fun i x H' hi ⟨ys, e, e2, p⟩ => ⟨wipe1 _ _ _, hs D hD i x ys H' hi e e2 p⟩) (fun H' ⟨ys, e, e2, p⟩ => hd D hD ys H' e e2 p)⟩
theorem lc_R1 {n : Int} (Pv : Addr → Nat → List V → Hp → Prop) (hb0 : -(2 ^ 62) ≤ n) (hb : n < 2 ^ 62) (h0 : ∀ D H', H D = none → Same H H' → H' D = some (.lst []) → Pv D 0 [] H')
    (hs : ∀ D, H D = none → ∀ (i : Nat) ys H', i < n.toNat → ys.length ≤ i → H' D = some (.lst ys) → Pv D i ys H' → tt ((wipe σ [j]).set j (some (.int (i : Int)))) H' fun b H3 => if b = true then te ((wipe σ [j]).set j (some (.int (i : Int)))) H3 fun y H4 => LcEnd D (Pv D) i y H4 else LcSkip D (Pv D) i H3)
    (hd : ∀ D, H D = none → ∀ ys H', ys.length ≤ n.toNat → H' D = some (.lst ys) → Pv D n.toNat ys H' → Q (.ref D) H') :
    ∃ m : Int, [V.int n] = [.int m] ∧ -(2 ^ 62) ≤ m ∧ m < 2 ^ 62 ∧ ∀ D, H D = none → WLc (Itr 0 m.toNat) (gName j) tt te [j] σ D H Q :=
  ⟨n, rfl, hb0, hb, fun D hD => lc_range (lo := 0) (n := n.toNat) (fun i H' => ∃ ys, ys.length ≤ i ∧ H' D = some (.lst ys) ∧ Pv D i ys H') ⟨[], Nat.le_refl _, upd_same, h0 D _ hD (Same.one hD) upd_same⟩
    (fun i H' hi ⟨ys, e, e2, p⟩ => by
      rw [Int.zero_add]
      exact ⟨wipe1 _ _ _, hs D hD i ys H' hi e e2 p⟩) (fun H' ⟨ys, e, e2, p⟩ => hd D hD ys H' e e2 p)⟩
theorem w_yes {R : Bool → Hp → Prop} (k : R true H) : tYes σ H R := k
end

/-! ### data -/
mutual
/-- data of None, ints, texts, lists, tuples, not too deep: what == tells of it is whether it is the same -/
def clean : PyData → Bool
  | .none => true
  | .int _ => true
  | .str x => PyData.strOk x
  | .list xs => cleanAll xs
  | .tuple xs => cleanAll xs
  | .bool _ => false
  | .dict _ => false
def cleanAll : List PyData → Bool
  | [] => true
  | x :: xs => clean x && cleanAll xs
end
mutual
theorem clean_lay : ∀ d : PyData, clean d = true → d.canLay0 = true
  | .none, _ => by rw [PyData.canLay0]
  | .int _, _ => by rw [PyData.canLay0]
  | .str x, h => by rw [PyData.canLay0]; rw [clean] at h; exact h
  | .list xs, h => by rw [PyData.canLay0]; rw [clean] at h; exact cleanAll_lay xs h
  | .tuple xs, h => by rw [PyData.canLay0]; rw [clean] at h; exact cleanAll_lay xs h
  | .bool _, h => by rw [clean] at h; cases h
  | .dict _, h => by rw [clean] at h; cases h
theorem cleanAll_lay : ∀ ds : List PyData, cleanAll ds = true → PyData.canLayAll0 ds = true
  | [], _ => by rw [PyData.canLayAll0]
  | x :: xs, h => by
    rw [cleanAll, Bool.and_eq_true] at h
    rw [PyData.canLayAll0, clean_lay x h.1, cleanAll_lay xs h.2]; rfl
end
mutual
theorem clean_eqv : ∀ d e : PyData, clean d = true → clean e = true → (PyData.eqv d e = true ↔ d = e)
  | .none, e, _, _ => by cases e <;> simp [PyData.eqv]
  | .int i, e, _, he => by cases e <;> simp [PyData.eqv]; simp [clean] at he
  | .str x, e, _, _ => by cases e <;> simp [PyData.eqv]
  | .list xs, e, h, he => by
    cases e <;> simp [PyData.eqv]
    simp only [clean] at h he
    exact cleanAll_eqv xs _ h he
  | .tuple xs, e, h, he => by
    cases e <;> simp [PyData.eqv]
    simp only [clean] at h he
    exact cleanAll_eqv xs _ h he
  | .bool _, _, h, _ => by simp [clean] at h
  | .dict _, _, h, _ => by simp [clean] at h
theorem cleanAll_eqv : ∀ ds es : List PyData, cleanAll ds = true → cleanAll es = true → (PyData.eqvAll ds es = true ↔ ds = es)
  | [], es, _, _ => by cases es <;> simp [PyData.eqvAll]
  | x :: xs, [], _, _ => by simp [PyData.eqvAll]
  | x :: xs, y :: ys, h, he => by
    simp only [cleanAll, Bool.and_eq_true] at h he
    simp only [PyData.eqvAll, Bool.and_eq_true, clean_eqv x y h.1 he.1, cleanAll_eqv xs ys h.2 he.2, List.cons.injEq]
end
/-- to be compared by == -/
structure Cmp (d : PyData) : Prop where
  clean : clean d = true
  depth : d.depth ≤ 64
theorem Cmp.shaped {d : PyData} (c : Cmp d) : SeqAt.shaped d = true := by
  unfold SeqAt.shaped
  rw [clean_lay d c.clean, Bool.true_and, decide_eq_true_eq]
  exact c.depth
theorem eqv_iff {d e : PyData} (c : Cmp d) (c' : Cmp e) : PyData.eqv d e = true ↔ d = e := clean_eqv d e c.clean c'.clean
open Classical in
theorem w_eqP {K : PySem.W.Frag} {H : Hp} {x y : V} {Q : VK} {d e : PyData} (hd : Dp K H x d) (he : Dp K H y e) (cd : Cmp d) (ce : Cmp e) (k : ∀ b : Bool, (b = true ↔ d = e) → Q (.bl b) H) : rEqA K x y H Q :=
  w_eqD hd he cd.shaped ce.shaped (k _ (eqv_iff cd ce))
theorem w_neP {K : PySem.W.Frag} {H : Hp} {x y : V} {Q : VK} {d e : PyData} (hd : Dp K H x d) (he : Dp K H y e) (cd : Cmp d) (ce : Cmp e) (k : ∀ b : Bool, (b = true ↔ d ≠ e) → Q (.bl b) H) : rNeA K x y H Q :=
  w_neD hd he cd.shaped ce.shaped (k _ (by
    have h := eqv_iff cd ce
    cases hb : PyData.eqv d e <;> rw [hb] at h <;> simp at h ⊢ <;> exact h))
theorem dpAll_ints {K : PySem.W.Frag} {H : Hp} : ∀ ns : List Int, DpAll K H (ns.map V.int) (ns.map PyData.int)
  | [] => .nil
  | n :: ns => .cons (.int n) (dpAll_ints ns)
theorem dp_ints {K : PySem.W.Frag} {H : Hp} {a : Addr} {ns : List Int} (h : SqL K H a (ns.map V.int)) : Dp K H (.ref a) (.list (ns.map PyData.int)) := .lst h (dpAll_ints ns)
theorem cleanAll_ints : ∀ ns : List Int, cleanAll (ns.map PyData.int) = true
  | [] => by simp [cleanAll]
  | n :: ns => by rw [List.map_cons, cleanAll, cleanAll_ints ns, clean]; rfl
theorem depthAll_ints : ∀ ns : List Int, PyData.depthAll (ns.map PyData.int) = 0
  | [] => by simp [PyData.depthAll]
  | n :: ns => by rw [List.map_cons, PyData.depthAll, depthAll_ints ns, PyData.depth]; rfl
theorem cmp_ints (ns : List Int) : Cmp (.list (ns.map PyData.int)) := ⟨by rw [clean]; exact cleanAll_ints ns, by rw [PyData.depth, depthAll_ints]; decide⟩
theorem map_int_inj {ns ms : List Int} : PyData.list (ns.map PyData.int) = .list (ms.map PyData.int) ↔ ns = ms := by
  constructor
  · intro h
    have h2 : ns.map PyData.int = ms.map PyData.int := by injection h
    exact (List.map_inj_right (f := PyData.int) (fun x y e => by injection e)).mp h2
  · intro h; rw [h]
theorem w_eqIL {K : PySem.W.Frag} {H : Hp} {p q : Addr} {Q : VK} {ns ms : List Int} (h1 : SqL K H p (ns.map V.int)) (h2 : SqL K H q (ms.map V.int)) (k : Q (.bl (decide (ns = ms))) H) : rEqA K (.ref p) (.ref q) H Q :=
  w_eqP (dp_ints h1) (dp_ints h2) (cmp_ints _) (cmp_ints _) fun b hb => by
    rw [map_int_inj] at hb
    rw [show b = decide (ns = ms) by rw [Bool.eq_iff_iff, hb, decide_eq_true_eq]]
    exact k
theorem w_neIL {K : PySem.W.Frag} {H : Hp} {p q : Addr} {Q : VK} {ns ms : List Int} (h1 : SqL K H p (ns.map V.int)) (h2 : SqL K H q (ms.map V.int)) (k : Q (.bl (!decide (ns = ms))) H) : rNeA K (.ref p) (.ref q) H Q :=
  w_neP (dp_ints h1) (dp_ints h2) (cmp_ints _) (cmp_ints _) fun b hb => by
    rw [ne_eq, map_int_inj] at hb
    rw [show b = !decide (ns = ms) by rw [Bool.eq_iff_iff, hb]; simp]
    exact k
/-! slices -/
section
variable {K : PySem.W.Frag} {σ : L2.St} {H : Hp} {te : TE} {tl th : TO} {Q : VK} {a : Addr} {xs : List V} {lo hi : Option Int}
theorem sl_any {X : Cx} {K : PySem.W.Frag} (hK : X.K = K) : SlR X (rSlAny K) := by
  subst hK
  exact sl_list.or (sl_str.or sl_tupA)
theorem w_sl {r : V → Option Int → Option Int → Hp → VK → Prop} (k : te σ H fun x H1 => tl σ H1 fun l H2 => th σ H2 fun u H3 => r x l u H3 Q) : tSl r te tl th σ H Q := k
theorem w_noPart {R : Option Int → Hp → Prop} (k : R none H) : tNoPart σ H R := k
theorem w_part {R : Option Int → Hp → Prop} (k : te σ H fun x H1 => ∃ i, x = .int i ∧ R (some i) H1) : tPart te σ H R := k
theorem w_int {R : Int → Prop} {n : Int} (k : R n) : ∃ i, V.int n = .int i ∧ R i := ⟨n, rfl, k⟩
theorem w_slL (h : SqL K H a xs) (k : NewO (.lst (cutV xs lo hi)) H Q) : rSlAny K (.ref a) lo hi H Q := .inl ⟨a, xs, rfl, h, k⟩
theorem w_slS {z : Str} (h : z.length ≤ sizeLine) (k : Q (.str (cutS z lo hi)) H) : rSlAny K (.str z) lo hi H Q := .inr (.inl ⟨z, rfl, h, k⟩)
theorem w_rep {l : Addr} {n : Int} (h : H l = some (.lst xs)) (h0 : -(2 ^ 63) ≤ n) (h1 : n < 2 ^ 63) (hz : xs.length * n.toNat ≤ sizeLine) (k : NewO (.lst (List.replicate n.toNat xs).flatten) H Q) : rMulA (.ref l) (.int n) H Q :=
  .inr ⟨l, n, xs, rfl, rfl, h, h0, h1, hz, k⟩
end

/-! ### unpacking: a tuple or a list -/
def gSeq (K : PySem.W.Frag) (n : Nat) (t : TGs) : TG := fun v σ H Q => gLst K n t v σ H Q ∨ gTup K n t v σ H Q
theorem pg_seq {X : Cx} {K : PySem.W.Frag} {pos : Pos} {es : List Expr} {k : Nat} {t : TGs} (n : Nat) (hK : X.K = K) (hc : X.calm = true) (h : PGs X es t)
    (hn : (assignEach es X.env).length = n := by rfl) (hst : (assignEach es X.env).findIdx? (·.1) = none := by rfl) : PG X (.Tuple es k pos) (gSeq K n t) := by
  subst hK
  refine ⟨fun pins s σ H v u Q I r hw => ?_⟩
  rcases hw with hw | hw
  · exact (pg_lst hc h hn hst).run pins s σ H v u Q I r hw
  · exact (pg_tup hc h hn hst).run pins s σ H v u Q I r hw
section
variable {K : PySem.W.Frag} {σ : L2.St} {H : Hp} {R : L2.St → Hp → Prop} {t : TGs} {g : TG} {xs : List V} {a : Addr} {v : V} {n : Nat}
theorem w_seqL (h : SqL K H a xs) (hl : xs.length = n) (k : t xs σ H R) : gSeq K n t (.ref a) σ H R := .inl ⟨a, xs, rfl, h, hl, k⟩
theorem w_seqT (h : SqT K H a xs) (hl : xs.length = n) (k : t xs σ H R) : gSeq K n t (.ref a) σ H R := .inr ⟨a, xs, rfl, h, hl, k⟩
theorem w_gNil (k : R σ H) : gNil [] σ H R := ⟨rfl, k⟩
theorem w_gCons (k : g v σ H fun σ' H' => t xs σ' H' R) : gCons g t (v :: xs) σ H R := ⟨v, xs, rfl, k⟩
end

/-! ### walks of any kind -/
section
variable {K : PySem.W.Frag} {σ : L2.St} {H : Hp} {a b D : Addr} {xs ys : List V} {g : TG} {tb : TS} {nx : L2.St → Hp → Prop} {rt : VK} {bk ct : L2.St → Hp → Prop} {tl te : TE} {ta : TA} {tt : TT} {Q : VK} {vs : List Nat} {J : It} {n : Nat} {G : Hp → Prop} {Y : Nat → Hp → V → Hp → Prop}
theorem wfor_it (w : Walk J n G Y) (Pv : Nat → L2.St → Hp → Prop) (h0 : Pv 0 σ H) (hG : ∀ i σ H, i ≤ n → Pv i σ H → G H)
    (hs : ∀ i x σ H H', i < n → Pv i σ H → Y i H x H' → g x σ H' fun σ2 H2 => tb ⟨Pv (i + 1), rt, nx, Pv (i + 1)⟩ σ2 H2) (hd : ∀ σ H, Pv n σ H → nx σ H) : WFor J g tb nx rt σ H :=
  for_it (D := ⟨nx, rt, fun _ _ => False, fun _ _ => False⟩) w Pv h0 hG hs hd
theorem wlc_it (w : Walk J n G Y) (Pv : Addr → Nat → List V → Hp → Prop) (h0 : ∀ D H', H D = none → Same H H' → H' D = some (.lst []) → Pv D 0 [] H') (hG : ∀ D, H D = none → ∀ i ys H', i ≤ n → H' D = some (.lst ys) → Pv D i ys H' → G H')
    (hs : ∀ D, H D = none → ∀ i x ys H0 H', i < n → ys.length ≤ i → H0 D = some (.lst ys) → Pv D i ys H0 → Y i H0 x H' → g x (wipe σ vs) H' fun σ2 H2 => wipe σ2 vs = wipe σ vs ∧ tt σ2 H2 fun b H3 => if b = true then te σ2 H3 fun y H4 => LcEnd D (Pv D) i y H4 else LcSkip D (Pv D) i H3)
    (hd : ∀ D, H D = none → ∀ ys H', ys.length ≤ n → H' D = some (.lst ys) → Pv D n ys H' → Q (.ref D) H') : ∀ D, H D = none → WLc J g tt te vs σ D H Q := fun D hD =>
  lc_it w (fun i H' => ∃ ys, ys.length ≤ i ∧ H' D = some (.lst ys) ∧ Pv D i ys H') ⟨[], Nat.le_refl _, upd_same, h0 D _ hD (Same.one hD) upd_same⟩ (fun i H' hi ⟨ys, _, e, p⟩ => hG D hD i ys H' hi e p)
    (fun i x H0 H' hi ⟨ys, e, e2, p⟩ y => hs D hD i x ys H0 H' hi e e2 p y) (fun H' ⟨ys, e, e2, p⟩ => hd D hD ys H' e e2 p)
theorem w_forZ (k : ta σ H fun vs H1 => ∃ a b xs ys, vs = [.ref a, .ref b] ∧ SqL K H1 a xs ∧ SqL K H1 b ys ∧ WFor (Itz K a b) g tb nx rt σ H1) : tFor (iZip K ta) g tb ⟨nx, rt, bk, ct⟩ σ H := k
theorem w_forE (k : ta σ H fun vs H1 => ∃ a xs, vs = [.ref a] ∧ SqL K H1 a xs ∧ WFor (Ite K a) g tb nx rt σ H1) : tFor (iEnum K ta) g tb ⟨nx, rt, bk, ct⟩ σ H := k
theorem w_forV (k : te σ H fun v H1 => ∃ (a : Addr) (xs : List V), v = .ref a ∧ ((SqL K H1 a xs ∧ WFor (Itv K a xs.length) g tb nx rt σ H1) ∨ (SqT K H1 a xs ∧ WFor (RT.ItvT K a xs.length) g tb nx rt σ H1))) : tFor (RT.iRevA K te) g tb ⟨nx, rt, bk, ct⟩ σ H := k
theorem w_lcZ (k : ta σ H fun us H1 => ∃ a b xs ys, us = [.ref a, .ref b] ∧ SqL K H1 a xs ∧ SqL K H1 b ys ∧ ∀ D, H1 D = none → WLc (Itz K a b) g tt te vs σ D H1 Q) : tLc (iZip K ta) g tt te vs σ H Q := k
theorem w_lcE (k : ta σ H fun us H1 => ∃ a xs, us = [.ref a] ∧ SqL K H1 a xs ∧ ∀ D, H1 D = none → WLc (Ite K a) g tt te vs σ D H1 Q) : tLc (iEnum K ta) g tt te vs σ H Q := k
/-- zip of two lists, each turn a new pair -/
theorem fl_zip (Pv : Nat → L2.St → Hp → Prop) (hx : SqL K H a xs) (hy : SqL K H b ys) (h0 : Pv 0 σ H) (hG : ∀ i σ H, i ≤ min xs.length ys.length → Pv i σ H → SqL K H a xs ∧ SqL K H b ys)
    (hs : ∀ i x y T σ H H', xs[i]? = some x → ys[i]? = some y → Pv i σ H → H T = none → Same H H' → H' T = some (.tup [x, y]) → g (.ref T) σ H' fun σ2 H2 => tb ⟨Pv (i + 1), rt, nx, Pv (i + 1)⟩ σ2 H2) (hd : ∀ σ H, Pv (min xs.length ys.length) σ H → nx σ H) :
    ∃ p q us ws, [V.ref a, .ref b] = [.ref p, .ref q] ∧ SqL K H p us ∧ SqL K H q ws ∧ WFor (Itz K p q) g tb nx rt σ H :=
  ⟨a, b, xs, ys, rfl, hx, hy, wfor_it (walk_zip rfl) Pv h0 hG (fun i v σ H H' hi p ⟨T, x, y, e, nT, e2, h1, h2⟩ => by subst e e2; exact hs i x y T σ H _ h1 h2 p nT (Same.one nT) upd_same) hd⟩
theorem fl_enum (Pv : Nat → L2.St → Hp → Prop) (hx : SqL K H a xs) (h0 : Pv 0 σ H) (hG : ∀ i σ H, i ≤ xs.length → Pv i σ H → SqL K H a xs)
    (hs : ∀ i x T σ H H', xs[i]? = some x → Pv i σ H → H T = none → Same H H' → H' T = some (.tup [.int (i : Nat), x]) → g (.ref T) σ H' fun σ2 H2 => tb ⟨Pv (i + 1), rt, nx, Pv (i + 1)⟩ σ2 H2) (hd : ∀ σ H, Pv xs.length σ H → nx σ H) :
    ∃ p us, [V.ref a] = [.ref p] ∧ SqL K H p us ∧ WFor (Ite K p) g tb nx rt σ H :=
  ⟨a, xs, rfl, hx, wfor_it walk_enum Pv h0 hG (fun i v σ H H' hi p ⟨T, x, y, e, nT, e2, h1, h2⟩ => by
    subst e e2
    obtain rfl : V.int (i : Nat) = x := Option.some.inj h1
    exact hs i y T σ H _ h2 p nT (Same.one nT) upd_same) hd⟩
theorem fl_rev (Pv : Nat → L2.St → Hp → Prop) (hx : SqL K H a xs) (h0 : Pv 0 σ H) (hG : ∀ i σ H, i ≤ xs.length → Pv i σ H → SqL K H a xs)
    (hs : ∀ i x σ H, i < xs.length → xs[xs.length - 1 - i]? = some x → Pv i σ H → g x σ H fun σ2 H2 => tb ⟨Pv (i + 1), rt, nx, Pv (i + 1)⟩ σ2 H2) (hd : ∀ σ H, Pv xs.length σ H → nx σ H) :
    ∃ (p : Addr) (us : List V), V.ref a = .ref p ∧ ((SqL K H p us ∧ WFor (Itv K p us.length) g tb nx rt σ H) ∨ (SqT K H p us ∧ WFor (RT.ItvT K p us.length) g tb nx rt σ H)) :=
  ⟨a, xs, rfl, .inl ⟨hx, wfor_it walk_rev Pv h0 hG (fun i x σ H H' hi p ⟨e, h⟩ => by subst e; exact hs i x σ _ hi h p) hd⟩⟩
/-- [e for x, y in zip(xs, ys) if ..], its names at i and j -/
theorem wipe2 (σ : L2.St) (i j : Nat) (x y : Option V) (h : i ≠ j) : wipe (((wipe σ [i, j]).set i x).set j y) [i, j] = wipe σ [i, j] := by
  show ((((((σ.set j none).set i none).set i x).set j y).set j none).set i none) = (σ.set j none).set i none
  apply List.ext_getElem?
  intro k
  simp only [List.getElem?_set, List.length_set]
  grind
theorem lc_zip {i0 j0 : Nat} (hij : i0 ≠ j0) (Pv : Addr → Nat → List V → Hp → Prop) (hx : SqL K H a xs) (hy : SqL K H b ys) (h0 : ∀ D H', H D = none → Same H H' → H' D = some (.lst []) → Pv D 0 [] H')
    (hG : ∀ D, H D = none → ∀ i zs H', i ≤ min xs.length ys.length → H' D = some (.lst zs) → Pv D i zs H' → SqL K H' a xs ∧ SqL K H' b ys)
    (hs : ∀ D, H D = none → ∀ i x y zs H0 H', xs[i]? = some x → ys[i]? = some y → zs.length ≤ i → H0 D = some (.lst zs) → Pv D i zs H0 → Same H0 H' → tt (((wipe σ [i0, j0]).set i0 (some x)).set j0 (some y)) H' fun b H3 => if b = true then te (((wipe σ [i0, j0]).set i0 (some x)).set j0 (some y)) H3 fun y H4 => LcEnd D (Pv D) i y H4 else LcSkip D (Pv D) i H3)
    (hd : ∀ D, H D = none → ∀ zs H', zs.length ≤ min xs.length ys.length → H' D = some (.lst zs) → Pv D (min xs.length ys.length) zs H' → Q (.ref D) H') :
    ∃ p q us ws, [V.ref a, .ref b] = [.ref p, .ref q] ∧ SqL K H p us ∧ SqL K H q ws ∧ ∀ D, H D = none → WLc (Itz K p q) (gSeq K 2 (gCons (gName i0) (gCons (gName j0) gNil))) tt te [i0, j0] σ D H Q :=
  ⟨a, b, xs, ys, rfl, hx, hy, wlc_it (walk_zip rfl) Pv h0 hG (fun D hD i v zs H0 H' hi hl e p ⟨T, x, y, ev, nT, e2, h1, h2⟩ => by
    subst ev e2
    exact w_seqT (SqT.of upd_same) rfl (w_gCons (w_gName (w_gCons (w_gName (w_gNil ⟨wipe2 _ _ _ _ _ hij, hs D hD i x y zs H0 _ h1 h2 hl e p (Same.one nT)⟩)))))) hd⟩
end
/-! ### isinstance -/
section
variable {K : PySem.W.Frag} {H : Hp} {Q : VK} {x : V}
theorem call_isiA {X : Cx} {K : PySem.W.Frag} (hK : X.K = K) : CallR X (.builtin "isinstance") (rIsi K) := by
  subst hK
  exact call_isi
theorem pe_gS {X : Cx} {x z : Str} {pos : Pos} (hg : Gl X x) (hm : ∃ t, X.mg x = some (.str z t)) (hd : (x == ("__debug__" : Str)) = false := by decide) : PE X (.Name x pos) (tC (.str z)) := by
  obtain ⟨t, hm⟩ := hm
  exact pe_glob hg hm ⟨t, rfl⟩ hd
theorem pe_gI {X : Cx} {x : Str} {z : Int} {pos : Pos} (hg : Gl X x) (hm : ∃ t, X.mg x = some (.int z t)) (hd : (x == ("__debug__" : Str)) = false := by decide) : PE X (.Name x pos) (tC (.int z)) := by
  obtain ⟨t, hm⟩ := hm
  exact pe_glob hg hm ⟨t, rfl⟩ hd
theorem w_isi {T : String} {a : String} {b : Bool} (h : TyX K H x (.type a)) (e : kitB a T = some b) (k : Q (.bl b) H) : rIsi K [x, .ty T] H Q := ⟨x, .ty T, .type a, .type T, b, rfl, .ty T, h, kit_ty e, k⟩
theorem ty_int {n : Int} : TyX K H (.int n) (.type "int") := .base (.int n)
theorem ty_bl {n : Bool} : TyX K H (.bl n) (.type "bool") := .base (.bl n)
theorem ty_str {n : Str} : TyX K H (.str n) (.type "str") := .base (.str n)
theorem ty_non : TyX K H .non (.type "NoneType") := .base .non
theorem ty_lst {a : Addr} {xs : List V} (h : H a = some (.lst xs)) : TyX K H (.ref a) (.type "list") := .base (.lst h)
theorem ty_sqT {a : Addr} {xs : List V} (h : SqT K H a xs) : TyX K H (.ref a) (.type "tuple") := by
  rcases h with (h | ⟨o, h⟩) | ⟨o, its, n, e, c, _⟩
  · exact .base (.tup h)
  · exact .fTuple h
  · exact .kTuple e c
theorem ty_tup {a : Addr} {xs : List V} (h : H a = some (.tup xs)) : TyX K H (.ref a) (.type "tuple") := .base (.tup h)
theorem ty_dic {a : Addr} {xs : List (Key × V)} (h : H a = some (.dK xs)) : TyX K H (.ref a) (.type "dict") := .base (.dK h)
/-- isinstance with a written tuple of classes -/
def kitAnyB (a : String) : List String → Option Bool
  | [] => some false
  | T :: r => match kitB a T with
    | some true => some true
    | some false => kitAnyB a r
    | none => none
theorem kitAnyB_ok {a : String} : ∀ {Ts : List String} {b : Bool}, kitAnyB a Ts = some b → PySem.W.kitAny K (.type a) (Ts.map Value.type) = some b
  | [], b, h => by
    have : some false = some b := h
    rw [← this]; exact kitAny_nil
  | T :: r, b, h => by
    unfold kitAnyB at h
    cases e : kitB a T with
    | none => rw [e] at h; cases h
    | some c =>
      rw [e] at h
      cases c with
      | true =>
        have : some true = some b := h
        cases this
        exact kitAny_cons (kit_ty e) (fun z => nomatch z) (fun _ => rfl)
      | false => exact kitAny_cons (kit_ty e) (fun _ => kitAnyB_ok h) (fun z => nomatch z)
theorem paired_ty : ∀ Ts : List String, Paired ClsV (Ts.map V.ty) (Ts.map Value.type)
  | [] => .nil
  | T :: r => .cons (.ty T) (paired_ty r)
theorem call_isiTA {X : Cx} {K : PySem.W.Frag} (hK : X.K = K) : CallR X (.builtin "isinstance") (rIsiT K) := by
  subst hK
  exact call_isiT
theorem w_isiT {tp : Addr} {a : String} {b : Bool} (Ts : List String) (h1 : H tp = some (.tup (Ts.map V.ty))) (h : TyX K H x (.type a)) (e : kitAnyB a Ts = some b) (k : Q (.bl b) H) : rIsiT K [x, .ref tp] H Q :=
  ⟨x, tp, _, .type a, _, b, rfl, h1, paired_ty Ts, h, kitAnyB_ok e, k⟩
/-- tuple(xs), list(xs) -/
def rTupOf (K : PySem.W.Frag) : List V → Hp → VK → Prop := fun xs H Q => ∃ p ys, xs = [.ref p] ∧ ((SqL K H p ys ∧ NewO (.tup ys) H Q) ∨ (SqT K H p ys ∧ Q (.ref p) H))
theorem call_tupA {X : Cx} {K : PySem.W.Frag} (hK : X.K = K) : CallR X (.type "tuple") (rTupOf K) := by
  subst hK
  exact call_tuple_of
theorem w_tupL {p : Addr} {ys : List V} (h : SqL K H p ys) (k : NewO (.tup ys) H Q) : rTupOf K [.ref p] H Q := ⟨p, ys, rfl, .inl ⟨h, k⟩⟩
theorem w_tupT {p : Addr} {ys : List V} (h : SqT K H p ys) (k : Q (.ref p) H) : rTupOf K [.ref p] H Q := ⟨p, ys, rfl, .inr ⟨h, k⟩⟩
def rListOf (K : PySem.W.Frag) : List V → Hp → VK → Prop := fun xs H Q => ∃ p ys, xs = [.ref p] ∧ (SqL K H p ys ∨ SqT K H p ys) ∧ NewO (.lst ys) H Q
theorem call_listA {X : Cx} {K : PySem.W.Frag} (hK : X.K = K) : CallR X (.type "list") (rListOf K) := by
  subst hK
  exact call_list_of
theorem w_listL {p : Addr} {ys : List V} (h : SqL K H p ys) (k : NewO (.lst ys) H Q) : rListOf K [.ref p] H Q := ⟨p, ys, rfl, .inl h, k⟩
theorem w_listT {p : Addr} {ys : List V} (h : SqT K H p ys) (k : NewO (.lst ys) H Q) : rListOf K [.ref p] H Q := ⟨p, ys, rfl, .inr h, k⟩
theorem w_slT {σ : L2.St} {lo hi : Option Int} {a : Addr} {xs : List V} (h : SqT K H a xs) (n : ¬ (HT.sIx xs.length 0 lo = 0 ∧ HT.sIx xs.length xs.length hi = xs.length)) (k : NewO (.tup (cutV xs lo hi)) H Q) : rSlAny K (.ref a) lo hi H Q :=
  .inr (.inr ⟨a, xs, rfl, h, fun z => (n z).elim, fun _ => k⟩)
/-- t[1:] -/
theorem cut1 (x : V) (xs : List V) : cutV (x :: xs) (some 1) none = xs := by
  unfold cutV
  have e : HT.sIx (x :: xs).length 0 (some 1) = 1 := by
    show (if (1 : Int) < 0 then ((1 : Int) + ((x :: xs).length : Int)).toNat else min (1 : Int).toNat (x :: xs).length) = 1
    rw [if_neg (by decide), List.length_cons]
    show min 1 (xs.length + 1) = 1
    omega
  rw [e, HT.sIx_none, List.drop_one, List.tail_cons, List.take_of_length_le (by rw [List.length_cons]; omega)]
theorem w_slT1 {σ : L2.St} {a : Addr} {x : V} {xs : List V} (h : SqT K H a (x :: xs)) (k : NewO (.tup xs) H Q) : rSlAny K (.ref a) (some 1) none H Q := w_slT (σ := σ) h (by
  intro ⟨z, _⟩
  have e : HT.sIx (x :: xs).length 0 (some 1) = 1 := by
    show (if (1 : Int) < 0 then ((1 : Int) + ((x :: xs).length : Int)).toNat else min (1 : Int).toNat (x :: xs).length) = 1
    rw [if_neg (by decide), List.length_cons]
    show min 1 (xs.length + 1) = 1
    omega
  rw [e] at z
  cases z) (by rw [cut1]; exact k)
/-- xs[::-1] -/
theorem w_revL {σ : L2.St} {te : TE} (k : te σ H fun x H1 => ∃ a xs, x = .ref a ∧ SqL K H1 a xs ∧ NewO (.lst xs.reverse) H1 Q) : tRevL K te σ H Q := k
theorem w_ref2 {a : Addr} {xs : List V} {R : Addr → List V → Prop} (k : R a xs) : ∃ b ys, V.ref a = .ref b ∧ R b ys := ⟨a, xs, rfl, k⟩
/-- dicts: displays, look-ups -/
theorem w_disp {σ : L2.St} {trs : List (TE × TE)} (k : ∀ p H', H p = none → Same H H' → H' p = some (.dK []) → tPairs trs σ H' fun ps H2 => H2 p = some (.dK []) ∧ ∃ kvs : List (Key × V), ps = kvs.map (fun kv => (kV kv.1, kv.2)) ∧ kvs.length ≤ 15 ∧ ChgO p (.dK (mergeK [] kvs)) H2 (Q (.ref p))) : tDisp trs σ H Q :=
  fun p hp => k p _ hp (Same.one hp) upd_same
theorem w_pairN {σ : L2.St} {R : List (V × V) → Hp → Prop} (k : R [] H) : tPairs [] σ H R := k
theorem w_pairC {σ : L2.St} {tk tv : TE} {r : List (TE × TE)} {R : List (V × V) → Hp → Prop} (k : tk σ H fun x H1 => tv σ H1 fun y H2 => tPairs r σ H2 fun ps H3 => R ((x, y) :: ps) H3) : tPairs ((tk, tv) :: r) σ H R := k
theorem w_dget {σ : L2.St} {td ty : TE} (k : td σ H fun x H1 => ty σ H1 fun y H2 => ∃ a v, x = .ref a ∧ DGet H2 a y (some v) ∧ Q v H2) : tDGet td ty σ H Q := k
theorem w_dgotS {a : Addr} {kvs : List (Key × V)} {z : Str} {v : V} {R : V → Prop} (h : H a = some (.dK kvs)) (e : valV kvs (.inr z) = some v) (k : R v) : ∃ b v, V.ref a = .ref b ∧ DGet H b (.str z) (some v) ∧ R v := ⟨a, v, rfl, by rw [← e]; exact DGet.k (k := .inr z) h, k⟩
theorem w_dgotI {a : Addr} {kvs : List (Key × V)} {z : Int} {v : V} {R : V → Prop} (h : H a = some (.dK kvs)) (e : valV kvs (.inl z) = some v) (k : R v) : ∃ b v, V.ref a = .ref b ∧ DGet H b (.int z) (some v) ∧ R v := ⟨a, v, rfl, by rw [← e]; exact DGet.k (k := .inl z) h, k⟩
/-- texts in lists, and their == -/
theorem dpAll_strs : ∀ ns : List Str, DpAll K H (ns.map V.str) (ns.map PyData.str)
  | [] => .nil
  | n :: ns => .cons (.str n) (dpAll_strs ns)
theorem dp_strs {a : Addr} {ns : List Str} (h : SqL K H a (ns.map V.str)) : Dp K H (.ref a) (.list (ns.map PyData.str)) := .lst h (dpAll_strs ns)
theorem cleanAll_strs : ∀ ns : List Str, (ns.all PyData.strOk) = true → cleanAll (ns.map PyData.str) = true
  | [], _ => by simp [cleanAll]
  | n :: ns, h => by
    rw [List.all_cons, Bool.and_eq_true] at h
    rw [List.map_cons, cleanAll, cleanAll_strs ns h.2, clean, h.1]; rfl
theorem depthAll_strs : ∀ ns : List Str, PyData.depthAll (ns.map PyData.str) = 0
  | [] => by simp [PyData.depthAll]
  | n :: ns => by rw [List.map_cons, PyData.depthAll, depthAll_strs ns, PyData.depth]; rfl
theorem cmp_strs {ns : List Str} (h : (ns.all PyData.strOk) = true) : Cmp (.list (ns.map PyData.str)) := ⟨by rw [clean]; exact cleanAll_strs ns h, by rw [PyData.depth, depthAll_strs]; decide⟩
theorem map_str_inj {ns ms : List Str} : PyData.list (ns.map PyData.str) = .list (ms.map PyData.str) ↔ ns = ms := by
  constructor
  · intro h
    have h2 : ns.map PyData.str = ms.map PyData.str := by injection h
    exact (List.map_inj_right (f := PyData.str) (fun x y e => by injection e)).mp h2
  · intro h; rw [h]
theorem w_eqSL {p q : Addr} {ns ms : List Str} (h1 : SqL K H p (ns.map V.str)) (h2 : SqL K H q (ms.map V.str)) (o1 : (ns.all PyData.strOk) = true) (o2 : (ms.all PyData.strOk) = true) (k : Q (.bl (decide (ns = ms))) H) : rEqA K (.ref p) (.ref q) H Q :=
  w_eqP (dp_strs h1) (dp_strs h2) (cmp_strs o1) (cmp_strs o2) fun b hb => by
    rw [map_str_inj] at hb
    rw [show b = decide (ns = ms) by rw [Bool.eq_iff_iff, hb, decide_eq_true_eq]]
    exact k
theorem w_neSL {p q : Addr} {ns ms : List Str} (h1 : SqL K H p (ns.map V.str)) (h2 : SqL K H q (ms.map V.str)) (o1 : (ns.all PyData.strOk) = true) (o2 : (ms.all PyData.strOk) = true) (k : Q (.bl (!decide (ns = ms))) H) : rNeA K (.ref p) (.ref q) H Q :=
  w_neP (dp_strs h1) (dp_strs h2) (cmp_strs o1) (cmp_strs o2) fun b hb => by
    rw [ne_eq, map_str_inj] at hb
    rw [show b = !decide (ns = ms) by rw [Bool.eq_iff_iff, hb]; simp]
    exact k
/-- a text cut by another one -/
def rSplit : V → List V → Hp → VK → Prop := fun x xs H Q => ∃ a b, x = .str a ∧ xs = [.str b] ∧ (b.length == 0) = false ∧ a.length + 2 ≤ sizeLine ∧ rNewStrs (Txt.split a b) H Q
theorem mt_splitA {X : Cx} : MtR X "str.split" rSplit := mt_split
theorem w_split {a b : Str} {ys : List Str} (e : Txt.split a b = ys) (hb : (b.length == 0) = false) (ha : a.length + 2 ≤ sizeLine) (k : NewO (.lst (ys.map V.str)) H Q) : rSplit (.str a) [.str b] H Q := ⟨a, b, rfl, rfl, hb, ha, by rw [e]; exact k⟩
end

/-! ### what no tuple loses -/
def TS (H H' : Hp) : Prop := ∀ b xs, (H b = some (.tup xs) → H' b = some (.tup xs)) ∧ ∀ u, H b = some (.frz u (.tup xs)) → H' b = some (.frz u (.tup xs))
theorem TS.of {H H' : Hp} (e : Same H H') : TS H H' := fun b _ => ⟨e b _, fun _ => e b _⟩
theorem TS.butL {s : Addr} {H H' : Hp} {ys : List V} (e : But s H H') (t : H s = some (.lst ys)) : TS H H' := fun b _ => ⟨fun h => e b _ (ne_of h t (by intro q; cases q)) h, fun _ h => e b _ (ne_of h t (by intro q; cases q)) h⟩
theorem TS.butS {s : Addr} {H H' : Hp} (e : But s H H') (t : Stm H s) : TS H H' := by
  obtain ⟨_, _, _, t⟩ := t
  exact TS.butL e t
theorem TS.butI {s C dx : Addr} {fs : List (Str × V)} {H H' : Hp} (e : But s H H') (t : H s = some (.ins C dx fs)) : TS H H' := fun b _ => ⟨fun h => e b _ (ne_of h t (by intro q; cases q)) h, fun _ h => e b _ (ne_of h t (by intro q; cases q)) h⟩
theorem TS.trans {H H1 H2 : Hp} (a : TS H H1) (b : TS H1 H2) : TS H H2 := fun c xs => ⟨fun h => (b c xs).1 ((a c xs).1 h), fun u h => (b c xs).2 u ((a c xs).2 u h)⟩
theorem TS.refl (H : Hp) : TS H H := fun _ _ => ⟨fun h => h, fun _ h => h⟩
theorem TS.sqT {K : PySem.W.Frag} {H H' : Hp} {a : Addr} {xs : List V} (e : TS H H') (h : SqT K H a xs) : SqT K H' a xs := by
  rcases h with (h | ⟨o, h⟩) | h
  · exact .inl (.inl ((e a xs).1 h))
  · exact .inl (.inr ⟨o, (e a xs).2 o h⟩)
  · exact .inr h
mutual
/-- tuples all the way -/
def tupD : PyData → Bool
  | .none => true
  | .int _ => true
  | .str _ => true
  | .bool _ => true
  | .list _ => false
  | .tuple xs => tupAll xs
  | .dict _ => false
def tupAll : List PyData → Bool
  | [] => true
  | x :: xs => tupD x && tupAll xs
end
mutual
theorem dp_ts {K : PySem.W.Frag} {H H' : Hp} (e : TS H H') : ∀ (d : PyData) (v : V), tupD d = true → Dp K H v d → Dp K H' v d
  | .none, _, _, h => by cases h; exact .non
  | .int _, _, _, h => by cases h; exact .int _
  | .str _, _, _, h => by cases h; exact .str _
  | .bool _, _, _, h => by cases h; exact .bl _
  | .list _, _, t, _ => by simp [tupD] at t
  | .tuple ds, _, t, h => by
    cases h with
    | tup hs ha => exact .tup (e.sqT hs) (dpAll_ts e ds _ (by simpa [tupD] using t) ha)
  | .dict _, _, t, _ => by simp [tupD] at t
theorem dpAll_ts {K : PySem.W.Frag} {H H' : Hp} (e : TS H H') : ∀ (ds : List PyData) (vs : List V), tupAll ds = true → DpAll K H vs ds → DpAll K H' vs ds
  | [], _, _, h => by cases h; exact .nil
  | d :: ds, _, t, h => by
    rw [tupAll, Bool.and_eq_true] at t
    cases h with
    | cons h1 h2 => exact .cons (dp_ts e d _ t.1 h1) (dpAll_ts e ds _ t.2 h2)
end
section
variable {K : PySem.W.Frag} {H : Hp}
theorem dp_tup {v : V} {ds : List PyData} (h : Dp K H v (.tuple ds)) : ∃ a xs, v = .ref a ∧ SqT K H a xs ∧ DpAll K H xs ds := by
  cases h with
  | tup hs ha => exact ⟨_, _, rfl, hs, ha⟩
theorem dp_str {v : V} {x : Str} (h : Dp K H v (.str x)) : v = .str x := by cases h; rfl
theorem dp_int {v : V} {x : Int} (h : Dp K H v (.int x)) : v = .int x := by cases h; rfl
theorem dpa_nil {vs : List V} (h : DpAll K H vs []) : vs = [] := by cases h; rfl
theorem dpa_cons {vs : List V} {d : PyData} {ds : List PyData} (h : DpAll K H vs (d :: ds)) : ∃ v r, vs = v :: r ∧ Dp K H v d ∧ DpAll K H r ds := by
  cases h with
  | cons a b => exact ⟨_, _, rfl, a, b⟩
theorem dpa_len : ∀ {ds : List PyData} {vs : List V}, DpAll K H vs ds → vs.length = ds.length
  | [], _, h => by cases h; rfl
  | d :: ds, _, h => by
    cases h with
    | cons a b => rw [List.length_cons, List.length_cons, dpa_len b]
theorem dpa_app : ∀ {ds es : List PyData} {vs us : List V}, DpAll K H vs ds → DpAll K H us es → DpAll K H (vs ++ us) (ds ++ es)
  | [], _, _, _, h, h' => by cases h; exact h'
  | d :: ds, _, _, _, h, h' => by
    cases h with
    | cons a b => exact .cons a (dpa_app b h')
theorem dpa_one {v : V} {d : PyData} (h : Dp K H v d) : DpAll K H [v] [d] := .cons h .nil
theorem dpa_at : ∀ {ds : List PyData} {vs : List V} {i : Nat} {d : PyData}, DpAll K H vs ds → ds[i]? = some d → ∃ v, vs[i]? = some v ∧ Dp K H v d
  | [], _, i, _, _, e => by simp at e
  | d :: ds, _, 0, _, h, e => by
    cases h with
    | cons a b => simp at e; subst e; exact ⟨_, rfl, a⟩
  | d :: ds, _, i + 1, _, h, e => by
    cases h with
    | cons a b =>
      have q := dpa_at (ds := ds) (i := i) b (by simpa using e)
      exact q
theorem dpa_at' : ∀ {ds : List PyData} {vs : List V} {i : Nat} {v : V}, DpAll K H vs ds → vs[i]? = some v → ∃ d, ds[i]? = some d ∧ Dp K H v d
  | [], _, i, _, h, e => by cases h; simp at e
  | d :: ds, _, 0, _, h, e => by
    cases h with
    | cons a b => simp at e; subst e; exact ⟨_, rfl, a⟩
  | d :: ds, _, i + 1, _, h, e => by
    cases h with
    | cons a b =>
      have q := dpa_at' (ds := ds) (i := i) b (by simpa using e)
      exact q
theorem tupAll_app : ∀ (a b : List PyData), tupAll (a ++ b) = (tupAll a && tupAll b)
  | [], _ => by simp [tupAll]
  | x :: a, b => by rw [List.cons_append, tupAll, tupAll, tupAll_app a b, Bool.and_assoc]
theorem cleanAll_app : ∀ (a b : List PyData), cleanAll (a ++ b) = (cleanAll a && cleanAll b)
  | [], _ => by simp [cleanAll]
  | x :: a, b => by rw [List.cons_append, cleanAll, cleanAll, cleanAll_app a b, Bool.and_assoc]
end

/-! ### places -/
theorem atI_of {α : Type} {xs : List α} {n : Int} {v : α} (h0 : 0 ≤ n) (h : xs[n.toNat]? = some v) : atI xs n = some v := by
  have e : ((n.toNat : Nat) : Int) = n := Int.toNat_of_nonneg h0
  have q := atI_nat h
  rw [e] at q
  exact q
theorem at0 {α : Type} {a : α} {xs : List α} : atI (a :: xs) 0 = some a := atI_of (Int.le_refl 0) rfl
theorem at1 {α : Type} {a b : α} {xs : List α} : atI (a :: b :: xs) 1 = some b := atI_of (by decide) rfl
theorem at2 {α : Type} {a b c : α} {xs : List α} : atI (a :: b :: c :: xs) 2 = some c := atI_of (by decide) rfl
theorem atI_some {α : Type} {xs : List α} {n : Int} (h0 : 0 ≤ n) (h : n < xs.length) : ∃ v, atI xs n = some v ∧ v ∈ xs ∧ xs[n.toNat]? = some v := by
  have hl : n.toNat < xs.length := by omega
  refine ⟨xs[n.toNat], atI_of h0 (List.getElem?_eq_getElem hl), List.getElem_mem hl, List.getElem?_eq_getElem hl⟩

theorem cdw {i j : Int} (h : 0 < j) (h2 : j < 2 ^ 200) : CDivW i j := wide_div (b := 200) h (by omega) (by decide) (by decide)
/-! ### defs by names -/
/-- the def at f keeps the promise sp -/
def FnA (P : Program) (w : World) (K : PySem.W.Frag) (mg : Str → Option Value) (f : Addr) (k : Nat) (ps : List Str) (sp : Sp) : Prop :=
  ∃ fd, (∀ base, FnOk P w K mg base CX0 k f fd ps sp) ∧ Binds K fd ps [] ∧ ∀ (s : Shared) (us : List Value), us.length = ps.length → BindsTo s fd ⟨us, []⟩ (ps.zip us)
/-- the def of the name x keeps the promise sp -/
structure Fn (P : Program) (w : World) (K : PySem.W.Frag) (mg : Str → Option Value) (x : Str) (k : Nat) (ps : List Str) (sp : Sp) : Prop where
  ex : FnA P w K mg (He.ga K x) k ps sp
  gl : mg x = some (.ref (He.ga K x))
  kp : PySem.W.keepIn K (.ref (He.ga K x)) = true
section
variable {X : Cx} {k : Nat} {x : Str} {ps : List Str} {sp : Sp} {p pos : Pos} {e : Expr} {es : List Expr} {t : TA}
theorem pe_fn (F : Fn X.prog X.w X.K X.mg x k ps sp) (hr : Room k X.A) (hg : Gl X x) (ha : PA X (e :: es) t)
    (hdb : (x == ("__debug__" : Str)) = false := by decide) (he : starEach (e :: es) X.env = (false, eval e X.env) :: starEach es X.env := by rfl) (hpl : (backTo pos (starEach es X.env)).any (·.1) = false := by rfl) :
    PE X (.Call (.Name x p) (e :: es) [] pos) (tCall sp [] E0 t) := by
  obtain ⟨fd, G, b, _⟩ := F.ex
  exact pe_call (G X.base) hr hg F.gl F.kp b .nil pass0 ha hdb he hpl
theorem pe_fn0 (F : Fn X.prog X.w X.K X.mg x k ps sp) (hr : Room k X.A) (hg : Gl X x) (hdb : (x == ("__debug__" : Str)) = false := by decide) :
    PE X (.Call (.Name x p) [] [] pos) (tCall sp [] E0 tNil) := by
  obtain ⟨fd, G, b, _⟩ := F.ex
  exact pe_call0 (G X.base) hr hg F.gl F.kp b .nil pass0 hdb
end
/-- a def's data as the head tells it -/
theorem FnA.mk' {P : Program} {w : World} {K : PySem.W.Frag} {mg : Str → Option Value} {x q : Str} {k : Nat} {N ps : List Str} {sp : Sp} {args : Arguments} {body : List Stmt} {sc : Scope} {f : Addr} {fd : FuncData}
    (F : FunD K x q args body sc [] [] f fd) (S : FnScope N ps sc) (len : ∀ vs H Q E, sp vs H Q E → vs.length = ps.length)
    (hb : ∀ (kV doc pm : Value) (an : Option Addr) (cdv ct : Value) (us : List Value), us.length = ps.length → bindArgs (PySem.W.fnOf x q args body sc .none kV doc pm an cdv ct) ⟨us, []⟩ = pure (ps.zip us))
    (hbody : ∀ (base : Heap) (cdv : Value) (A : Around) (outer : List Env) (s : Shared) (H : Hp) (vs : List V) (Q : VK) (E : XK), Room k (A.deeper (envOfC q sc s.heap.objs.size f cdv)) → sp vs H Q E →
      ∃ t, PSs (cxOf CX0 P w K mg base N q sc f cdv A outer s H E).nox body t ∧ t ⟨fun _ H' => Q .non H', Q, fun _ _ => False, fun _ _ => False⟩ (start N vs) H) : FnA P w K mg f (k + 1) ps sp :=
  ⟨fd, fun base => F.ok S len fun cdv A outer s H vs Q E hr h => by
      obtain ⟨t, d, q⟩ := hbody base cdv A outer s H vs Q E hr h
      exact ⟨t, d.nox, q⟩, F.bindsN hb, F.bindsA hb⟩
theorem Fn.mk' {P : Program} {w : World} {K : PySem.W.Frag} {mg : Str → Option Value} {x : Str} {k : Nat} {N ps : List Str} {sp : Sp} {args : Arguments} {body : List Stmt} {sc : Scope} {fd : FuncData}
    (F : FunD K x x args body sc [] [] (He.ga K x) fd) (gl : mg x = some (.ref (He.ga K x))) (S : FnScope N ps sc) (len : ∀ vs H Q E, sp vs H Q E → vs.length = ps.length)
    (hb : ∀ (kV doc pm : Value) (an : Option Addr) (cdv ct : Value) (us : List Value), us.length = ps.length → bindArgs (PySem.W.fnOf x x args body sc .none kV doc pm an cdv ct) ⟨us, []⟩ = pure (ps.zip us))
    (hbody : ∀ (base : Heap) (cdv : Value) (A : Around) (outer : List Env) (s : Shared) (H : Hp) (vs : List V) (Q : VK) (E : XK), Room k (A.deeper (envOfC x sc s.heap.objs.size (He.ga K x) cdv)) → sp vs H Q E →
      ∃ t, PSs (cxOf CX0 P w K mg base N x sc (He.ga K x) cdv A outer s H E).nox body t ∧ t ⟨fun _ H' => Q .non H', Q, fun _ _ => False, fun _ _ => False⟩ (start N vs) H) : Fn P w K mg x (k + 1) ps sp :=
  ⟨FnA.mk' F S len hb hbody, gl, F.kp⟩
/-! ### classes of the text -/
def tMet (C : Addr) (m : Str) (sp : Sp) (to : TE) (t : TA) : TE := fun σ H Q => to σ H fun x H1 => ∃ a dx fs, x = .ref a ∧ H1 a = some (.ins C dx fs) ∧ fs.lookup m = none ∧ t σ H1 fun vs H2 => sp (x :: vs) H2 Q E0
def tMkI (C : Addr) (sp : Sp) (t : TA) : TE := fun σ H Q => t σ H fun vs H1 => ∀ x dx, H1 x = none → H1 dx = none → dx ≠ x → sp (.ref x :: vs) (upd (upd H1 dx (.own x)) x (.ins C dx [])) (fun v H2 => v = .non ∧ Q (.ref x) H2) E0
theorem tMet_eq (C : Addr) (m : Str) (sp : Sp) (to : TE) (t : TA) : tMeth C m sp [] E0 to t = tMet C m sp to t := by
  unfold tMeth tMet
  simp only [List.append_nil]
theorem tMkI_eq (C : Addr) (sp : Sp) (t : TA) : tMake C sp [] E0 t = tMkI C sp t := by
  unfold tMake tMkI
  simp only [List.append_nil]
theorem PE.or {X : Cx} {e : Expr} {t u : TE} (h : PE X e t) (h' : PE X e u) : PE X e (fun σ H Q => t σ H Q ∨ u σ H Q) := ⟨fun pins s σ H Q I q => by
  rcases q with q | q
  · exact h.run pins s σ H Q I q
  · exact h'.run pins s σ H Q I q⟩
section
variable {X : Cx} {K : PySem.W.Frag} {k : Nat} {m x : Str} {ps : List Str} {sp : Sp} {p pos apos : Pos} {o e : Expr} {es : List Expr} {to : TE} {t : TA} {C : Addr}
theorem pe_met {pl : Sem Bool} (F : FnA X.prog X.w X.K X.mg (He.ma K C m) k ps sp) (hK : X.K = K) (cl : Cls K C) (me : Meth K C m (He.ma K C m)) (hr : Room k X.A) (he : PE X o to) (ha : PA X (e :: es) t)
    (hst : starEach (e :: es) X.env = (false, eval e X.env) :: starEach es X.env := by rfl) (hpl : (backTo pos (starEach es X.env)).any (·.1) = false := by rfl)
    (ht : eval (.Call (.Attribute o m apos) (e :: es) [] pos) X.env = (do
      let ov ← eval o X.env
      standAt apos.atName
      let (f, first) ← holding [ov] (getMethod ov m pl)
      callWith pos f first (backTo pos (starEach (e :: es) X.env)) (backToKw pos (keywordEach [] X.env))) := by rfl) : PE X (.Call (.Attribute o m apos) (e :: es) [] pos) (tMet C m sp to t) := by
  subst hK
  obtain ⟨fd, G, b, _⟩ := F
  rw [← tMet_eq]
  exact pe_meth he cl me (G X.base) hr b .nil pass0 ha hst hpl ht
theorem pe_met0 {pl : Sem Bool} (F : FnA X.prog X.w X.K X.mg (He.ma K C m) k ps sp) (hK : X.K = K) (cl : Cls K C) (me : Meth K C m (He.ma K C m)) (hr : Room k X.A) (he : PE X o to)
    (ht : eval (.Call (.Attribute o m apos) [] [] pos) X.env = (do
      let ov ← eval o X.env
      standAt apos.atName
      let (f, first) ← holding [ov] (getMethod ov m pl)
      callWith pos f first (backTo pos (starEach [] X.env)) (backToKw pos (keywordEach [] X.env))) := by rfl) : PE X (.Call (.Attribute o m apos) [] [] pos) (tMet C m sp to tNil) := by
  subst hK
  obtain ⟨fd, G, b, _⟩ := F
  rw [← tMet_eq]
  exact pe_meth0 he cl me (G X.base) hr b .nil pass0 ht
theorem pe_mkI (F : FnA X.prog X.w X.K X.mg (He.ma K C "__init__") k ps sp) (hK : X.K = K) (M : Mk K C (He.ma K C "__init__")) (hm : X.mg x = some (.ref C)) (hr : Room (k + 1) X.A) (hg : Gl X x) (ha : PA X (e :: es) t)
    (hdb : (x == ("__debug__" : Str)) = false := by decide) (he : starEach (e :: es) X.env = (false, eval e X.env) :: starEach es X.env := by rfl) (hpl : (backTo pos (starEach es X.env)).any (·.1) = false := by rfl) :
    PE X (.Call (.Name x p) (e :: es) [] pos) (tMkI C sp t) := by
  subst hK
  obtain ⟨fd, G, b, _⟩ := F
  rw [← tMkI_eq]
  exact pe_make M (G X.base) hr hg hm b .nil pass0 ha hdb he hpl
theorem pe_mkI0 (F : FnA X.prog X.w X.K X.mg (He.ma K C "__init__") k ps sp) (hK : X.K = K) (M : Mk K C (He.ma K C "__init__")) (hm : X.mg x = some (.ref C)) (hr : Room (k + 1) X.A) (hg : Gl X x)
    (hdb : (x == ("__debug__" : Str)) = false := by decide) : PE X (.Call (.Name x p) [] [] pos) (tMkI C sp tNil) := by
  subst hK
  obtain ⟨fd, G, b, _⟩ := F
  rw [← tMkI_eq]
  exact pe_make0 M (G X.base) hr hg hm b .nil pass0 hdb
theorem pe_fldK {f : Str} (hK : X.K = K) (he : PE X o to) (hb : attributeBase o f X.env (eval o X.env) = eval o X.env := by rfl) : PE X (.Attribute o f pos) (tFld K to f) := by
  subst hK
  exact pe_fld he hb
end
section
variable {K : PySem.W.Frag} {σ : L2.St} {H : Hp} {Q : VK} {p C dx : Addr} {fs : List (Str × V)} {m f : Str} {v y : V} {sp : Sp} {to tv : TE} {t : TA} {nx : L2.St → Hp → Prop} {rt : VK} {bk ct : L2.St → Hp → Prop}
theorem w_met (k : to σ H fun x H1 => ∃ a dx fs, x = .ref a ∧ H1 a = some (.ins C dx fs) ∧ fs.lookup m = none ∧ t σ H1 fun vs H2 => sp (x :: vs) H2 Q E0) : tMet C m sp to t σ H Q := k
theorem w_metAt {R : Prop} (h : H p = some (.ins C dx fs)) (l : fs.lookup m = none) (k : R) : ∃ a dx fs, V.ref p = .ref a ∧ H a = some (.ins C dx fs) ∧ fs.lookup m = none ∧ R := ⟨p, dx, fs, rfl, h, l, k⟩
def NewI (C : Addr) (sp : Sp) (vs : List V) (H : Hp) (Q : VK) : Prop := ∀ x dx, H x = none → H dx = none → dx ≠ x → sp (.ref x :: vs) (upd (upd H dx (.own x)) x (.ins C dx [])) (fun v H2 => v = .non ∧ Q (.ref x) H2) E0
theorem w_mkI (k : t σ H fun vs H1 => NewI C sp vs H1 Q) : tMkI C sp t σ H Q := k
theorem w_newI {vs : List V} (k : ∀ x dx H', H x = none → Same H H' → H' x = some (.ins C dx []) → sp (.ref x :: vs) H' (fun v H2 => v = .non ∧ Q (.ref x) H2) E0) : NewI C sp vs H Q := fun x dx hx hdx ne =>
  k x dx _ hx (fun b o e => by
    rw [upd_ne (ne_of_none e hx), upd_ne (ne_of_none e hdx)]
    exact e) upd_same
theorem w_fld (k : to σ H fun x H1 => ∃ a C dx fs v, x = .ref a ∧ H1 a = some (.ins C dx fs) ∧ Cls K C ∧ NoAttr K C f ∧ fs.lookup f = some v ∧ Q v H1) : tFld K to f σ H Q := k
theorem w_fldAt {R : V → Prop} (h : H p = some (.ins C dx fs)) (cl : Cls K C) (na : NoAttr K C f) (l : fs.lookup f = some v) (k : R v) : ∃ a C dx fs v, V.ref p = .ref a ∧ H a = some (.ins C dx fs) ∧ Cls K C ∧ NoAttr K C f ∧ fs.lookup f = some v ∧ R v := ⟨p, C, dx, fs, v, rfl, h, cl, na, l, k⟩
theorem w_sfld (k : tv σ H fun y H1 => to σ H1 fun x H2 => ∃ a C dx fs, x = .ref a ∧ H2 a = some (.ins C dx fs) ∧ Cls K C ∧ NoAttr K C f ∧ fs.length < 1000 ∧ ChgO a (.ins C dx (putF f y fs)) H2 (nx σ)) : sFld K to tv f ⟨nx, rt, bk, ct⟩ σ H := k
theorem w_sfldAt {S : Hp → Prop} {gs : List (Str × V)} (h : H p = some (.ins C dx fs)) (cl : Cls K C) (na : NoAttr K C f) (hl : fs.length < 1000) (e : putF f y fs = gs) (k : ChgO p (.ins C dx gs) H S) :
    ∃ a C dx fs, V.ref p = .ref a ∧ H a = some (.ins C dx fs) ∧ Cls K C ∧ NoAttr K C f ∧ fs.length < 1000 ∧ ChgO a (.ins C dx (putF f y fs)) H S := ⟨p, C, dx, fs, rfl, h, cl, na, hl, by rw [e]; exact k⟩
end

end J
namespace J
open PySem PySem.Spec PyProof.Rows L2
--plain
/-! ### exceptions as values: made by an own class with its own __init__; RowsError.__init__(self, ..) of an own class -/
section
open PySem PySem.Spec PyProof.Rows
namespace EXV
/-- what C's __init__ answers: None; the thing itself goes on -/
def mkQ (a : Addr) (Q : VK) : VK := fun v H2 => v = .non ∧ Q (.ref a) H2
/-- C(e, ..) as a value: the thing stays as it is left by C's __init__ -/
def tMkV (C : Addr) (sp : Sp) (ta : TA) : TE := fun σ H Q => ta σ H fun vs H1 => vs.length ≤ 1000 ∧ ∀ a, H1 a = none → sp (.ref a :: vs) (upd H1 a (exo a C none)) (mkQ a Q) (fun _ _ _ => False)
theorem w_mkV {C : Addr} {sp : Sp} {ta : TA} {σ : L2.St} {H : Hp} {Q : VK} (k : ta σ H fun vs H1 => vs.length ≤ 1000 ∧ ∀ a, H1 a = none → sp (.ref a :: vs) (upd H1 a (exo a C none)) (mkQ a Q) (fun _ _ _ => False)) : tMkV C sp ta σ H Q := k
section
variable {X : Cx} {e : Expr} {es : List Expr} {ta : TA} {p p1 p2 pos : Pos}
theorem run_mkV {CX : CXT} {C fI : Addr} {k : Nat} {fd : FuncData} {ps : List Str} {sp : Sp} {pins : List (Addr × Obj)} {σ : L2.St} {H1 : Hp} {s1 : Shared} {Q : VK} {vs : List V} {us : List Value} (T : OexC X.K C) (iC : PySem.W.findIn X.K (.ref C) "__init__" = some (some (.ref fI))) (tI : PySem.W.typeIn X.K (.ref fI) = some (.type "function"))
    (F1 : FnOk X.prog X.w X.K X.mg X.base CX k fI fd ps sp) (hr : Room (k + 1) X.A) (hb : Binds X.K fd ps []) (hx : Passes CX X (fun _ _ _ => False)) (I1 : Inv X pins σ H1 s1) (r1 : Vals vs us) (hz : vs.length ≤ 1000)
    (q1 : ∀ a, H1 a = none → sp (.ref a :: vs) (upd H1 a (exo a C none)) (mkQ a Q) (fun _ _ _ => False)) : wpAny (model X.prog X.w) X.A (call (.ref C) us) (EP X pins σ Q) X.xe s1 := by
  obtain ⟨nm, q, N, bs, bm, sn, sub, ab, col, dd, k0, k1, k2, k3, k5, hC, hbm⟩ := T.cls
  obtain ⟨hp, g, dr, tk, os⟩ := s1
  have new : hp.objs.size ≤ hp.objs.size + 1 := Nat.le_succ _
  have hq := q1 (hp.objs.size + 1) (I1.hok.fresh new)
  have keep : ∀ b o, hp.get? b = some o → ((hp.push (PySem.W.kdv_tup us)).push (PySem.HandSPX.excO C hp.objs.size)).get? b = some o := fun b o z => Heap.get?_push_of_some _ (Heap.get?_push_of_some _ z)
  have at1 : ((hp.push (PySem.W.kdv_tup us)).push (PySem.HandSPX.excO C hp.objs.size)).get? (hp.objs.size + 1) = some (PySem.HandSPX.excO C hp.objs.size) := by heap_get
  have I2 : Inv X pins σ (upd H1 (hp.objs.size + 1) (exo (hp.objs.size + 1) C none)) ⟨(hp.push (PySem.W.kdv_tup us)).push (PySem.HandSPX.excO C hp.objs.size), g, dr, tk, os⟩ :=
    I1.laid (t' := tk) (a := hp.objs.size + 1) (o := exo (hp.objs.size + 1) C none) (h' := (hp.push (PySem.W.kdv_tup us)).push (PySem.HandSPX.excO C hp.objs.size)) keep new (exo_ok at1)
  have r2 : Vals (V.ref (hp.objs.size + 1) :: vs) (Value.ref (hp.objs.size + 1) :: us) := .cons rfl r1
  have hl : (Value.ref (hp.objs.size + 1) :: us ++ []).length = ps.length := by
    rw [List.append_nil]
    have z := r2.length
    rw [F1.len _ _ _ _ hq] at z
    exact z.symm
  have hus : us.length ≤ sizeLine := by
    rw [← Paired.length r1, sizeLine_eq]
    omega
  have bd := hb _ (Value.ref (hp.objs.size + 1) :: us) I2.kIn hl
  rw [List.append_nil] at bd
  refine wpAny_call (PySem.HandSPX.call_own F.excBase_ValueError (fun Y => PySem.HandSPX.refsVE_contains Y bm hbm) (I1.kIn _ _ hC) (PySem.W.looks_findIn I1.kIn iC) (fun self => PySem.W.bind_fn I1.kIn self tI) hus
    (codeAny_mono (F1.run _ X.stack _ _ ⟨Value.ref (hp.objs.size + 1) :: us, []⟩ (Value.ref (hp.objs.size + 1) :: us) _ _ (fun _ _ _ => False) (hr.make C us []) (I2.env0.make C us []) bd r2 hq) fun r s' hq' => ?_))
  cases r with
  | error er => exact hx pins σ _ _ er s' I2 hq'
  | ok fl =>
    cases fl with
    | ret u =>
      obtain ⟨v, H2, os2, bare2, un2, hok2, rv, ev, q2⟩ := hq'
      subst ev
      exact ⟨rv, .ref (hp.objs.size + 1), H2, I2.call' (ch := []) os2 un2 hok2 bare2 (fun b z => absurd z (by simp)), rfl, q2⟩
    | next => exact False.elim hq'
    | brk => exact False.elim hq'
    | cont => exact False.elim hq'
theorem pe_mkV {CX : CXT} {x : Str} {C fI : Addr} {k : Nat} {fd : FuncData} {ps : List Str} {sp : Sp} (T : OexC X.K C) (iC : PySem.W.findIn X.K (.ref C) "__init__" = some (some (.ref fI))) (tI : PySem.W.typeIn X.K (.ref fI) = some (.type "function"))
    (F1 : FnOk X.prog X.w X.K X.mg X.base CX k fI fd ps sp) (hr : Room (k + 1) X.A) (hb : Binds X.K fd ps []) (hx : Passes CX X (fun _ _ _ => False)) (hg : Gl X x) (hm : X.mg x = some (.ref C)) (ha : PA X (e :: es) ta)
    (hdb : (x == ("__debug__" : Str)) = false := by decide) (he : starEach (e :: es) X.env = (false, eval e X.env) :: starEach es X.env := by rfl) (hpl : (backTo pos (starEach es X.env)).any (·.1) = false := by rfl) :
    PE X (.Call (.Name x p) (e :: es) [] pos) (tMkV C sp ta) := by
  refine ⟨fun pins s σ H Q I h => ?_⟩
  refine wpAny_Call_Name_kw (ld_glob I hg hm ?_ hdb)
  exact PySem.W.callWith_K (h₀ := X.base) I.ok.mod.kin T.kC (thn (ha.run pos pins s σ H _ I h) fun us s1 ⟨vs, H1, I1, r1, hz, q1⟩ => ⟨I1.kIn, run_mkV T iC tI F1 hr hb hx I1 r1 hz q1⟩) he hpl
theorem pe_mkV0 {CX : CXT} {x : Str} {C fI : Addr} {k : Nat} {fd : FuncData} {ps : List Str} {sp : Sp} (T : OexC X.K C) (iC : PySem.W.findIn X.K (.ref C) "__init__" = some (some (.ref fI))) (tI : PySem.W.typeIn X.K (.ref fI) = some (.type "function"))
    (F1 : FnOk X.prog X.w X.K X.mg X.base CX k fI fd ps sp) (hr : Room (k + 1) X.A) (hb : Binds X.K fd ps []) (hx : Passes CX X (fun _ _ _ => False)) (hg : Gl X x) (hm : X.mg x = some (.ref C)) (hdb : (x == ("__debug__" : Str)) = false := by decide) :
    PE X (.Call (.Name x p) [] [] pos) (tMkV C sp tNil) := by
  refine ⟨fun pins s σ H Q I h => ?_⟩
  refine wpAny_Call_Name_kw (ld_glob I hg hm ?_ hdb)
  exact PySem.W.callWith_K0 I.kIn T.kC (run_mkV (us := []) T iC tI F1 hr hb hx I .nil h.1 h.2)
/-- D.__init__(self, ..), D an own class that stands under ValueError and has no __init__ of its own -/
theorem pe_roinit {pl : Sem Bool} {x : Str} {D : Addr} {mc : Value} (hg : Gl X x) (hm : X.mg x = some (.ref D)) (cr : ClX.CRead X.K D mc) (vV : PySem.W.findCls X.K (.ref D) mc "__init__" = some (.val (.builtin "ValueError.__init__"))) (ha : PA X (e :: es) ta)
    (hdb : (x == ("__debug__" : Str)) = false := by decide)
    (hc : eval (.Call (.Attribute (.Name x p1) "__init__" p2) (e :: es) [] pos) X.env = (do
      let ov ← eval (.Name x p1) X.env
      standAt p2.atName
      let (f, first) ← holding [ov] (getMethod ov "__init__" pl)
      callWith pos f first (backTo pos (starEach (e :: es) X.env)) (backToKw pos (keywordEach [] X.env))) := by rfl)
    (he : starEach (e :: es) X.env = (false, eval e X.env) :: starEach es X.env := by rfl) (hpl : (backTo pos (starEach es X.env)).any (·.1) = false := by rfl) :
    PE X (.Call (.Attribute (.Name x p1) "__init__" p2) (e :: es) [] pos) (tVeI X.K ta) := by
  refine ⟨fun pins s σ H Q I h => ?_⟩
  refine PySem.W.methodCall_KW (ld_glob I hg hm ?_ hdb) hc
  refine PySem.W.method_cls I.kIn cr.ga ?_
  refine PySem.W.cls_value I.kIn cr.rd vV (by decide +kernel) ?_
  show wpAny _ _ (callWith pos (Value.builtin "ValueError.__init__") [] (backTo pos (starEach (e :: es) X.env)) []) _ _ _
  refine PyProof.Rows.callWith_method1 (thn (ha.run pos pins _ σ H _ (I.tok _) h) fun us s1 ⟨vs, H1, I1, r1, a, C, ws, ev, hl, T, ea, q⟩ => ?_) he hpl
  subst ev
  cases r1 with
  | @cons _ u0 _ ur ra rw' =>
    obtain rfl : u0 = Value.ref a := ra
    have hlen : ur.length ≤ sizeLine := by
      rw [← Paired.length rw', sizeLine_eq]
      omega
    exact oinit_ok T I1 ea hlen fun s' J => ⟨.non, H1, J, rfl, q⟩
end
/-! isinstance(e, C), e an exception that has its dict; e.f -/
section
open PySem.W PySem.Calls
variable {prog : Program} {w : World} {A : Around} {E : Value → Shared → Prop} {s : Shared} {K : Frag} {x D : Addr} {ox : Obj} {od : Option Obj}
theorem find_class (C : ExcC K D) : findObj K D od "__class__" = some (.bind (.builtin "getset_descriptor.__get__") (.builtin "object.__class__")) := by
  have hc : (clsIn K D).isSome = true := by
    obtain ⟨cd, hc, _⟩ := any_some C.hd
    rw [hc]; rfl
  cases od with
  | none => exact findObj_dataN hc C.ha C.hn C.ht
  | some o => exact findObj_data hc C.ha C.hn C.ht
/-- the class that an exception tells of itself -/
theorem class_told {Q : Option Value → Shared → Prop} (C : ExcC K D) (X : K.In s.heap) (I : InstAt s.heap x ox D od) (h : Q (some (.ref D)) { s with toks := s.toks + 1 }) : wpAny (model prog w) A (getAttr? (.ref x) "__class__") Q E s := by
  have hf := find_class (od := od) C
  obtain ⟨hp, g, d, t, os⟩ := s
  have T := I.type (M := model prog w)
  have G := looks_findIn (M := model prog w) X C.hg
  have N := looks_findIn (M := model prog w) X C.hk
  have W := looks_find (M := model prog w) X I hf
  have up : Looks (model prog w) hp (isInstance (.ref x) (.type "BaseException")) true := T.andThen (looks_subIn X C.hs)
  have ne : (Value.builtin "BaseException.__getattribute__" == Value.builtin "object.__getattribute__") = false := by decide +kernel
  unfold getAttr? getAttrBy? getAttrBy
  refine wpAny_bind (wpAny_mkText (wpAny_bind (wpAny_attempt (wpAny_holding (wpAny_bind (T.at (wpAny_bind (G.at ?_))))))))
  show wpAny _ _ (if (onTheHeap (Value.ref D) && Value.builtin "BaseException.__getattribute__" == Value.builtin "object.__getattribute__") = true then _ else _) _ _ _
  rw [ne, Bool.and_false, if_neg Bool.false_ne_true]
  unfold getAttrByItsOwn hookBefore
  refine wpAny_bind ?_
  rw [if_pos (show onTheHeap (Value.ref D) = true from rfl)]
  refine N.at (wpAny_bind (wpAny_attempt (wpAny_holding ?_)))
  unfold callGetattribute
  rw [show (false && onTheHeap (Value.builtin "BaseException.__getattribute__")) = false from rfl, if_neg Bool.false_ne_true]
  unfold boundAndCalled
  rw [PySem.F.excAttr_ValueError.ga.bind (.ref x)]
  refine wpAny_bind (wpAny_pure ?_)
  show wpAny _ _ (call (.builtin "BaseException.__getattribute__") [.ref x, .str "__class__" t]) _ _ _
  refine wpAny_call (codeAny_call_builtin PySem.F.excAttr_ValueError.ga.plain PySem.F.entry_bexc_ga ?_)
  refine @check_slot (model prog w) _ _ ⟨hp, g, d, t + 1, os⟩ "BaseException.__getattribute__" "BaseException" "__getattribute__" (.ref x) [.str "__class__" t] [] _ (by decide +kernel) (by decide +kernel) up (PySem.F.args_bexc_ga (.ref x) (.str "__class__" t)) ?_
  unfold Builtin.«object.__getattribute__»
  refine wpAny_bind (wpAny_of_eq (a := ((Value.ref x : Value), [Value.str "__class__" t])) (by first | rfl | (simp only [slotArgs]; rfl)) ?_)
  refine wpAny_bind (wpAny_pure (wpAny_bind (T.at (wpAny_bind (W.at ?_)))))
  show wpAny _ _ (holding [Value.builtin "object.__class__"] (call (.builtin "getset_descriptor.__get__") [.builtin "object.__class__", .ref x, .ref D]) >>= ret) _ _ _
  refine wpAny_bind (wpAny_holding (wpAny_call (class_get (s := ⟨hp, g, d, t + 1, os⟩) (ox := ox) (od := od) X I C.hm ?_)))
  refine wpAny_pure ?_
  show wpAny _ _ (handedOut (.ref D)) _ _ _
  rw [handedOut_of (v := .ref D) rfl]
  first
    | exact wpAny_pure (wpAny_pure h)
    | exact wpAny_pure h
    | exact wpAny_pure (wpAny_bind (wpAny_pure (wpAny_pure h)))
theorem kit_exc (C : ExcC K D) : KitX K (.ref x) (.ref D) (fun h => InstAt h x ox D od) where
  ty := fun _ _ _ I => I.type
  it := fun M h X _ => by
    obtain ⟨cd, hc, _⟩ := any_some C.hd
    intro A' Q' E' s' k q
    unfold clsIn at hc
    split at hc
    · rename_i ho
      unfold isType loadHead
      exact wpAny_bind (wpAny_loadPart (k _ _ (X _ _ ho)) (wpAny_pure q))
    · cases hc
  ne := fun h tp dd its n sl X htp => (handS_kitx_exc (x := x) (ox := ox) C.hg C.hk C.hs C.hd C.ha C.hn C.ht C.hm).ne h tp dd its n sl X htp
  ca := fun X I k => class_told C X I k
end
/-- a value's type, exceptions too -/
inductive TyE (K : PySem.W.Frag) (H : Hp) : V → Value → Prop where
  | base {x : V} {t : Value} (h : TyX K H x t) : TyE K H x t
  | exc0 {a C : Addr} (e : H a = some (exo a C none)) (c : ExcC K C) : TyE K H (.ref a) (.ref C)
  | exc1 {a C dx : Addr} {fs : List (Str × V)} (e : H a = some (exo a C (some dx))) (d : H dx = some (exd dx fs)) (c : ExcC K C) : TyE K H (.ref a) (.ref C)
  | exv {a C : Addr} (e : H a = some (ExO (.ref C) a)) (c : ExcC K C) : TyE K H (.ref a) (.ref C)
section
variable {X : Cx} {pins : List (Addr × Obj)} {σ : L2.St} {H : Hp} {s : Shared} {K : PySem.W.Frag}
theorem inst0 (I : Inv X pins σ H s) {a C : Addr} (e : H a = some (exo a C none)) : ∃ ox, PySem.W.InstAt s.heap a ox C none := by
  obtain ⟨t1, he⟩ := exo_at I.hok e
  exact ⟨_, he, rfl, rfl, trivial⟩
theorem inst1 (I : Inv X pins σ H s) {a C dx : Addr} {fs : List (Str × V)} (e : H a = some (exo a C (some dx))) (d : H dx = some (exd dx fs)) : ∃ (ox od : Obj) (mA : Str → Option Value), PySem.W.InstAt s.heap a ox C (some od) ∧ (∀ f, PySem.W.lookIn f od = some (mA f)) ∧ ∀ f, RelO (fs.lookup f) (mA f) := by
  obtain ⟨t1, he⟩ := exo_at I.hok e
  obtain ⟨mA, hns, hr⟩ := exd_at I.hok d
  obtain ⟨od, ho, hl⟩ := lookIn_ns hns
  exact ⟨_, od, mA, ⟨he, rfl, rfl, ho⟩, hl, hr⟩
theorem kit_ofE {x : V} {u t : Value} (I : Inv X pins σ H s) (rx : RelV x u) (ty : TyE X.K H x t) : ∃ P : Heap → Prop, PySem.W.KitX X.K u t P ∧ P s.heap ∧ u ≠ .builtin "__main__.__loader__#opaque" := by
  cases ty with
  | base h => exact kit_of I rx h
  | @exc0 a C e c =>
    cases (show u = Value.ref a from rx)
    obtain ⟨ox, J⟩ := inst0 I e
    exact ⟨_, kit_exc c, J, fun z => nomatch z⟩
  | @exc1 a C dx fs e d c =>
    cases (show u = Value.ref a from rx)
    obtain ⟨ox, od, mA, J, _⟩ := inst1 I e d
    exact ⟨_, kit_exc c, J, fun z => nomatch z⟩
  | @exv a C e c =>
    cases (show u = Value.ref a from rx)
    obtain ⟨⟨oe, vs, ho, ⟨h1, h2⟩, hd, _⟩, _⟩ := I.hok a _ e
    refine ⟨_, kit_exc (ox := oe) (od := none) c, ⟨ho, h1, by unfold PySem.W.notCls; rw [hd], by rw [h2]; trivial⟩, fun z => nomatch z⟩
def rIsiE (K : PySem.W.Frag) : List V → Hp → VK → Prop := fun xs H Q => ∃ (x c : V) (t u : Value) (b : Bool), xs = [x, c] ∧ ClsV c u ∧ TyE K H x t ∧ PySem.W.kitOne K t u = some b ∧ Q (.bl b) H
def rIsiTE (K : PySem.W.Frag) : List V → Hp → VK → Prop := fun xs H Q => ∃ (x : V) (tp : Addr) (cs : List V) (t : Value) (us : List Value) (b : Bool), xs = [x, .ref tp] ∧ H tp = some (.tup cs) ∧ Paired ClsV cs us ∧ TyE K H x t ∧ PySem.W.kitAny K t us = some b ∧ Q (.bl b) H
theorem call_isiE (hK : X.K = K) : CallR X (.builtin "isinstance") (rIsiE K) := by
  subst hK
  intro pins s σ H xs us Q I r h
  obtain ⟨x, c, t, u, b, rfl, k, ty, e, q⟩ := h
  obtain ⟨u1, u2, rfl, r1, r2⟩ := vals2 r
  have e2 := k.eq r2
  subst e2
  obtain ⟨P, Z, p, hx⟩ := kit_ofE I r1 ty
  exact PySem.W.kia_one Z I.kIn p e hx fun tk => ⟨.bl b, H, I.tok tk, rfl, q⟩
theorem call_isiTE (hK : X.K = K) : CallR X (.builtin "isinstance") (rIsiTE K) := by
  subst hK
  intro pins s σ H xs us Q I r h
  obtain ⟨x, tp, cs, t, ws, b, rfl, hT, k, ty, e, q⟩ := h
  obtain ⟨u1, u2, rfl, r1, r2⟩ := vals2 r
  cases (show u2 = Value.ref tp from r2)
  obtain ⟨P, Z, p, hx⟩ := kit_ofE I r1 ty
  obtain ⟨_, its, rv, o, h1, h2, n, h3⟩ := (show ObjOk X.prog X.w H s.heap tp (.tup cs) from I.hok tp _ hT)
  have e3 := ClsV.all k rv
  subst e3
  obtain ⟨oc, od, dt, sl⟩ := o
  simp only at h2 h3
  subst h2 h3
  exact PySem.W.kia_tup Z I.kIn p h1 e hx fun tk => ⟨.bl b, H, I.tok tk, rfl, q⟩
/-- e.f -/
def tXv (K : PySem.W.Frag) (f : Str) (te : TE) : TE := fun σ H Q => te σ H fun x H1 => ∃ (a C dx : Addr) (fs : List (Str × V)) (v : V), x = .ref a ∧ XfC K C ∧ PySem.W.findIn K (.ref C) f = some none ∧ H1 a = some (exo a C (some dx)) ∧ H1 dx = some (exd dx fs) ∧ fs.lookup f = some v ∧ Q v H1
theorem w_xv {f : Str} {te : TE} {Q : VK} (k : te σ H fun x H1 => ∃ (a C dx : Addr) (fs : List (Str × V)) (v : V), x = .ref a ∧ XfC K C ∧ PySem.W.findIn K (.ref C) f = some none ∧ H1 a = some (exo a C (some dx)) ∧ H1 dx = some (exd dx fs) ∧ fs.lookup f = some v ∧ Q v H1) : tXv K f te σ H Q := k
theorem pe_xv {e : Expr} {te : TE} {pos : Pos} {n : Str} (hK : X.K = K) (he : PE X e te) (hb : attributeBase e n X.env (eval e X.env) = eval e X.env := by rfl) : PE X (.Attribute e n pos) (tXv K n te) := by
  subst hK
  refine ⟨fun pins s σ H Q I h => ?_⟩
  refine attr_of hb (thn (he.run pins s σ H _ I h) fun u s1 hh => ?_)
  obtain ⟨x, H1, I1, rx, a, C, dx, fs, v, ex, T, hno, ea, ed, l, q⟩ := hh
  subst ex
  obtain rfl : u = Value.ref a := rx
  obtain ⟨ox, od, mA, J, hl, hr⟩ := inst1 I1 ea ed
  obtain ⟨u, hu, ru⟩ := RelO.some_of (v := v) (o := mA n) (by rw [← l]; exact hr n)
  exact HandSPX.exc_get I1.kIn J T.ga T.gg T.exC (PySem.W.findObj_own T.hdC hno rfl (by rw [hl, hu])) (handed_of ru) ⟨v, H1, I1.tok _, ru, q⟩
end
/-! what a class tells, asked of the written part -/
section
variable {K : PySem.W.Frag} {C : Addr}
def objB (K : PySem.W.Frag) (C : Addr) : Bool := match K.lookup C with
  | some ⟨.type "type", _, .cls cd, sl⟩ => (match cd.mro, sl.toList with
    | .ref C' :: bm, [_, _, _, _, some (.builtin n), _] => C' == C && n == "ValueError.__new__" && !cd.hasDel && cd.hasDict && PySem.HandSPX.refsVE bm
    | _, _ => false)
  | _ => false
theorem objB_ok (q : objB K C = true) : ∃ nm q N bs bm sn sub ab col dd k0 k1 k2 k3 k5, K.lookup C = some (excClassObj nm q C N bs bm true sn sub ab col dd k0 k1 k2 k3 k5 "ValueError.__new__") ∧ PySem.HandSPX.refsVE bm = true := by
  unfold objB at q
  split at q
  · rename_i dd cd sl ho
    split at q
    · rename_i C' bm k0 k1 k2 k3 n k5 hm hs
      simp only [Bool.and_eq_true, beq_iff_eq, Bool.not_eq_true'] at q
      obtain ⟨⟨⟨⟨rfl, rfl⟩, hdel⟩, hdi⟩, ht⟩ := q
      obtain ⟨nm, bs, mro, ns, qn, hd, sn, sub, ab, col, del⟩ := cd
      dsimp only at hm hdel hdi
      subst hm hdel hdi
      have hsl : sl = #[k0, k1, k2, k3, some (.builtin "ValueError.__new__"), k5] := by
        obtain ⟨l⟩ := sl
        simp only at hs
        rw [hs]
      subst hsl
      exact ⟨nm, qn, ns, bs, bm, sn, sub, ab, col, dd, k0, k1, k2, k3, k5, ho, ht⟩
    · cases q
  · cases q
/-- all that is asked of an exception class -/
structure Ex (K : PySem.W.Frag) (C : Addr) : Prop where
  o : OexC K C
  x : XfC K C
  e : ExcC K C
def exCB (K : PySem.W.Frag) (C : Addr) : Bool := objB K C && (decide (PySem.W.findIn K (.ref C) "__setattr__" = some (some (.builtin "object.__setattr__"))) && (decide (PySem.W.subIn K (.ref C) (.type "BaseException") = some true) && (decide (PySem.W.typeIn K (.ref C) = some (.type "type")) && (PySem.W.keepIn K (.ref C) && (xfB K C &&
  (decide (PySem.W.findIn K (.ref C) "__class__" = some (some (.builtin "object.__class__"))) && (decide (PySem.W.specialIn K (.builtin "object.__class__") "__get__" = some (some (.builtin "getset_descriptor.__get__"))) && (decide (PySem.W.takesIn K (.builtin "object.__class__") = some true) && decide (PySem.W.mroIn K C (.type "object") = some true)))))))))
theorem exCB_ok (h : exCB K C = true) : Ex K C := by
  unfold exCB at h
  simp only [Bool.and_eq_true, decide_eq_true_eq] at h
  obtain ⟨h1, h2, h3, h4, h5, h6, h7, h8, h9, h10⟩ := h
  have x := xfB_ok h6
  exact ⟨⟨objB_ok h1, h2, h3, h4, h5⟩, x, ⟨x.ga, x.gg, h3, x.hdC, h7, h8, h9, h10⟩⟩
/-- a class whose __init__ is ValueError's own -/
structure Ro (K : PySem.W.Frag) (D : Addr) : Prop where
  r : ClX.CRead K D (.type "type")
  v : PySem.W.findCls K (.ref D) (.type "type") "__init__" = some (.val (.builtin "ValueError.__init__"))
  q : PySem.W.excIn K D He.veBase "ValueError.__new__" = true
def roB (K : PySem.W.Frag) (D : Addr) : Bool := PySem.W.excIn K D He.veBase "ValueError.__new__" && (PySem.W.readsIn K D (.type "type") && (decide (PySem.W.specialIn K (.ref D) "__getattribute__" = some (some (.builtin "type.__getattribute__"))) && (match PySem.W.findCls K (.ref D) (.type "type") "__init__" with
  | some (.val (.builtin n)) => n == "ValueError.__init__"
  | _ => false)))
theorem roB_ok (h : roB K C = true) : Ro K C := by
  unfold roB at h
  simp only [Bool.and_eq_true, decide_eq_true_eq] at h
  obtain ⟨h0, h1, h2, h3⟩ := h
  refine ⟨⟨h1, h2⟩, ?_, h0⟩
  split at h3
  · rename_i n e
    rw [e, beq_iff_eq.mp h3]
  · cases h3
end
/-- its own __init__ -/
structure Ini (K : PySem.W.Frag) (C : Addr) : Prop where
  i : PySem.W.findIn K (.ref C) "__init__" = some (some (.ref (He.ma K C "__init__")))
  t : PySem.W.typeIn K (.ref (He.ma K C "__init__")) = some (.type "function")
def iniB (K : PySem.W.Frag) (C : Addr) : Bool := decide (PySem.W.findIn K (.ref C) "__init__" = some (some (.ref (He.ma K C "__init__")))) && decide (PySem.W.typeIn K (.ref (He.ma K C "__init__")) = some (.type "function"))
theorem iniB_ok {K : PySem.W.Frag} {C : Addr} (h : iniB K C = true) : Ini K C := by
  unfold iniB at h
  simp only [Bool.and_eq_true, decide_eq_true_eq] at h
  exact ⟨h.1, h.2⟩
theorem all1_ok {p : Str → Prop} [∀ C, Decidable (p C)] {L : List Str} (h : (L.all fun C => decide (p C)) = true) : ∀ C ∈ L, p C := fun C hC => of_decide_eq_true (List.all_eq_true.mp h C hC)
theorem all22_ok {p : Str → Str → Prop} [∀ C D, Decidable (p C D)] {L M : List Str} (h : (L.all fun C => M.all fun D => decide (p C D)) = true) : ∀ C ∈ L, ∀ D ∈ M, p C D := fun C hC D hD => of_decide_eq_true (List.all_eq_true.mp (List.all_eq_true.mp h C hC) D hD)
theorem all2_ok {p : Str → Str → Prop} [∀ C D, Decidable (p C D)] {L : List Str} (h : (L.all fun C => L.all fun D => decide (p C D)) = true) : ∀ C ∈ L, ∀ D ∈ L, p C D := fun C hC D hD => of_decide_eq_true (List.all_eq_true.mp (List.all_eq_true.mp h C hC) D hD)
section
variable {X : Cx} {K : PySem.W.Frag} {C : Addr} {k : Nat} {ps : List Str} {sp : Sp} {x : Str} {e : Expr} {es : List Expr} {ta : TA} {p pos : Pos}
theorem pe_mkX (F : FnA X.prog X.w X.K X.mg (He.ma K C "__init__") k ps sp) (hK : X.K = K) (T : Ex K C) (M : Ini K C) (hm : X.mg x = some (.ref C)) (hr : Room (k + 1) X.A) (hg : Gl X x) (ha : PA X (e :: es) ta)
    (hdb : (x == ("__debug__" : Str)) = false := by decide) (he : starEach (e :: es) X.env = (false, eval e X.env) :: starEach es X.env := by rfl) (hpl : (backTo pos (starEach es X.env)).any (·.1) = false := by rfl) :
    PE X (.Call (.Name x p) (e :: es) [] pos) (tMkV C sp ta) := by
  subst hK
  obtain ⟨fd, G, b, _⟩ := F
  exact pe_mkV T.o M.i M.t (G X.base) hr b pass0 hg hm ha hdb he hpl
theorem pe_mkX0 (F : FnA X.prog X.w X.K X.mg (He.ma K C "__init__") k ps sp) (hK : X.K = K) (T : Ex K C) (M : Ini K C) (hm : X.mg x = some (.ref C)) (hr : Room (k + 1) X.A) (hg : Gl X x) (hdb : (x == ("__debug__" : Str)) = false := by decide) :
    PE X (.Call (.Name x p) [] [] pos) (tMkV C sp tNil) := by
  subst hK
  obtain ⟨fd, G, b, _⟩ := F
  exact pe_mkV0 T.o M.i M.t (G X.base) hr b pass0 hg hm hdb
/-- D(e), D without an own __init__, as a value -/
def tExR (D : Addr) (ta : TE) : TE := fun σ H Q => ta σ H fun _ H1 => ∀ a, H1 a = none → Q (.ref a) (upd H1 a (ExO (.ref D) a))
theorem pe_exR {D : Addr} {ta : TE} (hK : X.K = K) (R : Ro K D) (T : Ex K D) (hm : X.mg x = some (.ref D)) (hg : Gl X x) (ha : PE X e ta) (hs : starEach [e] X.env = (false, eval e X.env) :: starEach [] X.env := by rfl) (hdb : (x == ("__debug__" : Str)) = false := by decide) :
    PE X (.Call (.Name x p) [e] [] pos) (tExR D ta) := by
  subst hK
  exact pe_exc1 F.excBase_ValueError R.q hm T.o.kC hg ha hs hdb
end
end EXV
theorem boot_ValueError : bootBuiltins "ValueError" = some (.type "ValueError") := PyProof.Rows.Boot.«ValueError»
end

end J
namespace J
open PySem PySem.Spec PyProof.Rows L2
--plain
/-! ### defs that may raise, where nothing is being shown: what they keep, how they are called -/
section
open PySem PySem.Spec PyProof.Rows
namespace XL
/-- room, and nothing is being shown (no repr about) -/
structure Rm (k : Nat) (A : Around) : Prop where
  r : Room k A
  gd : A.guards = some []
section
variable {j k : Nat} {A : Around}
theorem Rm.mono (h : Rm k A) (l : j ≤ k) : Rm j A := ⟨h.r.mono l, h.gd⟩
theorem Rm.units (h : Rm k A) : A.units + 64 < cLine := h.r.units
theorem Rm.deeper (h : Rm (k + 1) A) (env : Env) : Rm k (A.deeper env) := ⟨h.r.deeper env, h.gd⟩
theorem guards_make {C : Addr} {us : List Value} {kw : List (Str × Value)} : (A.under (.builtin "type.__call__" ⟨.ref C :: us, kw⟩)).guards = A.guards := by
  obtain ⟨hd, d, fr, gd, u⟩ := A
  cases gd <;> first
    | rfl
    | simp [Around.under, Code.guards, Code.isGuard, guardIds, pushGuards]
theorem Rm.make (h : Rm (k + 1) A) (C : Addr) (us : List Value) (kw : List (Str × Value)) : Rm k (A.under (.builtin "type.__call__" ⟨.ref C :: us, kw⟩)) := ⟨h.r.make C us kw, guards_make.trans h.gd⟩
end
/-- what a def keeps -/
structure FnR (P : Program) (w : World) (K : PySem.W.Frag) (mg : Str → Option Value) (base : Heap) (k : Nat) (f : Addr) (fd : FuncData) (ps : List Str) (sp : Sp) : Prop where
  len : ∀ vs H Q E, sp vs H Q E → vs.length = ps.length
  run : ∀ (A : Around) (outer : List Env) (s : Shared) (H : Hp) (args : Args) (us : List Value) (vs : List V) (Q : VK) (E : XK), Rm k A → Env0 P w K mg base A outer s H →
    BindsTo s fd args (ps.zip us) → Vals vs us → sp vs H Q E → codeAny (model P w) A (.call (.ref f) args) (CR (L2.CX P w) outer P w H s Q E) s
/-- the rule: a def by its body -/
theorem fnR_of {P : Program} {w : World} {K : PySem.W.Frag} {mg : Str → Option Value} {base : Heap} {x qual : Str} {params : Arguments} {body : List Stmt} {sc : Scope} {f : Addr} {fd : FuncData} {N ps : List Str} {k : Nat} {sp : Sp}
    (F : FunD K x qual params body sc [] [] f fd) (S : FnScope N ps sc) (len : ∀ vs H Q E, sp vs H Q E → vs.length = ps.length)
    (hbody : ∀ (cdv : Value) (A : Around) (outer : List Env) (s : Shared) (H : Hp) (vs : List V) (Q : VK) (E : XK), Rm k (A.deeper (envOfC qual sc s.heap.objs.size f cdv)) → sp vs H Q E →
      ∃ t, PSs (cxOf (L2.CX P w) P w K mg base N qual sc f cdv A outer s H E) body t ∧ t ⟨fun _ H' => Q .non H', Q, fun _ _ => False, fun _ _ => False⟩ (start N vs) H) : FnR P w K mg base (k + 1) f fd ps sp := by
  obtain ⟨oc, od, dV, kV, doc, pm, an, cdv, ct, osl, rfl, lk, hcd, _, _⟩ := F.ex
  refine ⟨len, fun A outer s H args us vs Q E hr env0 hbind rv h0 => ?_⟩
  have stays : ∀ b o, base.get? b = some o → s.heap.get? b = some o := fun b o e => (env0.bs b o e).1
  have kin : K.In s.heap := env0.mod.kin.keeps stays
  have lim : s.heap.NoLimit := env0.mod.nolimit.keeps stays
  have kinds : ∀ q ∈ ps.zip us, sc.names.lookup q.1 = some .local ∨ (sc.names.lookup q.1 = some .cell ∧ ((cellsFrom (s.heap.objs.size + 1) sc.names []).lookup q.1).isSome = true) := by
    intro ⟨n, v⟩ hq
    exact (S.par n (List.of_mem_zip hq).1).imp id fun c => ⟨c, PySem.W.cellsFrom_some _ _ _ (.inl c)⟩
  refine codeAny_call_function hr.r.depth (kin _ _ lk) rfl S.co S.gen rfl (PySem.W.codeRec_of kin hcd) (hbind _ _ _ _ (wpAny_newFunctionEnv_cells S.kind kinds fun env ee s1 hx => ?_))
  subst ee
  refine ⟨lim.keeps hx.toInCall.keep, codeAny_func ?_⟩
  obtain ⟨t, ht, hq⟩ := hbody cdv A outer s H vs Q E (hr.deeper _) h0
  have J := inv_start (CX := L2.CX P w) (base := base) (qual := qual) (f := f) (cd := cdv) (E := E) S hr.r.hd env0 (len _ _ _ _ h0) rv hx
  refine wpAny_mono (ht.run [] s1 (start N vs) H _ J hq) ?_ (fun _ _ z => z)
  intro fl s' hs
  cases fl with
  | next =>
    obtain ⟨σ', H', J', q'⟩ := hs
    exact ⟨.non, H', J'.os, J'.bare, J'.base, J'.hok, rfl, q'⟩
  | ret u =>
    obtain ⟨v, σ', H', J', ru, q'⟩ := hs
    exact ⟨v, H', J'.os, J'.bare, J'.base, J'.hok, ru, q'⟩
  | brk => exact (hs.choose_spec.choose_spec.2 : False).elim
  | cont => exact (hs.choose_spec.choose_spec.2 : False).elim
/-- no exception wished for: none comes -/
theorem passE0 {X : Cx} (σ : L2.St) : PassesAt (L2.CX X.prog X.w) X σ E0 := fun _ _ _ _ _ _ c => by
  obtain ⟨_, _, _, _, _, _, _, _, _, _, _, _, z⟩ := c
  exact z.elim
section
variable {X : Cx} {k : Nat} {f C : Addr} {fd : FuncData} {ps : List Str} {sp : Sp} {E : L2.St → XK} {x m : Str} {p pos apos : Pos} {e o : Expr} {es : List Expr} {ta : TE} {t : TA} {pins : List (Addr × Obj)} {σ : L2.St} {H : Hp} {s : Shared} {Q : VK} {us : List Value} {vs : List V}
theorem ends_fn {Er : XK} (hx : PassesAt (L2.CX X.prog X.w) X σ Er) (I : Inv X pins σ H s) {r : Result} {s' : Shared} (h : CR (L2.CX X.prog X.w) X.stack X.prog X.w H s Q Er r s') :
    (match r with
      | .ok (.ret u) => EP X pins σ Q u s'
      | .ok _ => False
      | .error er => X.xe er s') := by
  cases r with
  | error er => exact hx _ _ _ _ _ I h
  | ok fl =>
    cases fl with
    | ret u => exact I.after h
    | next => exact h
    | brk => exact h
    | cont => exact h
theorem run_fnR (F : FnR X.prog X.w X.K X.mg X.base k f fd ps sp) (hr : Rm k X.A) (hb : Binds X.K fd ps []) (hx : PassesAt (L2.CX X.prog X.w) X σ (E σ)) (I : Inv X pins σ H s) (r : Vals vs us) (h : sp vs H Q (E σ)) :
    wpAny (model X.prog X.w) X.A (call (.ref f) us) (EP X pins σ Q) X.xe s := by
  have b := hb s us I.kIn (by rw [List.append_nil, ← r.length]; exact F.len _ _ _ _ h)
  rw [List.append_nil] at b
  refine wpAny_call (codeAny_mono (F.run X.A X.stack s H ⟨us, []⟩ us vs Q (E σ) hr I.env0 b r h) fun r' s' hq => ?_)
  have z := ends_fn hx I hq
  cases r' with
  | error er => exact z
  | ok fl => cases fl <;> exact z
/-- f(e, ..) -/
def tCallX (sp : Sp) (E : L2.St → XK) (t : TA) : TE := fun σ H Q => t σ H fun vs H1 => sp vs H1 Q (E σ)
theorem pe_callR (F : FnR X.prog X.w X.K X.mg X.base k f fd ps sp) (hr : Rm k X.A) (hg : Gl X x) (hm : X.mg x = some (.ref f)) (hk : PySem.W.keepIn X.K (.ref f) = true) (hb : Binds X.K fd ps []) (hx : ∀ σ, PassesAt (L2.CX X.prog X.w) X σ (E σ))
    (ha : PA X (e :: es) t) (hdb : (x == ("__debug__" : Str)) = false) (he : starEach (e :: es) X.env = (false, eval e X.env) :: starEach es X.env) (hpl : (backTo pos (starEach es X.env)).any (·.1) = false) : PE X (.Call (.Name x p) (e :: es) [] pos) (tCallX sp E t) := by
  refine ⟨fun pins s σ H Q I h => wpAny_Call_Name_kw (ld_glob I hg hm ?_ hdb)⟩
  refine PySem.W.callWith_K (h₀ := X.base) I.ok.mod.kin hk (thn (ha.run pos pins s σ H _ I h) fun us s1 q => ?_) he hpl
  obtain ⟨vs, H1, I1, r, q⟩ := q
  exact ⟨I1.kIn, run_fnR F hr hb (hx σ) I1 r q⟩
theorem pe_callR0 (F : FnR X.prog X.w X.K X.mg X.base k f fd ps sp) (hr : Rm k X.A) (hg : Gl X x) (hm : X.mg x = some (.ref f)) (hk : PySem.W.keepIn X.K (.ref f) = true) (hb : Binds X.K fd ps []) (hx : ∀ σ, PassesAt (L2.CX X.prog X.w) X σ (E σ))
    (hdb : (x == ("__debug__" : Str)) = false) : PE X (.Call (.Name x p) [] [] pos) (tCallX sp E tNil) :=
  ⟨fun pins s σ H Q I h => wpAny_Call_Name_kw (ld_glob I hg hm (PySem.W.callWith_K0 I.kIn hk (run_fnR (us := []) F hr hb (hx σ) I .nil h)) hdb)⟩
/-- o.m(e, ..) -/
def tMetX (C : Addr) (m : Str) (sp : Sp) (E : L2.St → XK) (to : TE) (t : TA) : TE := fun σ H Q => to σ H fun x H1 => ∃ a dx fs, x = .ref a ∧ H1 a = some (.ins C dx fs) ∧ fs.lookup m = none ∧ t σ H1 fun vs H2 => sp (x :: vs) H2 Q (E σ)
theorem pe_methR {pl : Sem Bool} (he : PE X o ta) (c : Cls X.K C) (hm : Meth X.K C m f) (F : FnR X.prog X.w X.K X.mg X.base k f fd ps sp) (hr : Rm k X.A) (hb : Binds X.K fd ps []) (hx : ∀ σ, PassesAt (L2.CX X.prog X.w) X σ (E σ)) (ha : PA X (e :: es) t)
    (hst : starEach (e :: es) X.env = (false, eval e X.env) :: starEach es X.env) (hpl : (backTo pos (starEach es X.env)).any (·.1) = false)
    (ht : eval (.Call (.Attribute o m apos) (e :: es) [] pos) X.env = (do
      let ov ← eval o X.env; standAt apos.atName
      let (f, first) ← holding [ov] (getMethod ov m pl); callWith pos f first (backTo pos (starEach (e :: es) X.env)) (backToKw pos (keywordEach [] X.env)))) : PE X (.Call (.Attribute o m apos) (e :: es) [] pos) (tMetX C m sp E ta t) := by
  refine ⟨fun pins s σ H Q I h => PySem.W.methodCall_KW (pl := pl) (thn (he.run pins s σ H _ I h) fun u s1 hh => ?_) ht⟩
  obtain ⟨x, H1, I1, rx, a, dx, fs, ex, ea, l, q⟩ := hh
  subst ex
  cases (show u = Value.ref a from rx)
  refine getmeth_ok I1 ea c hm l ?_
  refine PySem.W.callWith_K (first := [.ref a]) (h₀ := X.base) I.ok.mod.kin hm.kp (thn (ha.run pos pins s1 σ H1 _ I1 q) fun us s2 hh => ?_) hst hpl
  obtain ⟨vs, H2, I2, r, q2⟩ := hh
  exact ⟨I2.kIn, run_fnR (us := .ref a :: us) (vs := .ref a :: vs) F hr hb (hx σ) I2 (.cons rfl r) q2⟩
theorem pe_methR0 {pl : Sem Bool} (he : PE X o ta) (c : Cls X.K C) (hm : Meth X.K C m f) (F : FnR X.prog X.w X.K X.mg X.base k f fd ps sp) (hr : Rm k X.A) (hb : Binds X.K fd ps []) (hx : ∀ σ, PassesAt (L2.CX X.prog X.w) X σ (E σ))
    (ht : eval (.Call (.Attribute o m apos) [] [] pos) X.env = (do
      let ov ← eval o X.env; standAt apos.atName
      let (f, first) ← holding [ov] (getMethod ov m pl); callWith pos f first (backTo pos (starEach [] X.env)) (backToKw pos (keywordEach [] X.env)))) : PE X (.Call (.Attribute o m apos) [] [] pos) (tMetX C m sp E ta tNil) := by
  refine ⟨fun pins s σ H Q I h => PySem.W.methodCall_KW (pl := pl) (thn (he.run pins s σ H _ I h) fun u s1 hh => ?_) ht⟩
  obtain ⟨x, H1, I1, rx, a, dx, fs, ex, ea, l, q⟩ := hh
  subst ex
  cases (show u = Value.ref a from rx)
  exact getmeth_ok I1 ea c hm l (PySem.W.callWith_K0 (first := [.ref a]) I1.kIn hm.kp (run_fnR (us := [.ref a]) (vs := [.ref a]) F hr hb (hx σ) I1 (.cons rfl .nil) q))
/-- C(e, ..) of a plain class -/
theorem run_makeR (M : Mk X.K C f) (F : FnR X.prog X.w X.K X.mg X.base k f fd ps sp) (hr : Rm (k + 1) X.A) (hb : Binds X.K fd ps []) (hx : PassesAt (L2.CX X.prog X.w) X σ (E σ)) (I : Inv X pins σ H s) (r : Vals vs us)
    (h : ∀ x dx, H x = none → H dx = none → dx ≠ x → sp (.ref x :: vs) (upd (upd H dx (.own x)) x (.ins C dx [])) (fun v H2 => v = .non ∧ Q (.ref x) H2) (E σ)) : wpAny (model X.prog X.w) X.A (call (.ref C) us) (EP X pins σ Q) X.xe s := by
  have hq := h (s.heap.objs.size + 1) s.heap.objs.size (I.hok.fresh (Nat.le_succ _)) (I.hok.fresh (Nat.le_refl _)) (Nat.ne_of_lt (Nat.lt_succ_self _))
  have J := Inv.made (C := C) I
  have r2 : Vals (V.ref (s.heap.objs.size + 1) :: vs) (Value.ref (s.heap.objs.size + 1) :: us) := .cons rfl r
  have b := hb _ (Value.ref (s.heap.objs.size + 1) :: us) J.kIn (by rw [List.append_nil, ← r2.length]; exact F.len _ _ _ _ hq)
  rw [List.append_nil] at b
  refine wpAny_call (make_map (f := f) I.kIn M.makes M.init (beq_iff_eq.mp M.fn) (codeAny_mono (F.run _ X.stack _ _ ⟨Value.ref (s.heap.objs.size + 1) :: us, []⟩ _ _ _ (E σ) (hr.make C us []) (J.env0.make C us []) b r2 hq) fun r' s' hq' => ?_))
  have z := ends_fn hx J hq'
  cases r' with
  | error er => exact z
  | ok fl =>
    cases fl with
    | ret u =>
      obtain ⟨v, H', I3, rv, ev, q3⟩ := z
      subst ev
      exact ⟨rv, V.ref _, H', I3, rfl, q3⟩
    | next => exact z.elim
    | brk => exact z.elim
    | cont => exact z.elim
def tMkX (C : Addr) (sp : Sp) (E : L2.St → XK) (t : TA) : TE := fun σ H Q => t σ H fun vs H1 => ∀ x dx, H1 x = none → H1 dx = none → dx ≠ x → sp (.ref x :: vs) (upd (upd H1 dx (.own x)) x (.ins C dx [])) (fun v H2 => v = .non ∧ Q (.ref x) H2) (E σ)
theorem pe_makeR (M : Mk X.K C f) (F : FnR X.prog X.w X.K X.mg X.base k f fd ps sp) (hr : Rm (k + 1) X.A) (hg : Gl X x) (hm : X.mg x = some (.ref C)) (hb : Binds X.K fd ps []) (hx : ∀ σ, PassesAt (L2.CX X.prog X.w) X σ (E σ)) (ha : PA X (e :: es) t)
    (hdb : (x == ("__debug__" : Str)) = false) (he : starEach (e :: es) X.env = (false, eval e X.env) :: starEach es X.env) (hpl : (backTo pos (starEach es X.env)).any (·.1) = false) : PE X (.Call (.Name x p) (e :: es) [] pos) (tMkX C sp E t) := by
  refine ⟨fun pins s σ H Q I h => wpAny_Call_Name_kw (ld_glob I hg hm ?_ hdb)⟩
  refine PySem.W.callWith_K (h₀ := X.base) I.ok.mod.kin M.kp (thn (ha.run pos pins s σ H _ I h) fun us s1 hh => ?_) he hpl
  obtain ⟨vs, H1, I1, r, q⟩ := hh
  exact ⟨I1.kIn, run_makeR M F hr hb (hx σ) I1 r q⟩
theorem pe_makeR0 (M : Mk X.K C f) (F : FnR X.prog X.w X.K X.mg X.base k f fd ps sp) (hr : Rm (k + 1) X.A) (hg : Gl X x) (hm : X.mg x = some (.ref C)) (hb : Binds X.K fd ps []) (hx : ∀ σ, PassesAt (L2.CX X.prog X.w) X σ (E σ)) (hdb : (x == ("__debug__" : Str)) = false) :
    PE X (.Call (.Name x p) [] [] pos) (tMkX C sp E tNil) := ⟨fun pins s σ H Q I h => wpAny_Call_Name_kw (ld_glob I hg hm (PySem.W.callWith_K0 I.kIn M.kp (run_makeR (us := []) M F hr hb (hx σ) I .nil h)) hdb)⟩
end
/-! exceptions made: as values, to be raised -/
section
variable {X : Cx} {k : Nat} {C fI : Addr} {fd : FuncData} {ps : List Str} {sp : Sp} {x : Str} {p pos : Pos} {e : Expr} {es : List Expr} {ta : TA} {pins : List (Addr × Obj)} {σ : L2.St} {H1 : Hp} {s1 : Shared} {us : List Value} {vs : List V}
theorem run_excR {Post : Value → Shared → Prop} {R : Addr → VK} (T : OexC X.K C) (iC : PySem.W.findIn X.K (.ref C) "__init__" = some (some (.ref fI))) (tI : PySem.W.typeIn X.K (.ref fI) = some (.type "function")) (F : FnR X.prog X.w X.K X.mg X.base k fI fd ps sp) (hr : Rm (k + 1) X.A) (hb : Binds X.K fd ps [])
    (I1 : Inv X pins σ H1 s1) (rv : Vals vs us) (hz : vs.length ≤ 1000) (q1 : ∀ a, H1 a = none → sp (.ref a :: vs) (upd H1 a (exo a C none)) (R a) E0)
    (fin : ∀ (a : Addr) (hp2 : Heap) (u : Value) (s' : Shared), s1.heap.objs.size ≤ a → (∀ b o, s1.heap.get? b = some o → hp2.get? b = some o) → Inv X pins σ (upd H1 a (exo a C none)) { s1 with heap := hp2 } →
      CE X.stack X.prog X.w (upd H1 a (exo a C none)) { s1 with heap := hp2 } (R a) u s' → u = .none ∧ Post (.ref a) s') : wpAny (model X.prog X.w) X.A (call (.ref C) us) Post X.xe s1 := by
  obtain ⟨nm, qn, N, bs, bm, sn, sub, ab, col, dd, k0, k1, k2, k3, k5, hC, hbm⟩ := T.cls
  obtain ⟨hp, g, dr, tk, os⟩ := s1
  have sz : hp.objs.size ≤ hp.objs.size + 1 := Nat.le_succ _
  have sp0 := q1 (hp.objs.size + 1) (I1.hok.fresh sz)
  have kk : ∀ b o, hp.get? b = some o → ((hp.push (PySem.W.kdv_tup us)).push (PySem.HandSPX.excO C hp.objs.size)).get? b = some o := fun b o z => Heap.get?_push_of_some _ (Heap.get?_push_of_some _ z)
  have hgot : ((hp.push (PySem.W.kdv_tup us)).push (PySem.HandSPX.excO C hp.objs.size)).get? (hp.objs.size + 1) = some (PySem.HandSPX.excO C hp.objs.size) := by heap_get
  have J := I1.laid (t' := tk) (a := hp.objs.size + 1) (o := exo (hp.objs.size + 1) C none) (h' := (hp.push (PySem.W.kdv_tup us)).push (PySem.HandSPX.excO C hp.objs.size)) kk sz (exo_ok hgot)
  have r2 : Vals (V.ref (hp.objs.size + 1) :: vs) (Value.ref (hp.objs.size + 1) :: us) := .cons rfl rv
  have bd := hb _ (Value.ref (hp.objs.size + 1) :: us) J.kIn (by rw [List.append_nil, ← r2.length]; exact F.len _ _ _ _ sp0)
  rw [List.append_nil] at bd
  have small : us.length ≤ sizeLine := by rw [← Paired.length rv, sizeLine_eq]; omega
  refine wpAny_call (PySem.HandSPX.call_own PySem.F.excBase_ValueError (fun Y => PySem.HandSPX.refsVE_contains Y bm hbm) (I1.kIn _ _ hC) (PySem.W.looks_findIn I1.kIn iC) (fun self => PySem.W.bind_fn I1.kIn self tI) small
    (codeAny_mono (F.run _ X.stack _ _ ⟨Value.ref (hp.objs.size + 1) :: us, []⟩ _ _ _ E0 (hr.make C us []) (J.env0.make C us []) bd r2 sp0) fun r' s' hq => ?_))
  cases r' with
  | error er =>
    obtain ⟨_, _, _, _, _, _, _, _, _, _, _, _, z⟩ := (show L2.CX X.prog X.w _ _ _ E0 er s' from hq)
    exact z.elim
  | ok fl =>
    cases fl with
    | ret u => exact fin _ _ u s' sz kk J hq
    | next => exact hq.elim
    | brk => exact hq.elim
    | cont => exact hq.elim
/-- C(e, ..) as a value: the thing stays as it is left by C's __init__ -/
def mkQ (a : Addr) (Q : VK) : VK := fun v H2 => v = .non ∧ Q (.ref a) H2
def tMkV (C : Addr) (sp : Sp) (ta : TA) : TE := fun σ H Q => ta σ H fun vs H1 => vs.length ≤ 1000 ∧ ∀ a, H1 a = none → sp (.ref a :: vs) (upd H1 a (exo a C none)) (mkQ a Q) E0
theorem w_mkV {H : Hp} {Q : VK} (k : ta σ H fun vs H1 => vs.length ≤ 1000 ∧ ∀ a, H1 a = none → sp (.ref a :: vs) (upd H1 a (exo a C none)) (mkQ a Q) E0) : tMkV C sp ta σ H Q := k
theorem run_mkV {Q : VK} (T : OexC X.K C) (iC : PySem.W.findIn X.K (.ref C) "__init__" = some (some (.ref fI))) (tI : PySem.W.typeIn X.K (.ref fI) = some (.type "function")) (F : FnR X.prog X.w X.K X.mg X.base k fI fd ps sp) (hr : Rm (k + 1) X.A) (hb : Binds X.K fd ps [])
    (I1 : Inv X pins σ H1 s1) (rv : Vals vs us) (q : vs.length ≤ 1000 ∧ ∀ a, H1 a = none → sp (.ref a :: vs) (upd H1 a (exo a C none)) (mkQ a Q) E0) : wpAny (model X.prog X.w) X.A (call (.ref C) us) (EP X pins σ Q) X.xe s1 :=
  run_excR T iC tI F hr hb I1 rv q.1 q.2 fun a hp2 u s' _ _ J h => by
    obtain ⟨v, H2, J2, ru, ev, q2⟩ := J.after h
    subst ev
    exact ⟨ru, .ref a, H2, J2, rfl, q2⟩
theorem pe_mkVR (T : OexC X.K C) (iC : PySem.W.findIn X.K (.ref C) "__init__" = some (some (.ref fI))) (tI : PySem.W.typeIn X.K (.ref fI) = some (.type "function")) (F : FnR X.prog X.w X.K X.mg X.base k fI fd ps sp) (hr : Rm (k + 1) X.A) (hb : Binds X.K fd ps [])
    (hg : Gl X x) (hm : X.mg x = some (.ref C)) (ha : PA X (e :: es) ta) (hdb : (x == ("__debug__" : Str)) = false) (he : starEach (e :: es) X.env = (false, eval e X.env) :: starEach es X.env) (hpl : (backTo pos (starEach es X.env)).any (·.1) = false) :
    PE X (.Call (.Name x p) (e :: es) [] pos) (tMkV C sp ta) := by
  refine ⟨fun pins s σ H Q I h => wpAny_Call_Name_kw (ld_glob I hg hm ?_ hdb)⟩
  refine PySem.W.callWith_K (h₀ := X.base) I.ok.mod.kin T.kC (thn (ha.run pos pins s σ H _ I h) fun us s1 hh => ?_) he hpl
  obtain ⟨vs, H1, I1, r, q⟩ := hh
  exact ⟨I1.kIn, run_mkV T iC tI F hr hb I1 r q⟩
theorem pe_mkVR0 (T : OexC X.K C) (iC : PySem.W.findIn X.K (.ref C) "__init__" = some (some (.ref fI))) (tI : PySem.W.typeIn X.K (.ref fI) = some (.type "function")) (F : FnR X.prog X.w X.K X.mg X.base k fI fd ps sp) (hr : Rm (k + 1) X.A) (hb : Binds X.K fd ps [])
    (hg : Gl X x) (hm : X.mg x = some (.ref C)) (hdb : (x == ("__debug__" : Str)) = false) : PE X (.Call (.Name x p) [] [] pos) (tMkV C sp tNil) :=
  ⟨fun pins s σ H Q I h => wpAny_Call_Name_kw (ld_glob I hg hm (PySem.W.callWith_K0 I.kIn T.kC (run_mkV (us := []) T iC tI F hr hb I .nil h)) hdb)⟩
/-- C(e, ..) behind raise -/
def mkX (a C : Addr) (H1 : Hp) (W : XK) : VK := fun v H2 => v = .non ∧ ∃ (d : Addr) (fs : List (Str × V)), H2 a = some (exo a C (some d)) ∧ H2 d = some (exd d fs) ∧ H1 d = none ∧ W (.ref C) (some d) (upd (del H2 a) d (.xd fs))
def tRai (C : Addr) (sp : Sp) (ta : TA) : L2.St → Hp → XK → Prop := fun σ H W => ta σ H fun vs H1 => vs.length ≤ 1000 ∧ ∀ a, H1 a = none → sp (.ref a :: vs) (upd H1 a (exo a C none)) (mkX a C H1 W) E0
theorem pmk_R (T : OexC X.K C) (iC : PySem.W.findIn X.K (.ref C) "__init__" = some (some (.ref fI))) (tI : PySem.W.typeIn X.K (.ref fI) = some (.type "function")) (F : FnR X.prog X.w X.K X.mg X.base k fI fd ps sp) (hr : Rm (k + 1) X.A) (hb : Binds X.K fd ps [])
    (hg : Gl X x) (hm : X.mg x = some (.ref C)) (ha : PA X (e :: es) ta) (hdb : (x == ("__debug__" : Str)) = false) (he : starEach (e :: es) X.env = (false, eval e X.env) :: starEach es X.env) (hpl : (backTo pos (starEach es X.env)).any (·.1) = false) :
    PMk X (.Call (.Name x p) (e :: es) [] pos) (tRai C sp ta) := by
  intro pins s σ H W I h
  refine wpAny_Call_Name_kw (ld_glob I hg hm ?_ hdb)
  refine PySem.W.callWith_K (h₀ := X.base) I.ok.mod.kin T.kC (thn (ha.run pos pins s σ H _ I h) fun us s1 hh => ?_) he hpl
  obtain ⟨vs, H1, I1, r, hz, q⟩ := hh
  refine ⟨I1.kIn, run_excR T iC tI F hr hb I1 r hz q fun a hp2 u s' ha hk J hc => ?_⟩
  obtain ⟨v, H2, os2, bare2, un2, hok2, rv, ev, d, fs, ea, ed, hd1, q2⟩ := hc
  subst ev
  obtain ⟨h2, g2, d2, t2, os'⟩ := s'
  exact ⟨rv, mk_end (raises_own T.exC T.tyC) I1 ha hk un2 hok2 os2 bare2 ea ed hd1 q2⟩
end
/-! several except clauses, with names or without -/
def tAsX (i : Nat) (ts : Addr → Value → Option Addr → L2.TS) : Addr → Value → Option Addr → L2.TS := fun a cls d D σ H =>
  ts a cls d { nx := fun σ' H' => D.nx (σ'.set i none) H', rt := D.rt, bk := fun σ' H' => D.bk (σ'.set i none) H', ct := fun σ' H' => D.ct (σ'.set i none) H' } (σ.set i (some (.ref a))) H
inductive HdX (X : Cx) : List ExceptHandler → List (Value × (Addr → Value → Option Addr → L2.TS)) → Prop
  | nil : HdX X [] []
  | bare {x : Str} {c : Value} {ts : Addr → Value → Option Addr → L2.TS} {b₀ : Stmt} {suite : List Stmt} {np pos' : Pos} {hds : List ExceptHandler} {l : List (Value × (Addr → Value → Option Addr → L2.TS))} (hc : Names X x c)
      (hsu : ∀ (a : Addr) (oe : Obj) (cls : Value) (d : Option Addr) (pn : List (Addr × Obj)), Zc cls d oe → (∃ vs, oe.data = .fields vs) → PSs (X.suite a ((a, oe) :: pn)) (b₀ :: suite) (ts a cls d)) (r : HdX X hds l) :
      HdX X (.ExceptHandler (some (.Name x np)) none (b₀ :: suite) pos' :: hds) ((c, ts) :: l)
  | named {x n : Str} {i : Nat} {c : Value} {ts : Addr → Value → Option Addr → L2.TS} {b₀ : Stmt} {suite : List Stmt} {np pos' : Pos} {hds : List ExceptHandler} {l : List (Value × (Addr → Value → Option Addr → L2.TS))} (hN : X.N.Nodup) (hi : X.N[i]? = some n) (hln : X.env.kindOf n = some .local) (hc : Names X x c)
      (hsu : ∀ (a : Addr) (oe : Obj) (cls : Value) (d : Option Addr) (pn : List (Addr × Obj)), Zc cls d oe → (∃ vs, oe.data = .fields vs) → PSs (X.suite a ((a, oe) :: pn)) (b₀ :: suite) (ts a cls d)) (r : HdX X hds l) :
      HdX X (.ExceptHandler (some (.Name x np)) (some n) (b₀ :: suite) pos' :: hds) ((c, tAsX i ts) :: l)
section
variable {X : Cx} {body : List Stmt} {h₀ : ExceptHandler} {hds : List ExceptHandler} {l : List (Value × (Addr → Value → Option Addr → L2.TS))} {pos : Pos} {tb : WX → L2.TS} {Wout : WX}
theorem ps_tryX (hs : X.stack = X.env :: X.outer) (hf : X.env.frame = some X.env.locals) (tk : Takes X Wout)
    (hb : ∀ (W : WX) (pn : List (Addr × Obj)) (xe : Value → Shared → Prop), Takes (X.tr pn xe) W → PassesOwn (model X.prog X.w) X.A X.env xe → PSs (X.tr pn xe) body (tb W)) (hh : HdX X (h₀ :: hds) l) :
    PS X (.Try body (h₀ :: hds) [] [] pos) (fun D σ H => tb (wMany X.K Wout D l) D σ H) := by
  refine ⟨fun pins s σ H D I h => wpAny_Try_except ?_⟩
  have ok := I.ok
  have frames : X.A.frames = some (X.env :: X.outer) := by rw [ok.frames, hs]
  let after : Value → Shared → Prop := fun e s₁ => wpAny (model X.prog X.w) X.A (noteFrame e X.env) (fun _ s₂ => wpAny (model X.prog X.w) X.A (setFlight e none) (fun _ s₃ => wpAny (model X.prog X.w) X.A (handleBy e X.env (h₀ :: hds)) (SP X pins D) X.xe s₃) X.xe s₂) X.xe s₁
  refine wpAny_mono ((hb (wMany X.K Wout D l) (X.pn ++ pins) after (fun u s' xx => ?_) PassesOwn.looking).run [] s σ H D (I.toTry _) h) (fun f s1 hsp => ?_) (fun e s1 he => he)
  · obtain ⟨a, B, sI, pins', σ', H', cls, d, rfl, J', nb, up, sky, na, os, ag, wish⟩ := xx
    have J : Inv X pins σ' H' sI := J'.ofTry ok
    have sky2 : Sky B (X.env :: X.outer) a (Zc cls d) X.env.locals s'.heap := hs ▸ sky
    show wpAny (model X.prog X.w) X.A (noteFrame (.ref a) X.env) _ _ _
    refine Sky.land Zc.steady frames hf sky2 fun h3 fl3 up3 => ?_
    have J3 : Inv X pins σ' H' { s' with heap := h3 } := J.landed nb fl3.1 (up.trans up3) os ag
    obtain ⟨oe3, vs3, got3, cls3, data3⟩ := fl3.there
    have noFr : a ∉ frs (X.env :: X.outer) := fun hm => by
      obtain ⟨_, o', e', hnf⟩ := fl3.2.2.1.mem hm
      rw [got3] at e'; cases e'
      exact hnf _ data3
    have nL : a ≠ X.env.locals := fun z => noFr (List.mem_filterMap.mpr ⟨X.env, List.mem_cons_self, by rw [hf, z]⟩)
    have nF : a ∉ X.fs := fun hm => by
      obtain ⟨e, he, q⟩ := List.mem_filterMap.mp hm
      exact noFr (List.mem_filterMap.mpr ⟨e, List.mem_cons_of_mem _ he, q⟩)
    have S3 := J3.suite got3 data3 na nL nF
    have LT : PySem.W.Looks (model X.prog X.w) h3 (typeOf (.ref a)) cls := fun A Q E s k q => wpAny_typeOf_ref (k _ _ got3) (by rw [cls3.1]; exact q)
    have test : ∀ {x : Str} {c : Value} {np : Pos} {Q E : Value → Shared → Prop}, Names X x c → Q c { s' with heap := h3 } → wpAny (model X.prog X.w) (X.A.mark (some (.ref a))) (eval (.Name x np) X.env) Q E { s' with heap := h3 } := fun {x c np Q E} hc q => by
      obtain ⟨hg, hdbg, hm | ⟨hm, hv, hnn⟩⟩ := hc
      · exact ld_glob (X := X.suite a ((a, oe3) :: (X.pn ++ pins))) S3 hg hm q hdbg
      · exact ld_blt (X := X.suite a ((a, oe3) :: (X.pn ++ pins))) S3 hg hm hv q hnn hdbg
    have again : ∀ {Q : Unit → Shared → Prop} {E : Value → Shared → Prop} {A : Around}, (∀ h4 oe4, Zc cls d oe4 → (∃ vs, oe4.data = .fields vs) → Inv (X.suite a ((a, oe4) :: (X.pn ++ pins))) [] σ' H' { s' with heap := h4 } → Q () { s' with heap := h4 }) →
        wpAny (model X.prog X.w) A (setFlight (.ref a) none) Q E { s' with heap := h3 } := fun {Q E A} hq => by
      refine HandSPX.lands_againZ fl3 fun h4 fl4 up4 => ?_
      have J4 : Inv X pins σ' H' { s' with heap := h4 } := J.landed nb fl4.1 ((up.trans up3).trans up4) os ag
      obtain ⟨oe4, vs4, got4, cls4, data4⟩ := fl4.there
      exact hq h4 oe4 cls4 ⟨_, data4⟩ (J4.suite got4 data4 na nL nF)
    have go : ∀ {hds' : List ExceptHandler} {l' : List (Value × (Addr → Value → Option Addr → L2.TS))}, HdX X hds' l' → wMany X.K Wout D l' cls d σ' H' → wpAny (model X.prog X.w) X.A (handleBy (.ref a) X.env hds') (SP X pins D) X.xe { s' with heap := h3 } := by
      intro hds' l' hk
      induction hk with
      | nil =>
        intro w
        obtain ⟨k1, k2, k3, oe, vs, T, oT, ts', he, hz, hd, h1, hr⟩ := id fl3
        refine wpAny_handleBy_nil ?_
        unfold PySem.passOn
        refine wpAny_bind (wpAny_field he hd h1 ?_)
        rw [if_neg (show ¬ ((Value.ref T == Value.none) = true) from by simp)]
        have last : wpAny (model X.prog X.w) X.A (setFlight (.ref a) X.env.frame) (fun _ s4 => wpAny (model X.prog X.w) X.A (throw (.ref a) : Sem Flow) (SP X pins D) X.xe s4) X.xe { s' with heap := h3 } := by
          rw [hf]
          exact HandSPX.setFlight_upZ fl3 fun h4 hh4 up4 => wpAny_throw (tk _ _ ⟨a, B, sI, pins, σ', H', cls, d, rfl, J, nb, (up.trans up3).trans up4, .inr (.inr (by rw [hs]; exact hh4)), na, os, ag, w⟩)
        first
          | exact wpAny_bind (wpAny_pure (wpAny_bind last))
          | exact wpAny_bind last
      | @bare x c ts b₀ suite np pos' hds2 l2 hc hsu r ih =>
        intro w
        obtain ⟨b, hb1, hyes, hno⟩ := w
        have LM := PySem.W.exm_one (M := model X.prog X.w) (J3.kIn) LT hb1
        refine wpAny_handleBy_cons (codeAny_handlers_test (test hc (LM.here ?_))) (by intro q; cases q)
        cases b with
        | false => exact (show wpAny _ X.A (handleBy (.ref a) X.env hds2) _ _ _ from ih (hno rfl))
        | true =>
          refine codeAny_handlers_suite (again fun h4 oe4 z4 d4 S4 => ?_)
          refine wpAny_mono ((hsu a oe4 cls d (X.pn ++ pins) z4 d4).run [] _ _ H' _ S4 (hyes rfl a na)) (fun f s6 hsp => ?_) (fun _ _ z => False.elim z)
          cases f with
          | ret u =>
            obtain ⟨v6, σ6, H6, S6, r6, q6⟩ := hsp
            exact ⟨v6, σ6, H6, S6.unsuite ok, r6, q6⟩
          | next =>
            obtain ⟨σ6, H6, S6, q6⟩ := hsp
            exact ⟨σ6, H6, S6.unsuite ok, q6⟩
          | brk =>
            obtain ⟨σ6, H6, S6, q6⟩ := hsp
            exact ⟨σ6, H6, S6.unsuite ok, q6⟩
          | cont =>
            obtain ⟨σ6, H6, S6, q6⟩ := hsp
            exact ⟨σ6, H6, S6.unsuite ok, q6⟩
      | @named x n i c ts b₀ suite np pos' hds2 l2 hN hi hln hc hsu r ih =>
        intro w
        obtain ⟨b, hb1, hyes, hno⟩ := w
        have LM := PySem.W.exm_one (M := model X.prog X.w) (J3.kIn) LT hb1
        refine wpAny_handleBy_cons (codeAny_handlers_test (test hc (LM.here ?_))) (by intro q; cases q)
        cases b with
        | false => exact (show wpAny _ X.A (handleBy (.ref a) X.env hds2) _ _ _ from ih (hno rfl))
        | true =>
          refine codeAny_handlers_suite_as (again fun h4 oe4 z4 d4 S4 => ?_)
          refine store_ok (X := X.suite a ((a, oe4) :: (X.pn ++ pins))) (v := .ref a) S4 hN hi (.inl hln) rfl (fun s5 S5 => ?_) (.inr hln)
          refine wpAny_mono ((hsu a oe4 cls d (X.pn ++ pins) z4 d4).run [] s5 _ H' _ S5 (hyes rfl a na)) (fun f s6 hsp => ?_) (fun _ _ z => False.elim z)
          have gone : ∀ {σ6 : L2.St} {H6 : Hp} {Q : Shared → Prop}, Inv (X.suite a ((a, oe4) :: (X.pn ++ pins))) [] σ6 H6 s6 → (∀ s7, Inv X pins (σ6.set i none) H6 s7 → Q s7) → wpAny (model X.prog X.w) X.A (do bindName X.env n .none; unbindBehindTheSuite X.env n pos') (fun _ s7 => Q s7) X.xe s6 :=
            fun {σ6 H6 Q} S6 hq => gone_ok (S6.unsuite ok) hN hi hln hq
          cases f with
          | ret u =>
            obtain ⟨v6, σ6, H6, S6, r6, q6⟩ := hsp
            exact gone S6 fun s7 J7 => ⟨v6, _, H6, J7, r6, q6⟩
          | next =>
            obtain ⟨σ6, H6, S6, q6⟩ := hsp
            exact gone S6 fun s7 J7 => ⟨_, H6, J7, q6⟩
          | brk =>
            obtain ⟨σ6, H6, S6, q6⟩ := hsp
            exact gone S6 fun s7 J7 => ⟨_, H6, J7, q6⟩
          | cont =>
            obtain ⟨σ6, H6, S6, q6⟩ := hsp
            exact gone S6 fun s7 J7 => ⟨_, H6, J7, q6⟩
    exact go hh wish
  · cases f with
    | ret u =>
      obtain ⟨v, σ', H', J', r, q⟩ := hsp
      exact ⟨v, σ', H', J'.ofTry ok, r, q⟩
    | next =>
      obtain ⟨σ', H', J', q⟩ := hsp
      exact wpAny_execs_nil ⟨σ', H', J'.ofTry ok, q⟩
    | brk =>
      obtain ⟨σ', H', J', q⟩ := hsp
      exact ⟨σ', H', J'.ofTry ok, q⟩
    | cont =>
      obtain ⟨σ', H', J', q⟩ := hsp
      exact ⟨σ', H', J'.ofTry ok, q⟩
end
/-! defs by names -/
/-- the def at f keeps the promise sp -/
def FnA (P : Program) (w : World) (K : PySem.W.Frag) (mg : Str → Option Value) (f : Addr) (k : Nat) (ps : List Str) (sp : Sp) : Prop :=
  ∃ fd, (∀ base, FnR P w K mg base k f fd ps sp) ∧ Binds K fd ps [] ∧ (∀ (s : Shared) (us : List Value), us.length = ps.length → BindsTo s fd ⟨us, []⟩ (ps.zip us)) ∧ ∃ oc od osl, K.lookup f = some ⟨oc, od, .func fd, osl⟩
/-- the def of the name x keeps the promise sp -/
structure Fn (P : Program) (w : World) (K : PySem.W.Frag) (mg : Str → Option Value) (x : Str) (k : Nat) (ps : List Str) (sp : Sp) : Prop where
  ex : FnA P w K mg (He.ga K x) k ps sp
  gl : mg x = some (.ref (He.ga K x))
  kp : PySem.W.keepIn K (.ref (He.ga K x)) = true
theorem FnA.mk' {P : Program} {w : World} {K : PySem.W.Frag} {mg : Str → Option Value} {x q : Str} {k : Nat} {N ps : List Str} {sp : Sp} {args : Arguments} {body : List Stmt} {sc : Scope} {f : Addr} {fd : FuncData}
    (F : FunD K x q args body sc [] [] f fd) (S : FnScope N ps sc) (len : ∀ vs H Q E, sp vs H Q E → vs.length = ps.length)
    (hb : ∀ (kV doc pm : Value) (an : Option Addr) (cdv ct : Value) (us : List Value), us.length = ps.length → bindArgs (PySem.W.fnOf x q args body sc .none kV doc pm an cdv ct) ⟨us, []⟩ = pure (ps.zip us))
    (hbody : ∀ (base : Heap) (cdv : Value) (A : Around) (outer : List Env) (s : Shared) (H : Hp) (vs : List V) (Q : VK) (E : XK), Rm k (A.deeper (envOfC q sc s.heap.objs.size f cdv)) → sp vs H Q E →
      ∃ t, PSs (cxOf (L2.CX P w) P w K mg base N q sc f cdv A outer s H E) body t ∧ t ⟨fun _ H' => Q .non H', Q, fun _ _ => False, fun _ _ => False⟩ (start N vs) H) : FnA P w K mg f (k + 1) ps sp := by
  refine ⟨fd, fun base => fnR_of F S len (hbody base), F.bindsN hb, F.bindsA hb, ?_⟩
  obtain ⟨oc, od, _, _, _, _, _, _, _, osl, _, lk, _⟩ := F.ex
  exact ⟨oc, od, osl, lk⟩
theorem Fn.mk' {P : Program} {w : World} {K : PySem.W.Frag} {mg : Str → Option Value} {x : Str} {k : Nat} {N ps : List Str} {sp : Sp} {args : Arguments} {body : List Stmt} {sc : Scope} {fd : FuncData}
    (F : FunD K x x args body sc [] [] (He.ga K x) fd) (gl : mg x = some (.ref (He.ga K x))) (S : FnScope N ps sc) (len : ∀ vs H Q E, sp vs H Q E → vs.length = ps.length)
    (hb : ∀ (kV doc pm : Value) (an : Option Addr) (cdv ct : Value) (us : List Value), us.length = ps.length → bindArgs (PySem.W.fnOf x x args body sc .none kV doc pm an cdv ct) ⟨us, []⟩ = pure (ps.zip us))
    (hbody : ∀ (base : Heap) (cdv : Value) (A : Around) (outer : List Env) (s : Shared) (H : Hp) (vs : List V) (Q : VK) (E : XK), Rm k (A.deeper (envOfC x sc s.heap.objs.size (He.ga K x) cdv)) → sp vs H Q E →
      ∃ t, PSs (cxOf (L2.CX P w) P w K mg base N x sc (He.ga K x) cdv A outer s H E) body t ∧ t ⟨fun _ H' => Q .non H', Q, fun _ _ => False, fun _ _ => False⟩ (start N vs) H) : Fn P w K mg x (k + 1) ps sp :=
  ⟨FnA.mk' F S len hb hbody, gl, F.kp⟩
section
variable {X : Cx} {K : PySem.W.Frag} {k : Nat} {x m : Str} {ps : List Str} {sp : Sp} {p pos apos : Pos} {o e : Expr} {es : List Expr} {to : TE} {t : TA} {C : Addr} {W : WX}
theorem tCallX_eq (sp : Sp) (t : TA) : tCallX sp (fun _ => E0) t = tCall sp [] E0 t := by
  unfold tCallX tCall
  simp only [List.append_nil]
/-- f(e, ..), where nothing is raised -/
theorem pe_fn (F : Fn X.prog X.w X.K X.mg x k ps sp) (hr : Rm k X.A) (hg : Gl X x) (ha : PA X (e :: es) t) (hdb : (x == ("__debug__" : Str)) = false := by decide) (he : starEach (e :: es) X.env = (false, eval e X.env) :: starEach es X.env := by rfl)
    (hpl : (backTo pos (starEach es X.env)).any (·.1) = false := by rfl) : PE X (.Call (.Name x p) (e :: es) [] pos) (tCall sp [] E0 t) := by
  obtain ⟨fd, G, b, _⟩ := F.ex
  rw [← tCallX_eq]
  exact pe_callR (G X.base) hr hg F.gl F.kp b passE0 ha hdb he hpl
theorem pe_fn0 (F : Fn X.prog X.w X.K X.mg x k ps sp) (hr : Rm k X.A) (hg : Gl X x) (hdb : (x == ("__debug__" : Str)) = false := by decide) : PE X (.Call (.Name x p) [] [] pos) (tCall sp [] E0 tNil) := by
  obtain ⟨fd, G, b, _⟩ := F.ex
  rw [← tCallX_eq]
  exact pe_callR0 (G X.base) hr hg F.gl F.kp b passE0 hdb
/-- f(e, ..), where what is raised goes on by tk -/
theorem pe_fnX (tk : Takes X W) (F : Fn X.prog X.w X.K X.mg x k ps sp) (hr : Rm k X.A) (hg : Gl X x) (ha : PA X (e :: es) t) (hdb : (x == ("__debug__" : Str)) = false := by decide) (he : starEach (e :: es) X.env = (false, eval e X.env) :: starEach es X.env := by rfl)
    (hpl : (backTo pos (starEach es X.env)).any (·.1) = false := by rfl) : PE X (.Call (.Name x p) (e :: es) [] pos) (tCallX sp (WE W) t) := by
  obtain ⟨fd, G, b, _⟩ := F.ex
  exact pe_callR (G X.base) hr hg F.gl F.kp b (passAt tk) ha hdb he hpl
theorem tMetX_eq (C : Addr) (m : Str) (sp : Sp) (to : TE) (t : TA) : tMetX C m sp (fun _ => E0) to t = tMet C m sp to t := rfl
theorem pe_met {pl : Sem Bool} (F : FnA X.prog X.w X.K X.mg (He.ma K C m) k ps sp) (hK : X.K = K) (cl : Cls K C) (me : Meth K C m (He.ma K C m)) (hr : Rm k X.A) (he : PE X o to) (ha : PA X (e :: es) t)
    (hst : starEach (e :: es) X.env = (false, eval e X.env) :: starEach es X.env := by rfl) (hpl : (backTo pos (starEach es X.env)).any (·.1) = false := by rfl)
    (ht : eval (.Call (.Attribute o m apos) (e :: es) [] pos) X.env = (do
      let ov ← eval o X.env; standAt apos.atName
      let (f, first) ← holding [ov] (getMethod ov m pl); callWith pos f first (backTo pos (starEach (e :: es) X.env)) (backToKw pos (keywordEach [] X.env))) := by rfl) : PE X (.Call (.Attribute o m apos) (e :: es) [] pos) (tMet C m sp to t) := by
  subst hK
  obtain ⟨fd, G, b, _⟩ := F
  exact pe_methR (E := fun _ => E0) he cl me (G X.base) hr b passE0 ha hst hpl ht
theorem pe_met0 {pl : Sem Bool} (F : FnA X.prog X.w X.K X.mg (He.ma K C m) k ps sp) (hK : X.K = K) (cl : Cls K C) (me : Meth K C m (He.ma K C m)) (hr : Rm k X.A) (he : PE X o to)
    (ht : eval (.Call (.Attribute o m apos) [] [] pos) X.env = (do
      let ov ← eval o X.env; standAt apos.atName
      let (f, first) ← holding [ov] (getMethod ov m pl); callWith pos f first (backTo pos (starEach [] X.env)) (backToKw pos (keywordEach [] X.env))) := by rfl) : PE X (.Call (.Attribute o m apos) [] [] pos) (tMet C m sp to tNil) := by
  subst hK
  obtain ⟨fd, G, b, _⟩ := F
  exact pe_methR0 (E := fun _ => E0) he cl me (G X.base) hr b passE0 ht
theorem pe_mkI (F : FnA X.prog X.w X.K X.mg (He.ma K C "__init__") k ps sp) (hK : X.K = K) (M : Mk K C (He.ma K C "__init__")) (hm : X.mg x = some (.ref C)) (hr : Rm (k + 1) X.A) (hg : Gl X x) (ha : PA X (e :: es) t)
    (hdb : (x == ("__debug__" : Str)) = false := by decide) (he : starEach (e :: es) X.env = (false, eval e X.env) :: starEach es X.env := by rfl) (hpl : (backTo pos (starEach es X.env)).any (·.1) = false := by rfl) :
    PE X (.Call (.Name x p) (e :: es) [] pos) (tMkI C sp t) := by
  subst hK
  obtain ⟨fd, G, b, _⟩ := F
  exact pe_makeR (E := fun _ => E0) M (G X.base) hr hg hm b passE0 ha hdb he hpl
theorem pe_mkI0 (F : FnA X.prog X.w X.K X.mg (He.ma K C "__init__") k ps sp) (hK : X.K = K) (M : Mk K C (He.ma K C "__init__")) (hm : X.mg x = some (.ref C)) (hr : Rm (k + 1) X.A) (hg : Gl X x)
    (hdb : (x == ("__debug__" : Str)) = false := by decide) : PE X (.Call (.Name x p) [] [] pos) (tMkI C sp tNil) := by
  subst hK
  obtain ⟨fd, G, b, _⟩ := F
  exact pe_makeR0 (E := fun _ => E0) M (G X.base) hr hg hm b passE0 hdb
/-- exceptions of own classes -/
theorem pe_mkX (F : FnA X.prog X.w X.K X.mg (He.ma K C "__init__") k ps sp) (hK : X.K = K) (T : EXV.Ex K C) (M : EXV.Ini K C) (hm : X.mg x = some (.ref C)) (hr : Rm (k + 1) X.A) (hg : Gl X x) (ha : PA X (e :: es) t)
    (hdb : (x == ("__debug__" : Str)) = false := by decide) (he : starEach (e :: es) X.env = (false, eval e X.env) :: starEach es X.env := by rfl) (hpl : (backTo pos (starEach es X.env)).any (·.1) = false := by rfl) : PE X (.Call (.Name x p) (e :: es) [] pos) (tMkV C sp t) := by
  subst hK
  obtain ⟨fd, G, b, _⟩ := F
  exact pe_mkVR T.o M.i M.t (G X.base) hr b hg hm ha hdb he hpl
theorem pe_mkX0 (F : FnA X.prog X.w X.K X.mg (He.ma K C "__init__") k ps sp) (hK : X.K = K) (T : EXV.Ex K C) (M : EXV.Ini K C) (hm : X.mg x = some (.ref C)) (hr : Rm (k + 1) X.A) (hg : Gl X x) (hdb : (x == ("__debug__" : Str)) = false := by decide) :
    PE X (.Call (.Name x p) [] [] pos) (tMkV C sp tNil) := by
  subst hK
  obtain ⟨fd, G, b, _⟩ := F
  exact pe_mkVR0 T.o M.i M.t (G X.base) hr b hg hm hdb
theorem ps_raiX (tk : Takes X W) (hc : X.calm = true) (F : FnA X.prog X.w X.K X.mg (He.ma K C "__init__") k ps sp) (hK : X.K = K) (T : EXV.Ex K C) (M : EXV.Ini K C) (hm : X.mg x = some (.ref C)) (hr : Rm (k + 1) X.A) (hg : Gl X x) (ha : PA X (e :: es) t) {rp : Pos}
    (hdb : (x == ("__debug__" : Str)) = false := by decide) (he : starEach (e :: es) X.env = (false, eval e X.env) :: starEach es X.env := by rfl) (hpl : (backTo pos (starEach es X.env)).any (·.1) = false := by rfl) :
    PS X (.Raise (some (.Call (.Name x p) (e :: es) [] pos)) none rp) (fun _ σ H => tRai C sp t σ H fun cls d H' => W cls d σ H') := by
  subst hK
  obtain ⟨fd, G, b, _⟩ := F
  exact ps_raise hc tk (pmk_R T.o M.i M.t (G X.base) hr b hg hm ha hdb he hpl)
end
/-! keywords -/
section
variable {X : Cx} {K : PySem.W.Frag} {k : Nat} {x : Str} {ps ks : List Str} {sp : Sp} {p pos : Pos} {e : Expr} {es : List Expr} {t tk : TA} {E : L2.St → XK} {kws : List Keyword} {g : List Value → List Value → List Value} {gV : List V → List V → List V}
def tCallKX (sp : Sp) (gV : List V → List V → List V) (E : L2.St → XK) (t tk : TA) : TE := fun σ H Q => t σ H fun vs H1 => tk σ H1 fun zs H2 => sp (gV vs zs) H2 Q (E σ)
theorem run_fnKR {f : Addr} {fd : FuncData} {pins : List (Addr × Obj)} {σ : L2.St} {H : Hp} {s : Shared} {Q : VK} {us ws : List Value} {vs zs : List V} (F : FnR X.prog X.w X.K X.mg X.base k f fd ps sp) (hr : Rm k X.A) (hb : KBinds X.K fd ps ks g gV) (hx : PassesAt (L2.CX X.prog X.w) X σ (E σ))
    (I : Inv X pins σ H s) (r : Vals vs us) (rz : Vals zs ws) (h : sp (gV vs zs) H Q (E σ)) : wpAny (model X.prog X.w) X.A (call (.ref f) us (ks.zip ws)) (EP X pins σ Q) X.xe s := by
  have r2 := hb.rel r rz
  refine wpAny_call (codeAny_mono (F.run X.A X.stack s H ⟨us, ks.zip ws⟩ (g us ws) (gV vs zs) Q (E σ) hr I.env0 (hb.to s us ws I.kIn (by rw [← r2.length]; exact F.len _ _ _ _ h)) r2 h) fun r' s' hq => ?_)
  have z := ends_fn hx I hq
  cases r' with
  | error er => exact z
  | ok fl => cases fl <;> exact z
/-- f(e, .., k = v, ..) -/
theorem pe_callKR {f : Addr} {fd : FuncData} (F : FnR X.prog X.w X.K X.mg X.base k f fd ps sp) (hr : Rm k X.A) (hg : Gl X x) (hm : X.mg x = some (.ref f)) (hk : PySem.W.keepIn X.K (.ref f) = true) (hb : KBinds X.K fd ps ks g gV) (hx : ∀ σ, PassesAt (L2.CX X.prog X.w) X σ (E σ))
    (ha : PA X (e :: es) t) (hkw : PK X kws tk) (hall : (backToKw pos (keywordEach kws X.env)).all (·.1.isSome) = true) (hks : (backToKw pos (keywordEach kws X.env)).filterMap (·.1) = ks) (hdb : (x == ("__debug__" : Str)) = false)
    (he : starEach (e :: es) X.env = (false, eval e X.env) :: starEach es X.env) (hpl : ((backTo pos (starEach (e :: es) X.env)).any (·.1) || (backToKw pos (keywordEach kws X.env)).any (·.1.isNone)) = false) : PE X (.Call (.Name x p) (e :: es) kws pos) (tCallKX sp gV E t tk) := by
  refine ⟨fun pins s σ H Q I h => wpAny_Call_Name_kw (ld_glob I hg hm ?_ hdb)⟩
  refine PySem.W.callWith_KW (h₀ := X.base) I.ok.mod.kin hk hall (thn (ha.run pos pins s σ H _ I h) fun us s1 hh => ?_) hpl he
  obtain ⟨vs, H1, I1, r, q⟩ := hh
  refine thn (hkw.run pos pins s1 σ H1 _ I1 q) fun ws s2 hh => ?_
  obtain ⟨zs, H2, I2, rz, q2⟩ := hh
  rw [hks]
  exact ⟨I2.kIn, run_fnKR F hr hb (hx σ) I2 r rz q2⟩
/-- f(k = v, ..) -/
theorem pe_callKR0 {f : Addr} {fd : FuncData} (F : FnR X.prog X.w X.K X.mg X.base k f fd ps sp) (hr : Rm k X.A) (hg : Gl X x) (hm : X.mg x = some (.ref f)) (hk : PySem.W.keepIn X.K (.ref f) = true) (hb : KBinds X.K fd ps ks g gV) (hx : ∀ σ, PassesAt (L2.CX X.prog X.w) X σ (E σ))
    (hkw : PK X kws tk) (hall : (backToKw pos (keywordEach kws X.env)).all (·.1.isSome) = true) (hks : (backToKw pos (keywordEach kws X.env)).filterMap (·.1) = ks) (hdb : (x == ("__debug__" : Str)) = false)
    (hpl : ((backTo pos (starEach [] X.env)).any (·.1) || (backToKw pos (keywordEach kws X.env)).any (·.1.isNone)) = false) : PE X (.Call (.Name x p) [] kws pos) (tCallKX sp gV E tNil tk) := by
  refine ⟨fun pins s σ H Q I h => wpAny_Call_Name_kw (ld_glob I hg hm ?_ hdb)⟩
  refine PySem.W.callWith_KW0 (h₀ := X.base) I.ok.mod.kin hk hall (thn (hkw.run pos pins s σ H _ I h) fun ws s2 hh => ?_) hpl
  obtain ⟨zs, H2, I2, rz, q2⟩ := hh
  rw [hks]
  exact ⟨I2.kIn, run_fnKR (us := []) F hr hb (hx σ) I2 .nil rz q2⟩
/-- the arguments in the parameters' order -/
def pick {α : Type} (π : List Nat) (xs : List α) : List α := π.filterMap fun i => xs[i]?
theorem pick_rel (π : List Nat) {xs : List V} {us : List Value} (r : Vals xs us) : Vals (pick π xs) (pick π us) := by
  induction π with
  | nil => exact .nil
  | cons i π ih =>
    unfold pick
    rw [List.filterMap_cons, List.filterMap_cons]
    cases hx : xs[i]? with
    | none =>
      have hu : us[i]? = none := by
        rw [List.getElem?_eq_none_iff] at hx ⊢
        rw [← r.length]; exact hx
      rw [hu]; exact ih
    | some v =>
      obtain ⟨u, hu, rv⟩ := r.get hx
      rw [hu]; exact .cons rv ih
def argK {α : Type} (m n : Nat) (π : List Nat) (us ws : List α) : List α := if us.length = m ∧ ws.length = n then pick π (us ++ ws) else []
theorem kb_of {P : Program} {w : World} {mg : Str → Option Value} {q : Str} {args : Arguments} {body : List Stmt} {sc : Scope} {f : Addr} {fd fd' : FuncData} (F : FunD K x q args body sc [] [] f fd') (lk : ∃ oc od osl, K.lookup f = some ⟨oc, od, .func fd, osl⟩) (m n : Nat) (π : List Nat) (h0 : ps.length ≠ 0)
    (hb : ∀ (kV doc pm : Value) (an : Option Addr) (cdv ct : Value) (us ws : List Value), us.length = m → ws.length = n → bindArgs (PySem.W.fnOf x q args body sc .none kV doc pm an cdv ct) ⟨us, ks.zip ws⟩ = pure (ps.zip (pick π (us ++ ws)))) : KBinds K fd ps ks (argK m n π) (argK m n π) where
  to := fun s us ws _ hl => by
    obtain ⟨oc, od, dV, kV, doc, pm, an, cdv, ct, osl, e, l1, _, hD, _⟩ := F.ex
    obtain ⟨oc', od', osl', l2⟩ := lk
    have e2 : fd = fd' := by
      rw [l1] at l2
      injection l2 with l2
      injection l2 with _ _ l2 _
      injection l2 with l2
      exact l2.symm
    subst e2
    unfold argK at hl ⊢
    split at hl
    · rename_i c
      rw [if_pos c]
      rcases hD with ⟨_, rfl⟩ | ⟨z, _⟩
      · rw [e]
        exact .of_eq (hb kV doc pm an cdv ct us ws c.1 c.2)
      · exact absurd rfl z
    · exact (h0 hl.symm).elim
  rel := fun r rz => by
    unfold argK
    rw [r.length, rz.length]
    split
    · exact pick_rel π (r.append rz)
    · exact .nil
theorem w_callK {σ : L2.St} {H : Hp} {Q : VK} {m n : Nat} {π : List Nat} (k : t σ H fun vs H1 => tk σ H1 fun zs H2 => sp (argK m n π vs zs) H2 Q (E σ)) : tCallKX sp (argK m n π) E t tk σ H Q := k
/-- f(k = v, ..), where what is raised goes on by tk; pe_fnK0: where nothing is -/
theorem pe_fnKX0 {args : Arguments} {body : List Stmt} {sc : Scope} (hx : ∀ σ, PassesAt (L2.CX X.prog X.w) X σ (E σ)) (F : Fn X.prog X.w X.K X.mg x k ps sp) (d : ∃ fd, FunD X.K x x args body sc [] [] (He.ga X.K x) fd) (n : Nat) (π : List Nat)
    (hb : ∀ (kV doc pm : Value) (an : Option Addr) (cdv ct : Value) (us ws : List Value), us.length = 0 → ws.length = n → bindArgs (PySem.W.fnOf x x args body sc .none kV doc pm an cdv ct) ⟨us, ks.zip ws⟩ = pure (ps.zip (pick π (us ++ ws))))
    (hr : Rm k X.A) (hg : Gl X x) (hkw : PK X kws tk) (h0 : ps.length ≠ 0 := by decide) (hall : (backToKw pos (keywordEach kws X.env)).all (·.1.isSome) = true := by rfl) (hks : (backToKw pos (keywordEach kws X.env)).filterMap (·.1) = ks := by rfl) (hdb : (x == ("__debug__" : Str)) = false := by decide)
    (hpl : ((backTo pos (starEach [] X.env)).any (·.1) || (backToKw pos (keywordEach kws X.env)).any (·.1.isNone)) = false := by rfl) : PE X (.Call (.Name x p) [] kws pos) (tCallKX sp (argK 0 n π) E tNil tk) := by
  obtain ⟨fd, G, b, _, lk⟩ := F.ex
  obtain ⟨fd', d⟩ := d
  exact pe_callKR0 (G X.base) hr hg F.gl F.kp (kb_of (P := X.prog) (w := X.w) (mg := X.mg) d lk 0 n π h0 hb) hx hkw hall hks hdb hpl
theorem pe_fnKX {args : Arguments} {body : List Stmt} {sc : Scope} (hx : ∀ σ, PassesAt (L2.CX X.prog X.w) X σ (E σ)) (F : Fn X.prog X.w X.K X.mg x k ps sp) (d : ∃ fd, FunD X.K x x args body sc [] [] (He.ga X.K x) fd) (m n : Nat) (π : List Nat)
    (hb : ∀ (kV doc pm : Value) (an : Option Addr) (cdv ct : Value) (us ws : List Value), us.length = m → ws.length = n → bindArgs (PySem.W.fnOf x x args body sc .none kV doc pm an cdv ct) ⟨us, ks.zip ws⟩ = pure (ps.zip (pick π (us ++ ws))))
    (hr : Rm k X.A) (hg : Gl X x) (ha : PA X (e :: es) t) (hkw : PK X kws tk) (h0 : ps.length ≠ 0 := by decide) (hall : (backToKw pos (keywordEach kws X.env)).all (·.1.isSome) = true := by rfl) (hks : (backToKw pos (keywordEach kws X.env)).filterMap (·.1) = ks := by rfl) (hdb : (x == ("__debug__" : Str)) = false := by decide)
    (he : starEach (e :: es) X.env = (false, eval e X.env) :: starEach es X.env := by rfl) (hpl : ((backTo pos (starEach (e :: es) X.env)).any (·.1) || (backToKw pos (keywordEach kws X.env)).any (·.1.isNone)) = false := by rfl) : PE X (.Call (.Name x p) (e :: es) kws pos) (tCallKX sp (argK m n π) E t tk) := by
  obtain ⟨fd, G, b, _, lk⟩ := F.ex
  obtain ⟨fd', d⟩ := d
  exact pe_callKR (G X.base) hr hg F.gl F.kp (kb_of (P := X.prog) (w := X.w) (mg := X.mg) d lk m n π h0 hb) hx ha hkw hall hks hdb he hpl
end
/-! repr -/
section
variable {X : Cx} {K : PySem.W.Frag} {H : Hp} {Q : VK}
mutual
theorem dp_nodict {K : PySem.W.Frag} {H : Hp} : ∀ (d : PyData) (v : V), Dp K H v d → d.hasDict = false
  | .none, _, _ => by simp only [PyData.hasDict]
  | .int _, _, _ => by simp only [PyData.hasDict]
  | .str _, _, _ => by simp only [PyData.hasDict]
  | .bool _, _, _ => by simp only [PyData.hasDict]
  | .list ds, _, h => by
    cases h with
    | lst _ ha => rw [PyData.hasDict]; exact dp_nodictA ds _ ha
  | .tuple ds, _, h => by
    cases h with
    | tup _ ha => rw [PyData.hasDict]; exact dp_nodictA ds _ ha
  | .dict _, _, h => by cases h
theorem dp_nodictA {K : PySem.W.Frag} {H : Hp} : ∀ (ds : List PyData) (vs : List V), DpAll K H vs ds → PyData.hasDictAll ds = false
  | [], _, _ => by simp only [PyData.hasDictAll]
  | d :: ds, _, h => by
    cases h with
    | cons h1 h2 => rw [PyData.hasDictAll, dp_nodict d _ h1, dp_nodictA ds _ h2]; rfl
end
/-- repr(x) of data -/
def rReprD (K : PySem.W.Frag) : List V → Hp → VK → Prop := fun xs H Q => ∃ v d, xs = [v] ∧ Dp K H v d ∧ d.showable = true ∧ d.depth ≤ 60 ∧ d.shown.length ≤ sizeLine ∧ Q (.str d.shown) H
theorem call_reprD (hK : X.K = K) (hg : X.A.guards = some []) (hu : X.A.units + 64 < cLine) : CallR X (.builtin "repr") (rReprD K) := by
  subst hK
  intro pins s σ H xs us Q I r h
  obtain ⟨v, d, rfl, hd, hs, hdep, hz, q⟩ := h
  obtain ⟨u, rfl, ru⟩ := vals1 r
  cases hd with
  | non =>
    cases (show u = Value.none from ru)
    exact PySem.P.repr_of_none ⟨.str _, H, I.tok _, ⟨_, rfl⟩, q⟩
  | bl b =>
    cases (show u = Value.bool b from ru)
    refine PySem.P.repr_of_bool ⟨.str _, H, I.tok _, ⟨_, rfl⟩, ?_⟩
    cases b <;> exact q
  | int i =>
    obtain ⟨t, rfl⟩ := ru
    refine PySem.P.repr_of_int ?_ ⟨.str _, H, I.tok _, ⟨_, rfl⟩, q⟩
    rw [PyData.showable] at hs
    exact of_decide_eq_true hs
  | str x =>
    obtain ⟨t, rfl⟩ := ru
    exact PySem.P.repr_of_str ⟨.str _, H, I.tok _, ⟨_, rfl⟩, q⟩ hz
  | @lst a xs ds hx ha =>
    obtain ⟨as, rd⟩ := Dp.reads I _ _ _ (.lst hx ha) ru
    cases (show u = Value.ref a from ru)
    exact repr_of_reads' rd hs (PyData.noDict_hsm (dp_nodict _ _ (.lst hx ha))) hg (by omega) (fun _ _ e => e) (fun h' u tk hk => ⟨.str _, H, I.kept hk, ⟨_, rfl⟩, q⟩) hz
  | @tup a xs ds hx ha =>
    obtain ⟨as, rd⟩ := Dp.reads I _ _ _ (.tup hx ha) ru
    cases (show u = Value.ref a from ru)
    exact repr_of_reads' rd hs (PyData.noDict_hsm (dp_nodict _ _ (.tup hx ha))) hg (by omega) (fun _ _ e => e) (fun h' u tk hk => ⟨.str _, H, I.kept hk, ⟨_, rfl⟩, q⟩) hz
end
/-- dicts of plain values -/
def plainV : V → Bool
  | .non => true
  | .bl _ => true
  | .int _ => true
  | .str _ => true
  | _ => false
def plainD : V → PyData
  | .bl b => .bool b
  | .int i => .int i
  | .str x => .str x
  | _ => .none
def keyD : Key → PyData
  | .inl i => .int i
  | .inr x => .str x
def kvD (kvs : List (Key × V)) : List (PyData × PyData) := kvs.map fun kv => (keyD kv.1, plainD kv.2)
theorem plain_reads {h : Heap} {v : V} {u : Value} (hv : plainV v = true) (r : RelV v u) : Reads h u (plainD v) [] := by
  cases v with
  | non => cases (show u = Value.none from r); exact .none
  | bl b => cases (show u = Value.bool b from r); exact .bool b
  | int i => obtain ⟨t, rfl⟩ := r; exact .int i t
  | str x => obtain ⟨t, rfl⟩ := r; exact .str x t
  | _ => cases hv
theorem key_reads {h : Heap} {k : Key} {u : Value} (e : keyIs k u = true) : Reads h u (keyD k) [] := by
  rcases keyIs_shape e with ⟨i, t, rfl, rfl⟩ | ⟨x, t, rfl, rfl⟩
  · exact .int i t
  · exact .str x t
theorem kv_reads {P : Program} {w : World} {h : Heap} : ∀ {kvs : List (Key × V)} {vs : List (Key × Value)} {es : List DictEntry}, kvs.all (fun kv => plainV kv.2) = true → KV kvs vs → Pairs (mixKind P w) es vs →
    ReadsAll h (es.map (·.key)) ((kvD kvs).map (·.1)) [] ∧ ReadsAll h (es.map (·.val)) ((kvD kvs).map (·.2)) []
  | [], _, _, _, .nil, .nil => ⟨.nil, .nil⟩
  | kv :: kvs, _, _, hv, .cons r rs, .cons h1 h2 ps => by
    rw [List.all_cons, Bool.and_eq_true] at hv
    obtain ⟨a, b⟩ := kv_reads (h := h) hv.2 rs ps
    obtain ⟨r1, r2⟩ := r
    refine ⟨.cons (as := []) (key_reads ?_) a, .cons (as := []) ?_ b⟩
    · rw [r1]; exact h1
    · have z := plain_reads (h := h) hv.1 r2
      rw [← h2] at z; exact z
def rReprK : List V → Hp → VK → Prop := fun xs H Q => ∃ a kvs, xs = [.ref a] ∧ H a = some (.dK kvs) ∧ kvs.all (fun kv => plainV kv.2) = true ∧ (PyData.dict (kvD kvs)).showable = true ∧ (PyData.dict (kvD kvs)).depth ≤ 60 ∧ (PyData.dict (kvD kvs)).shown.length ≤ sizeLine ∧ Q (.str (PyData.dict (kvD kvs)).shown) H
theorem call_reprK {X : Cx} (hg : X.A.guards = some []) (hu : X.A.units + 64 < cLine) : CallR X (.builtin "repr") rReprK := by
  intro pins s σ H xs us Q I r h
  obtain ⟨a, kvs, rfl, ha, hv, hs, hd, hz, q⟩ := h
  obtain ⟨u, rfl, ru⟩ := vals1 r
  cases (show u = Value.ref a from ru)
  obtain ⟨_, hsys, vs, rel, o, es, ep, ho, hc, hdat, _, ps, _⟩ := (show ObjOk X.prog X.w H s.heap a (.dK kvs) from I.hok a _ ha)
  obtain ⟨r1, r2⟩ := kv_reads (h := s.heap) hv rel ps
  refine repr_of_reads' (.dict (as := []) (bs := []) ho hc.1 hdat r1 r2) hs (fun _ hm => ?_) hg (by omega) (fun _ _ e => e) (fun h' u tk hk => ⟨.str _, H, I.kept hk, ⟨_, rfl⟩, q⟩) hz
  rw [show sysModules = a by simpa using hm] at hsys
  simp at hsys
def rReprA (K : PySem.W.Frag) : List V → Hp → VK → Prop := fun xs H Q => rReprD K xs H Q ∨ rReprK xs H Q
theorem call_reprA {X : Cx} {K : PySem.W.Frag} (hK : X.K = K) (hg : X.A.guards = some []) (hu : X.A.units + 64 < cLine) : CallR X (.builtin "repr") (rReprA K) := fun pins s σ H xs us Q I r h =>
  h.elim (fun h => call_reprD hK hg hu pins s σ H xs us Q I r h) fun h => call_reprK hg hu pins s σ H xs us Q I r h
/-! the law's end -/
theorem law_callR {P : Program} {w : World} {K : PySem.W.Frag} {mg mb : Str → Option Value} {k : Nat} {fa a : Addr} {fd : FuncData} {x : Str} {sp : Sp} {s₁ : Shared} {vs : List Value} {ns : List Int}
    (KX : K.In s₁.heap) (hns : s₁.heap.Ns mainGlobals mg) (hb : s₁.heap.Ns builtinsNs mb) (hbb : ∀ x : Str, x ≠ "__name__" → mb x = bootBuiltins x) (hlim : s₁.heap.NoLimit) (hg : s₁.gens = #[]) (ha : s₁.heap.get? a = some { cls := .type "list", data := .seq vs.toArray }) (hi : IntsAre vs ns) (hl : ns.length ≤ sizeLine) (hr : Room k callerA)
    (F : ∀ base : Heap, FnR P w K mg base k fa fd [x] sp) (hbind : ∀ (s : Shared) (u : Value), BindsTo s fd ⟨[u], []⟩ [(x, u)]) (hsp : ∀ H : Hp, Only H → SqL K H a (ns.map V.int) → sp [.ref a] H (fun v _ => v = .bl true) E0) :
    codeAny (model P w) callerA (.call (.ref fa) ⟨[.ref a], []⟩) (fun r s' => r = .ok (.ret (.bool true)) ∧ OldK s₁.heap s'.heap ∧ s'.os = s₁.os ∧ AllBare s'.gens) s₁ := by
  have rv := vals_ints hi
  have len := hi.length
  have core : ∀ H : Hp, Only H → SqL K H a (ns.map V.int) → HOk P w H s₁.heap → (∀ b, H b ≠ none → b = a) → (H a ≠ none → K.lookup a = none) → codeAny (model P w) callerA (.call (.ref fa) ⟨[.ref a], []⟩) (fun r s' => r = .ok (.ret (.bool true)) ∧ OldK s₁.heap s'.heap ∧ s'.os = s₁.os ∧ AllBare s'.gens) s₁ := by
    intro H hO hS hok hA hK
    have free : ∀ {b : Addr}, b ≠ a → H b = none := fun {b} n => by
      cases q : H b with
      | none => rfl
      | some u => exact absurd (hA b (by rw [q]; simp)) n
    have notA : ∀ {b : Addr} {o : Obj} {es : Array DictEntry} {ep : Nat}, s₁.heap.get? b = some o → o.data = .dict es ep → H b = none := fun {b o es ep} e d => free fun z => by
      subst z
      rw [ha] at e; cases e
      exact nomatch (show Data.seq vs.toArray _ = Data.dict es ep from d)
    have ns' : ∀ {b : Addr} {m : Str → Option Value}, s₁.heap.Ns b m → (hidT s₁.heap H).Ns b m := fun {b m} ⟨o, es, ep, e, d, r⟩ => ⟨o, es, ep, hidT_get e (notA e d), d, r⟩
    have kin : K.In (hidT s₁.heap H) := fun b o e => hidT_get (KX b o e) (by
      by_cases z : b = a
      · subst z
        cases q : H b with
        | none => rfl
        | some u => rw [hK (by rw [q]; simp)] at e; cases e
      · exact free z)
    obtain ⟨mc, l1, l2⟩ := hlim
    have env0 : Env0 P w K mg (hidT s₁.heap H) callerA [] s₁ H := ⟨rfl, ⟨kin, ns' hns, ⟨mb, ns' hb, hbb⟩, ⟨mc, ns' l1, l2⟩⟩, fun b o e => of_hidT e, Nat.le_of_eq (hidT_size _ _), trivial, fun b hb => absurd (show b ∈ ([] : List Addr) from hb) (by simp), hok, .of_eq hg⟩
    refine codeAny_mono ((F _).run callerA [] s₁ H ⟨[.ref a], []⟩ [.ref a] [.ref a] _ _ ⟨hr, rfl⟩ env0 (hbind s₁ (.ref a)) (.cons rfl .nil) (hsp H hO hS)) fun r s' h => ?_
    cases r with
    | error e =>
      obtain ⟨_, _, _, _, _, _, _, _, _, _, _, _, z⟩ := (show L2.CX P w _ _ _ E0 e s' from h)
      exact z.elim
    | ok fl =>
      cases fl with
      | next => exact h.elim
      | brk => exact h.elim
      | cont => exact h.elim
      | ret u =>
        obtain ⟨v, H', os, bare, un, hok', ru, q⟩ := h
        cases (show v = V.bl true from q)
        cases (show u = Value.bool true from ru)
        refine ⟨rfl, OldK.of_keep fun b o e => ?_, os, bare⟩
        cases qb : H b with
        | none => exact un.keep b o e qb (fun z => absurd (show b ∈ ([] : List Addr) from z) (by simp)) (by simp)
        | some u =>
          rcases hO b with z | ⟨ob, xs, z⟩
          · rw [qb] at z; cases z
          · obtain ⟨e1, _⟩ := hok b _ z
            obtain ⟨e2, _⟩ := hok' b _ (un.frzs b ob _ z)
            rw [e] at e1; cases e1
            exact e2
  cases hk : K.lookup a with
  | some o =>
    have e := KX a o hk
    rw [ha] at e
    cases e
    exact core (fun _ => none) (fun _ => .inl rfl) (.inr ⟨_, vs.toArray, _, hk, rfl, rfl, rfl, by rw [List.size_toArray, len]; exact hl, by simpa using rv⟩) (fun b u z => nomatch (show (none : Option HO) = some u from z)) (fun b z => absurd rfl z) fun z => absurd rfl z
  | none =>
    let fz : HO := .frz { cls := .type "list", data := .seq vs.toArray } (.lst (ns.map V.int))
    refine core (fun b => if b = a then some fz else none) (fun b => ?_) (.inl (.inr ⟨_, if_pos rfl⟩)) (fun b u z => ?_) (fun b z => ?_) fun _ => hk
    · by_cases hb : b = a
      · exact .inr ⟨_, _, if_pos hb⟩
      · exact .inl (if_neg hb)
    · by_cases hb : b = a
      · cases (if_pos hb).symm.trans z
        subst hb
        exact ⟨ha, by rw [List.length_map]; exact hl, vs, _, rv, ha⟩
      · cases (if_neg hb).symm.trans z
    · exact Classical.byContradiction fun hb => z (if_neg hb)
theorem walk_ofR {l : PySem.W.OpenLaw} {n k : Nat} {q : Program} {loose : List Str} {XP : (Str → Option Value) → Heap → Prop} {YP : World → Heap → Prop} {d : DefRec} {x : Str} (hn : l.most = some n) (hn2 : n ≤ sizeLine) (hdf : d.params.defaults = []) (hr : Room k callerA)
    (F : ∀ (w : World) (mg : Str → Option Value) (fa : Addr) (h : Heap), YP w h → h.Ns mainGlobals mg → mg d.name = some (.ref fa) → ∃ (K : PySem.W.Frag) (fd : FuncData) (sp : Sp), K.In h ∧ (∀ (s : Shared) (u : Value), BindsTo s fd ⟨[u], []⟩ [(x, u)]) ∧
      (∀ (H : Hp) (a : Addr) (ns : List Int), ns.length ≤ n → Only H → SqL K H a (ns.map V.int) → sp [.ref a] H (fun v _ => v = .bl true) E0) ∧ ∀ base : Heap, FnR l.prog w K mg base k fa fd [x] sp) : PySem.W.WalkO q loose XP YP l.row.toRowW d [] (fun f vs => PySem.call f vs) := by
  refine Att.attach_call hn hdf fun w s₀ s₁ mg mb fa o pm cd doc a vs ns G Y ho hd hcd hmg hobj hints hlen hg => ?_
  obtain ⟨K, fd, sp, KX, hb, hsp, hF⟩ := F w mg fa _ Y G.T.g hmg
  exact law_callR KX G.T.g G.T.b G.T.builtins G.T.nolimit hg hobj hints (Nat.le_trans hlen hn2) hr hF hb fun H hO hS => hsp H a ns hlen hO hS
end XL
end

end J
namespace J
open PySem PySem.Spec PyProof.Rows L2
--plain
/-! ### the head's look, with the interpreter's own table of statics (a class's attribute is read by it) -/
section
open PySem PySem.Spec PyProof.Rows He
namespace HKS
def asS (g : Addr → Option Obj) (n : Nat) : List Addr := cStatics :: asD g n
def obsS (n : Nat) (fa : List Fa) (fn : List DefD) (ts : List Tab) (ex : PySem.W.Frag → Bool) (g : Addr → Option Obj) : AlX := (obsT fa fn ts (frT g (asS g n)), ex (frT g (asS g n)))
/-- what is told: the facts, the Bool ex -/
structure SaysS (fa : List Fa) (fn : List DefD) (ts : List Tab) (ex : PySem.W.Frag → Bool) (w : World) (K : PySem.W.Frag) : Prop where
  t : SaysT fa fn ts w K
  more : ex K = true
def hookS (n : Nat) (fa : List Fa) (fn : List DefD) (ts : List Tab) (ex : PySem.W.Frag → Bool) : PySem.W.Hook where
  α := AlX
  obs := fun s => obsS n fa fn ts ex s.heap.get?
  val := fun w => (valT fn ts w, true)
  says := fun w h => ∃ K : PySem.W.Frag, K.In h ∧ SaysS fa fn ts ex w K
  of := fun _ _ e => ⟨_, frT_in, congrArg (fun z : AlX => z.1) e, congrArg (fun z : AlX => z.2) e⟩
  keeps := fun _ _ _ ⟨K, hK, c⟩ k => ⟨K, PySem.W.Frag.In.keeps hK k, c⟩
theorem obsS_eq {n : Nat} {fa : List Fa} {fn : List DefD} {ts : List Tab} {ex : PySem.W.Frag → Bool} {g : Addr → Option Obj} {s : Shared} (h : ∀ a, g a = s.heap.get? a) : obsS n fa fn ts ex g = (hookS n fa fn ts ex).obs s := by
  rw [show g = s.heap.get? from funext h]
  rfl
end HKS
end

end J
namespace J
open PySem PySem.Spec PyProof.Rows L2
--plain
/-! ### a range held by a name; [e for i in r for j in r if ..] -/
section
open PySem PySem.Spec PyProof.Rows
def iRngV (te : TE) : TI := fun σ H R => te σ H fun x H1 => ∃ (a : Addr) (lo hi : Int), x = .ref a ∧ H1 a = some (.rng lo hi) ∧ (-(2 ^ 62) ≤ lo ∧ lo < 2 ^ 62 ∧ -(2 ^ 62) ≤ hi ∧ hi < 2 ^ 62) ∧ R (Itr lo (hi - lo).toNat) H1
theorem pi_rngV {X : Cx} {tg e : Expr} {te : TE} (he : PE X e te) : PI X tg e (iRngV te) := by
  refine ⟨fun pins s σ H R I h => ?_⟩
  refine thn (he.run pins s σ H _ I h) fun u s1 hh => ?_
  obtain ⟨x, H1, I1, rx, a, lo, hi, rfl, ha, ⟨h1, h2, h3, h4⟩, q⟩ := hh
  cases (show u = Value.ref a from rx)
  obtain ⟨t, u, v, hr⟩ := I1.hok a _ ha
  refine wpAny_pyIter_range (show IsRange s1.heap a lo hi 1 t u v from hr) (small_one h1 h2 h3 h4) ?_
  refine ⟨s1.heap.objs.size, [s1.heap.objs.size], _, _, H1, rfl, I1.kept (t' := s1.toks) fun b o e => Heap.get?_push_of_some _ e, turn_range _ lo (hi - lo).toNat, ?_, fun b hb => ?_, q⟩
  · have e1 : lo + ((0 : Nat) : Int) * 1 = lo := by simp
    have e2 : (((hi - lo).toNat : Nat) : Int) - ((0 : Nat) : Int) = Builtin.Range.rangeSize lo hi 1 := by rw [rangeSize_one]; split <;> omega
    show IsRangeIter _ _ (lo + ((0 : Nat) : Int) * 1) ((((hi - lo).toNat : Nat) : Int) - ((0 : Nat) : Int)) 1
    rw [e1, e2]
    exact Heap.get?_push_size _ rfl
  · obtain rfl : b = s1.heap.objs.size := by simpa using hb
    exact I1.fpOk (Nat.le_refl _) (I1.hok.fresh (Nat.le_refl _))
section
variable {σ : L2.St} {H : Hp} {Q : VK} {tl tl1 te : TE} {tt1 : TT} {vs : List Nat} {i1 j1 n : Nat} {a : Addr}
def L2Nx (H : Hp) (D : Addr) (m : Nat) (Pv : List V → Hp → Prop) (H4 : Hp) : Prop := Same H H4 ∧ ∃ ys, H4 D = some (.lst ys) ∧ ys.length ≤ m ∧ Pv ys H4
def L2End (H : Hp) (D : Addr) (m : Nat) (Pv : List V → Hp → Prop) (y : V) (H4 : Hp) : Prop := ∃ acc, H4 D = some (.lst acc) ∧ acc.length < sizeLine ∧ L2Nx H D m Pv (upd H4 D (.lst (acc ++ [y])))
theorem l2_end {D : Addr} {m : Nat} {Pv : List V → Hp → Prop} {y : V} {H4 : Hp} {ys : List V} (h : H4 D = some (.lst ys)) (hl : ys.length ≤ m) (hz : ys.length < sizeLine) (hD : H D = none) (sm : Same H H4) (k : ∀ H5, But D H4 H5 → H5 D = some (.lst (ys ++ [y])) → Pv (ys ++ [y]) H5) : L2End H D (m + 1) Pv y H4 :=
  ⟨ys, h, hz, But.new sm hD (But.upd _ _ _), ys ++ [y], upd_same, by rw [List.length_append]; exact Nat.succ_le_succ hl, k _ (But.upd _ _ _) upd_same⟩
theorem l2_skip {D : Addr} {m : Nat} {Pv : List V → Hp → Prop} {H4 : Hp} {ys : List V} (h : H4 D = some (.lst ys)) (hl : ys.length ≤ m) (sm : Same H H4) (k : Pv ys H4) : L2Nx H D (m + 1) Pv H4 := ⟨sm, ys, h, Nat.le_succ_of_le hl, k⟩
/-- row by row; Pv: ahead of row i (and of its place j) with the list ys so far -/
theorem w_lc2R (Pv : Nat → Nat → List V → Hp → Prop) (Ph : Hp → Prop) (hp : Ph H) (hn : (n : Int) < 2 ^ 62) (hrng : ∀ H, Ph H → H a = some (.rng 0 n))
    (htl : ∀ R : VK, R (.ref a) H → tl σ H R) (htl1 : ∀ (x : V) (H : Hp) (R : VK), R (.ref a) H → tl1 ((wipe σ vs).set i1 (some x)) H R)
    (hw : ∀ x, wipe ((wipe σ vs).set i1 x) vs = wipe σ vs) (hw1 : ∀ x y, wipe ((wipe ((wipe σ vs).set i1 x) [j1]).set j1 y) [j1] = wipe ((wipe σ vs).set i1 x) [j1])
    (hup : ∀ D H H', H D = none → Ph H → Same H H' → Ph H') (h0 : ∀ D H', H D = none → Same H H' → H' D = some (.lst []) → Pv 0 0 [] H')
    (hs : ∀ D, H D = none → ∀ i j ys H', i < n → j < n → Same H H' → H' D = some (.lst ys) → ys.length ≤ i * n + j → Pv i j ys H' →
      tt1 ((wipe ((wipe σ vs).set i1 (some (.int (i : Nat)))) [j1]).set j1 (some (.int (j : Nat)))) H' fun b H3 =>
        if b = true then te ((wipe ((wipe σ vs).set i1 (some (.int (i : Nat)))) [j1]).set j1 (some (.int (j : Nat)))) H3 fun y H4 => L2End H D (i * n + (j + 1)) (Pv i (j + 1)) y H4
        else L2Nx H D (i * n + (j + 1)) (Pv i (j + 1)) H3)
    (hr : ∀ i ys H', i < n → Pv i n ys H' → Pv (i + 1) 0 ys H') (hd : ∀ D, H D = none → ∀ ys H', H' D = some (.lst ys) → Same H H' → Pv n 0 ys H' → Q (.ref D) H') :
    tLc2 (iRngV tl) (gName i1) tYes (iRngV tl1) (gName j1) tt1 te vs [j1] σ H Q := by
  have toN : ((n : Int) - 0).toNat = n := by omega
  refine htl _ ⟨a, 0, n, rfl, hrng H hp, ⟨by decide, by decide, by omega, hn⟩, fun D hD => ?_⟩
  rw [toN]
  refine ⟨fun i m H' => i ≤ n ∧ m = n - i ∧ Same H H' ∧ ∃ ys, H' D = some (.lst ys) ∧ ys.length ≤ i * n ∧ Pv i 0 ys H', ⟨n, Nat.zero_le _, by omega, Same.one hD, [], upd_same, Nat.zero_le _, h0 D _ hD (Same.one hD) upd_same⟩, fun i m H' ⟨hi, hm, sm, ys, hy, hyl, p⟩ => ?_⟩
  by_cases c : i = n
  · subst c
    exact .inl ⟨Nat.le_refl _, hd D hD ys H' hy sm p⟩
  · have hlt : i < n := by omega
    refine .inr ⟨hlt, fun H2 => Same H H2 ∧ ∃ ys, H2 D = some (.lst ys) ∧ ys.length ≤ i * n + n ∧ Pv i n ys H2, fun H2 ⟨sm2, ys2, hy2, hl2, p2⟩ => ⟨n - (i + 1), by omega, by omega, rfl, sm2, ys2, hy2, by rw [Nat.succ_mul]; exact hl2, hr i ys2 H2 hlt p2⟩, fun x H2 hx => ?_⟩
    obtain ⟨rfl, rfl⟩ := hx
    rw [Int.zero_add]
    refine ⟨hw _, htl1 _ _ _ ⟨a, 0, n, rfl, hrng _ (hup D _ _ hD hp sm), ⟨by decide, by decide, by omega, hn⟩, ?_⟩⟩
    rw [toN]
    refine ⟨fun j k H3 => j ≤ n ∧ k = n - j ∧ Same H H3 ∧ ∃ ys, H3 D = some (.lst ys) ∧ ys.length ≤ i * n + j ∧ Pv i j ys H3, ⟨n, Nat.zero_le _, by omega, sm, ys, hy, hyl, p⟩, fun j k H3 ⟨hj, hk, sm3, ys3, hy3, hl3, p3⟩ => ?_⟩
    by_cases c2 : j = n
    · subst c2
      exact .inl ⟨Nat.le_refl _, sm3, ys3, hy3, hl3, p3⟩
    · have hjl : j < n := by omega
      refine .inr ⟨hjl, fun H4 => Same H H4 ∧ ∃ ys, H4 D = some (.lst ys) ∧ ys.length ≤ i * n + (j + 1) ∧ Pv i (j + 1) ys H4, fun H4 ⟨sm4, ys4, hy4, hl4, p4⟩ => ⟨n - (j + 1), by omega, by omega, rfl, sm4, ys4, hy4, hl4, p4⟩, fun x H4 hx => ?_⟩
      obtain ⟨rfl, rfl⟩ := hx
      rw [Int.zero_add]
      refine ⟨hw1 _ _, ?_⟩
      exact hs D hD i j ys3 _ hlt hjl sm3 hy3 hl3 p3
end
end

end J
namespace J
open PySem PySem.Spec PyProof.Rows L2
def top (i : Nat) : Stmt := PySem.Challenge.pw_rowsjoined_k82_items_as_bits.main.body.getD i (.Pass ⟨0, 0, 0, 0⟩)
abbrev s_NoCodeu_initu : Stmt := inClass (top 2) 0
abbrev N_NoCodeu_initu : List Str := ["self", "given"]
theorem sc_NoCodeu_initu : FnScope N_NoCodeu_initu ["self", "given"] (defScope s_NoCodeu_initu) := ⟨rfl, rfl, rfl, by decide +kernel, rfl, by decide +kernel, by decide +kernel⟩
abbrev s_NoBitsu_initu : Stmt := inClass (top 3) 0
abbrev N_NoBitsu_initu : List Str := ["self", "given"]
theorem sc_NoBitsu_initu : FnScope N_NoBitsu_initu ["self", "given"] (defScope s_NoBitsu_initu) := ⟨rfl, rfl, rfl, by decide +kernel, rfl, by decide +kernel, by decide +kernel⟩
abbrev s_is_whole : Stmt := top 5
abbrev N_is_whole : List Str := ["thing"]
theorem sc_is_whole : FnScope N_is_whole ["thing"] (defScope s_is_whole) := ⟨rfl, rfl, rfl, by decide +kernel, rfl, by decide +kernel, by decide +kernel⟩
abbrev s_is_bits : Stmt := top 9
abbrev N_is_bits : List Str := ["thing", "sign"]
theorem sc_is_bits : FnScope N_is_bits ["thing"] (defScope s_is_bits) := ⟨rfl, rfl, rfl, by decide +kernel, rfl, by decide +kernel, by decide +kernel⟩
abbrev s_is_code : Stmt := top 10
abbrev N_is_code : List Str := ["value", "places", "word", "one", "other"]
theorem sc_is_code : FnScope N_is_code ["value"] (defScope s_is_code) := ⟨rfl, rfl, rfl, by decide +kernel, rfl, by decide +kernel, by decide +kernel⟩
abbrev s_need_code : Stmt := top 11
abbrev N_need_code : List Str := ["code"]
theorem sc_need_code : FnScope N_need_code ["code"] (defScope s_need_code) := ⟨rfl, rfl, rfl, by decide +kernel, rfl, by decide +kernel, by decide +kernel⟩
abbrev s_bits_of : Stmt := top 12
abbrev N_bits_of : List Str := ["code", "items", "one"]
theorem sc_bits_of : FnScope N_bits_of ["code", "items"] (defScope s_bits_of) := ⟨rfl, rfl, rfl, by decide +kernel, rfl, by decide +kernel, by decide +kernel⟩
abbrev s_item_at : Stmt := top 13
abbrev N_item_at : List Str := ["code", "text", "at", "found", "one", "word"]
theorem sc_item_at : FnScope N_item_at ["code", "text", "at"] (defScope s_item_at) := ⟨rfl, rfl, rfl, by decide +kernel, rfl, by decide +kernel, by decide +kernel⟩
abbrev s_read_items : Stmt := top 14
abbrev N_read_items : List Str := ["code", "text", "found", "at", "item"]
theorem sc_read_items : FnScope N_read_items ["code", "text"] (defScope s_read_items) := ⟨rfl, rfl, rfl, by decide +kernel, rfl, by decide +kernel, by decide +kernel⟩
abbrev s_law_cell : Stmt := top 16
abbrev N_law_cell : List Str := ["script", "k"]
theorem sc_law_cell : FnScope N_law_cell ["script", "k"] (defScope s_law_cell) := ⟨rfl, rfl, rfl, by decide +kernel, rfl, by decide +kernel, by decide +kernel⟩
abbrev s_law_stream : Stmt := top 17
abbrev N_law_stream : List Str := ["cell"]
theorem sc_law_stream : FnScope N_law_stream ["cell"] (defScope s_law_stream) := ⟨rfl, rfl, rfl, by decide +kernel, rfl, by decide +kernel, by decide +kernel⟩
abbrev s_law_take : Stmt := top 18
abbrev N_law_take : List Str := ["stream", "many", "digit", "number"]
theorem sc_law_take : FnScope N_law_take ["stream", "many"] (defScope s_law_take) := ⟨rfl, rfl, rfl, by decide +kernel, rfl, by decide +kernel, by decide +kernel⟩
abbrev s_law_is : Stmt := top 19
abbrev N_law_is : List Str := ["told", "due", "k"]
theorem sc_law_is : FnScope N_law_is ["told", "due"] (defScope s_law_is) := ⟨rfl, rfl, rfl, by decide +kernel, rfl, by decide +kernel, by decide +kernel⟩
abbrev s_law_very : Stmt := top 20
abbrev N_law_very : List Str := ["given", "thing", "same"]
theorem sc_law_very : FnScope N_law_very ["given", "thing"] (defScope s_law_very) := ⟨rfl, rfl, rfl, by decide +kernel, rfl, by decide +kernel, by decide +kernel⟩
abbrev s_law_is_code : Stmt := top 21
abbrev N_law_is_code : List Str := ["value", "k", "word", "sign", "m"]
theorem sc_law_is_code : FnScope N_law_is_code ["value"] (defScope s_law_is_code) := ⟨rfl, rfl, rfl, by decide +kernel, rfl, by decide +kernel, by decide +kernel⟩
abbrev s_law_drawn : Stmt := top 22
abbrev N_law_drawn : List Str := ["stream", "found", "turn", "word", "rest", "code"]
theorem sc_law_drawn : FnScope N_law_drawn ["stream"] (defScope s_law_drawn) := ⟨rfl, rfl, rfl, by decide +kernel, rfl, by decide +kernel, by decide +kernel⟩
abbrev s_law_read : Stmt := top 23
abbrev N_law_read : List Str := ["code", "text", "found", "left", "items", "k", "word"]
theorem sc_law_read : FnScope N_law_read ["code", "text"] (defScope s_law_read) := ⟨rfl, rfl, rfl, by decide +kernel, rfl, by decide +kernel, by decide +kernel⟩
abbrev s_law_asked : Stmt := top 24
abbrev N_law_asked : List Str := ["way", "code", "thing", "e"]
theorem sc_law_asked : FnScope N_law_asked ["way", "code", "thing"] (defScope s_law_asked) := ⟨rfl, rfl, rfl, by decide +kernel, rfl, by decide +kernel, by decide +kernel⟩
abbrev s_law_right : Stmt := top 25
abbrev N_law_right : List Str := ["stream", "code", "items", "text", "handed", "due", "turn", "told", "at", "word", "sign", "bent", "found", "good", "read", "item", "one"]
theorem sc_law_right : FnScope N_law_right ["stream", "code", "items"] (defScope s_law_right) := ⟨rfl, rfl, rfl, by decide +kernel, rfl, by decide +kernel, by decide +kernel⟩
abbrev s_law_refused_right : Stmt := top 26
abbrev N_law_refused_right : List Str := ["stream", "code", "items", "odd", "bad", "wrong", "cases", "way", "one", "thing", "word", "given", "found"]
theorem sc_law_refused_right : FnScope N_law_refused_right ["stream", "code", "items"] (defScope s_law_refused_right) := ⟨rfl, rfl, rfl, by decide +kernel, rfl, by decide +kernel, by decide +kernel⟩
abbrev s_law_odd_text : Stmt := top 27
abbrev N_law_odd_text : List Str := ["stream"]
theorem sc_law_odd_text : FnScope N_law_odd_text ["stream"] (defScope s_law_odd_text) := ⟨rfl, rfl, rfl, by decide +kernel, rfl, by decide +kernel, by decide +kernel⟩
abbrev s_law : Stmt := top 28
abbrev N_law : List Str := ["script", "k", "stream", "code", "items", "turn"]
theorem sc_law : FnScope N_law ["script"] (defScope s_law) := ⟨rfl, rfl, rfl, by decide +kernel, rfl, by decide +kernel, by decide +kernel⟩
def fn : List He.DefD := [⟨("is_whole", none), "is_whole", "is_whole", defArgs s_is_whole, defBody s_is_whole, defScope s_is_whole, [], []⟩,
  ⟨("is_bits", none), "is_bits", "is_bits", defArgs s_is_bits, defBody s_is_bits, defScope s_is_bits, [], []⟩,
  ⟨("is_code", none), "is_code", "is_code", defArgs s_is_code, defBody s_is_code, defScope s_is_code, [], []⟩,
  ⟨("need_code", none), "need_code", "need_code", defArgs s_need_code, defBody s_need_code, defScope s_need_code, [], []⟩,
  ⟨("bits_of", none), "bits_of", "bits_of", defArgs s_bits_of, defBody s_bits_of, defScope s_bits_of, [], []⟩,
  ⟨("item_at", none), "item_at", "item_at", defArgs s_item_at, defBody s_item_at, defScope s_item_at, [], []⟩,
  ⟨("read_items", none), "read_items", "read_items", defArgs s_read_items, defBody s_read_items, defScope s_read_items, [], []⟩,
  ⟨("_law_cell", none), "_law_cell", "_law_cell", defArgs s_law_cell, defBody s_law_cell, defScope s_law_cell, [], []⟩,
  ⟨("_law_stream", none), "_law_stream", "_law_stream", defArgs s_law_stream, defBody s_law_stream, defScope s_law_stream, [], []⟩,
  ⟨("_law_take", none), "_law_take", "_law_take", defArgs s_law_take, defBody s_law_take, defScope s_law_take, [], []⟩,
  ⟨("_law_is", none), "_law_is", "_law_is", defArgs s_law_is, defBody s_law_is, defScope s_law_is, [], []⟩,
  ⟨("_law_very", none), "_law_very", "_law_very", defArgs s_law_very, defBody s_law_very, defScope s_law_very, [], []⟩,
  ⟨("_law_is_code", none), "_law_is_code", "_law_is_code", defArgs s_law_is_code, defBody s_law_is_code, defScope s_law_is_code, [], []⟩,
  ⟨("_law_drawn", none), "_law_drawn", "_law_drawn", defArgs s_law_drawn, defBody s_law_drawn, defScope s_law_drawn, [], []⟩,
  ⟨("_law_read", none), "_law_read", "_law_read", defArgs s_law_read, defBody s_law_read, defScope s_law_read, [], []⟩,
  ⟨("_law_asked", none), "_law_asked", "_law_asked", defArgs s_law_asked, defBody s_law_asked, defScope s_law_asked, [], []⟩,
  ⟨("_law_right", none), "_law_right", "_law_right", defArgs s_law_right, defBody s_law_right, defScope s_law_right, [], []⟩,
  ⟨("_law_refused_right", none), "_law_refused_right", "_law_refused_right", defArgs s_law_refused_right, defBody s_law_refused_right, defScope s_law_refused_right, [], []⟩,
  ⟨("_law_odd_text", none), "_law_odd_text", "_law_odd_text", defArgs s_law_odd_text, defBody s_law_odd_text, defScope s_law_odd_text, [], []⟩,
  ⟨("law", none), "law", "law", defArgs s_law, defBody s_law, defScope s_law, [], []⟩,
  ⟨("NoCode", some "__init__"), "__init__", "NoCode.__init__", defArgs s_NoCodeu_initu, defBody s_NoCodeu_initu, defScope s_NoCodeu_initu, [], []⟩,
  ⟨("NoBits", some "__init__"), "__init__", "NoBits.__init__", defArgs s_NoBitsu_initu, defBody s_NoBitsu_initu, defScope s_NoBitsu_initu, [], []⟩]
def fa : List He.Fa := [.glo "is_whole", .glo "is_bits", .glo "is_code", .glo "need_code", .glo "bits_of", .glo "item_at", .glo "read_items", .glo "_law_cell", .glo "_law_stream", .glo "_law_take", .glo "_law_is", .glo "_law_very", .glo "_law_is_code", .glo "_law_drawn", .glo "_law_read", .glo "_law_asked", .glo "_law_right", .glo "_law_refused_right", .glo "_law_odd_text", .glo "law", .free "ValueError", .free "all", .free "any", .free "bool", .free "dict", .free "enumerate", .free "int", .free "isinstance", .free "len", .free "list", .free "max", .free "min", .free "range", .free "repr", .free "str", .free "tuple", .int "MOST_ITEMS" 40, .int "MOST_LENGTH" 60, .glo "RowsError", .glo "NoCode", .glo "NoBits"]
def exN : List Str := ["RowsError", "NoCode", "NoBits"]
def exUp : List (Str × List Str) := [("RowsError", ["RowsError"]), ("NoCode", ["NoCode", "RowsError"]), ("NoBits", ["NoBits", "RowsError"])]
def exAb (C D : Str) : Bool := ((exUp.lookup C).getD []).contains D
def exC : List Str := ["NoCode", "NoBits", "RowsError"]
def exL (K : PySem.W.Frag) : List Bool := [EXV.exCB K (He.ga K "RowsError"),
  EXV.roB K (He.ga K "RowsError"),
  EXV.exCB K (He.ga K "NoCode"),
  EXV.iniB K (He.ga K "NoCode"),
  decide (PySem.W.findIn K (.ref (He.ga K "NoCode")) "given" = some none),
  EXV.exCB K (He.ga K "NoBits"),
  EXV.iniB K (He.ga K "NoBits"),
  decide (PySem.W.findIn K (.ref (He.ga K "NoBits")) "given" = some none),
  exN.all fun C => exC.all fun D => decide (PySem.W.exmOne K (.ref (He.ga K C)) (.ref (He.ga K D)) = some (exAb C D)),
  exN.all fun C => decide (PySem.W.kitOne K (.ref (He.ga K C)) (.type "ValueError") = some true)]
def exB (K : PySem.W.Frag) : Bool := (exL K).all id
theorem exB_at {K : PySem.W.Frag} (h : exB K = true) (i : Nat) {b : Bool} (e : (exL K)[i]? = some b) : b = true := List.all_eq_true.mp h b (List.mem_of_getElem? e)
/-- what the head tells of the text -/
class Facts (K : PySem.W.Frag) (mg : outParam (Str → Option Value)) : Prop where
  d_is_whole : ∃ fd, FunD K "is_whole" "is_whole" (defArgs s_is_whole) (defBody s_is_whole) (defScope s_is_whole) [] [] (He.ga K "is_whole") fd
  g_is_whole : mg "is_whole" = some (.ref (He.ga K "is_whole"))
  d_is_bits : ∃ fd, FunD K "is_bits" "is_bits" (defArgs s_is_bits) (defBody s_is_bits) (defScope s_is_bits) [] [] (He.ga K "is_bits") fd
  g_is_bits : mg "is_bits" = some (.ref (He.ga K "is_bits"))
  d_is_code : ∃ fd, FunD K "is_code" "is_code" (defArgs s_is_code) (defBody s_is_code) (defScope s_is_code) [] [] (He.ga K "is_code") fd
  g_is_code : mg "is_code" = some (.ref (He.ga K "is_code"))
  d_need_code : ∃ fd, FunD K "need_code" "need_code" (defArgs s_need_code) (defBody s_need_code) (defScope s_need_code) [] [] (He.ga K "need_code") fd
  g_need_code : mg "need_code" = some (.ref (He.ga K "need_code"))
  d_bits_of : ∃ fd, FunD K "bits_of" "bits_of" (defArgs s_bits_of) (defBody s_bits_of) (defScope s_bits_of) [] [] (He.ga K "bits_of") fd
  g_bits_of : mg "bits_of" = some (.ref (He.ga K "bits_of"))
  d_item_at : ∃ fd, FunD K "item_at" "item_at" (defArgs s_item_at) (defBody s_item_at) (defScope s_item_at) [] [] (He.ga K "item_at") fd
  g_item_at : mg "item_at" = some (.ref (He.ga K "item_at"))
  d_read_items : ∃ fd, FunD K "read_items" "read_items" (defArgs s_read_items) (defBody s_read_items) (defScope s_read_items) [] [] (He.ga K "read_items") fd
  g_read_items : mg "read_items" = some (.ref (He.ga K "read_items"))
  d_law_cell : ∃ fd, FunD K "_law_cell" "_law_cell" (defArgs s_law_cell) (defBody s_law_cell) (defScope s_law_cell) [] [] (He.ga K "_law_cell") fd
  g_law_cell : mg "_law_cell" = some (.ref (He.ga K "_law_cell"))
  d_law_stream : ∃ fd, FunD K "_law_stream" "_law_stream" (defArgs s_law_stream) (defBody s_law_stream) (defScope s_law_stream) [] [] (He.ga K "_law_stream") fd
  g_law_stream : mg "_law_stream" = some (.ref (He.ga K "_law_stream"))
  d_law_take : ∃ fd, FunD K "_law_take" "_law_take" (defArgs s_law_take) (defBody s_law_take) (defScope s_law_take) [] [] (He.ga K "_law_take") fd
  g_law_take : mg "_law_take" = some (.ref (He.ga K "_law_take"))
  d_law_is : ∃ fd, FunD K "_law_is" "_law_is" (defArgs s_law_is) (defBody s_law_is) (defScope s_law_is) [] [] (He.ga K "_law_is") fd
  g_law_is : mg "_law_is" = some (.ref (He.ga K "_law_is"))
  d_law_very : ∃ fd, FunD K "_law_very" "_law_very" (defArgs s_law_very) (defBody s_law_very) (defScope s_law_very) [] [] (He.ga K "_law_very") fd
  g_law_very : mg "_law_very" = some (.ref (He.ga K "_law_very"))
  d_law_is_code : ∃ fd, FunD K "_law_is_code" "_law_is_code" (defArgs s_law_is_code) (defBody s_law_is_code) (defScope s_law_is_code) [] [] (He.ga K "_law_is_code") fd
  g_law_is_code : mg "_law_is_code" = some (.ref (He.ga K "_law_is_code"))
  d_law_drawn : ∃ fd, FunD K "_law_drawn" "_law_drawn" (defArgs s_law_drawn) (defBody s_law_drawn) (defScope s_law_drawn) [] [] (He.ga K "_law_drawn") fd
  g_law_drawn : mg "_law_drawn" = some (.ref (He.ga K "_law_drawn"))
  d_law_read : ∃ fd, FunD K "_law_read" "_law_read" (defArgs s_law_read) (defBody s_law_read) (defScope s_law_read) [] [] (He.ga K "_law_read") fd
  g_law_read : mg "_law_read" = some (.ref (He.ga K "_law_read"))
  d_law_asked : ∃ fd, FunD K "_law_asked" "_law_asked" (defArgs s_law_asked) (defBody s_law_asked) (defScope s_law_asked) [] [] (He.ga K "_law_asked") fd
  g_law_asked : mg "_law_asked" = some (.ref (He.ga K "_law_asked"))
  d_law_right : ∃ fd, FunD K "_law_right" "_law_right" (defArgs s_law_right) (defBody s_law_right) (defScope s_law_right) [] [] (He.ga K "_law_right") fd
  g_law_right : mg "_law_right" = some (.ref (He.ga K "_law_right"))
  d_law_refused_right : ∃ fd, FunD K "_law_refused_right" "_law_refused_right" (defArgs s_law_refused_right) (defBody s_law_refused_right) (defScope s_law_refused_right) [] [] (He.ga K "_law_refused_right") fd
  g_law_refused_right : mg "_law_refused_right" = some (.ref (He.ga K "_law_refused_right"))
  d_law_odd_text : ∃ fd, FunD K "_law_odd_text" "_law_odd_text" (defArgs s_law_odd_text) (defBody s_law_odd_text) (defScope s_law_odd_text) [] [] (He.ga K "_law_odd_text") fd
  g_law_odd_text : mg "_law_odd_text" = some (.ref (He.ga K "_law_odd_text"))
  d_law : ∃ fd, FunD K "law" "law" (defArgs s_law) (defBody s_law) (defScope s_law) [] [] (He.ga K "law") fd
  g_law : mg "law" = some (.ref (He.ga K "law"))
  f_ValueError : mg "ValueError" = none
  f_all : mg "all" = none
  f_any : mg "any" = none
  f_bool : mg "bool" = none
  f_dict : mg "dict" = none
  f_enumerate : mg "enumerate" = none
  f_int : mg "int" = none
  f_isinstance : mg "isinstance" = none
  f_len : mg "len" = none
  f_list : mg "list" = none
  f_max : mg "max" = none
  f_min : mg "min" = none
  f_range : mg "range" = none
  f_repr : mg "repr" = none
  f_str : mg "str" = none
  f_tuple : mg "tuple" = none
  g_MOST_ITEMS : ∃ t, mg "MOST_ITEMS" = some (.int 40 t)
  g_MOST_LENGTH : ∃ t, mg "MOST_LENGTH" = some (.int 60 t)
  dm_NoCode___init__ : ∃ fd, FunD K "__init__" "NoCode.__init__" (defArgs s_NoCodeu_initu) (defBody s_NoCodeu_initu) (defScope s_NoCodeu_initu) [] [] (He.ma K (He.ga K "NoCode") "__init__") fd
  dm_NoBits___init__ : ∃ fd, FunD K "__init__" "NoBits.__init__" (defArgs s_NoBitsu_initu) (defBody s_NoBitsu_initu) (defScope s_NoBitsu_initu) [] [] (He.ma K (He.ga K "NoBits") "__init__") fd
  gc_RowsError : mg "RowsError" = some (.ref (He.ga K "RowsError"))
  gc_NoCode : mg "NoCode" = some (.ref (He.ga K "NoCode"))
  gc_NoBits : mg "NoBits" = some (.ref (He.ga K "NoBits"))
  x_RowsError : EXV.Ex K (He.ga K "RowsError")
  xr_RowsError : EXV.Ro K (He.ga K "RowsError")
  x_NoCode : EXV.Ex K (He.ga K "NoCode")
  xi_NoCode : EXV.Ini K (He.ga K "NoCode")
  xn_NoCode_given : PySem.W.findIn K (.ref (He.ga K "NoCode")) "given" = some none
  x_NoBits : EXV.Ex K (He.ga K "NoBits")
  xi_NoBits : EXV.Ini K (He.ga K "NoBits")
  xn_NoBits_given : PySem.W.findIn K (.ref (He.ga K "NoBits")) "given" = some none
  xm : ∀ C ∈ exN, ∀ D ∈ exC, PySem.W.exmOne K (.ref (He.ga K C)) (.ref (He.ga K D)) = some (exAb C D)
  xv : ∀ C ∈ exN, PySem.W.kitOne K (.ref (He.ga K C)) (.type "ValueError") = some true
theorem facts_of {h : Heap} {K : PySem.W.Frag} {mg : Str → Option Value} (X : K.In h) (G : h.Ns mainGlobals mg) (c : He.SaysD fa fn K) (cx : exB K = true) : Facts K mg where
  d_is_whole := c.def_ 0 rfl
  g_is_whole := He.glo_ok X G (c.fact 0 rfl)
  d_is_bits := c.def_ 1 rfl
  g_is_bits := He.glo_ok X G (c.fact 1 rfl)
  d_is_code := c.def_ 2 rfl
  g_is_code := He.glo_ok X G (c.fact 2 rfl)
  d_need_code := c.def_ 3 rfl
  g_need_code := He.glo_ok X G (c.fact 3 rfl)
  d_bits_of := c.def_ 4 rfl
  g_bits_of := He.glo_ok X G (c.fact 4 rfl)
  d_item_at := c.def_ 5 rfl
  g_item_at := He.glo_ok X G (c.fact 5 rfl)
  d_read_items := c.def_ 6 rfl
  g_read_items := He.glo_ok X G (c.fact 6 rfl)
  d_law_cell := c.def_ 7 rfl
  g_law_cell := He.glo_ok X G (c.fact 7 rfl)
  d_law_stream := c.def_ 8 rfl
  g_law_stream := He.glo_ok X G (c.fact 8 rfl)
  d_law_take := c.def_ 9 rfl
  g_law_take := He.glo_ok X G (c.fact 9 rfl)
  d_law_is := c.def_ 10 rfl
  g_law_is := He.glo_ok X G (c.fact 10 rfl)
  d_law_very := c.def_ 11 rfl
  g_law_very := He.glo_ok X G (c.fact 11 rfl)
  d_law_is_code := c.def_ 12 rfl
  g_law_is_code := He.glo_ok X G (c.fact 12 rfl)
  d_law_drawn := c.def_ 13 rfl
  g_law_drawn := He.glo_ok X G (c.fact 13 rfl)
  d_law_read := c.def_ 14 rfl
  g_law_read := He.glo_ok X G (c.fact 14 rfl)
  d_law_asked := c.def_ 15 rfl
  g_law_asked := He.glo_ok X G (c.fact 15 rfl)
  d_law_right := c.def_ 16 rfl
  g_law_right := He.glo_ok X G (c.fact 16 rfl)
  d_law_refused_right := c.def_ 17 rfl
  g_law_refused_right := He.glo_ok X G (c.fact 17 rfl)
  d_law_odd_text := c.def_ 18 rfl
  g_law_odd_text := He.glo_ok X G (c.fact 18 rfl)
  d_law := c.def_ 19 rfl
  g_law := He.glo_ok X G (c.fact 19 rfl)
  f_ValueError := He.free_ok X G (c.fact 20 rfl)
  f_all := He.free_ok X G (c.fact 21 rfl)
  f_any := He.free_ok X G (c.fact 22 rfl)
  f_bool := He.free_ok X G (c.fact 23 rfl)
  f_dict := He.free_ok X G (c.fact 24 rfl)
  f_enumerate := He.free_ok X G (c.fact 25 rfl)
  f_int := He.free_ok X G (c.fact 26 rfl)
  f_isinstance := He.free_ok X G (c.fact 27 rfl)
  f_len := He.free_ok X G (c.fact 28 rfl)
  f_list := He.free_ok X G (c.fact 29 rfl)
  f_max := He.free_ok X G (c.fact 30 rfl)
  f_min := He.free_ok X G (c.fact 31 rfl)
  f_range := He.free_ok X G (c.fact 32 rfl)
  f_repr := He.free_ok X G (c.fact 33 rfl)
  f_str := He.free_ok X G (c.fact 34 rfl)
  f_tuple := He.free_ok X G (c.fact 35 rfl)
  g_MOST_ITEMS := He.int_ok X G (c.fact 36 rfl)
  g_MOST_LENGTH := He.int_ok X G (c.fact 37 rfl)
  dm_NoCode___init__ := c.def_ 20 rfl
  dm_NoBits___init__ := c.def_ 21 rfl
  gc_RowsError := He.glo_ok X G (c.fact 38 rfl)
  gc_NoCode := He.glo_ok X G (c.fact 39 rfl)
  gc_NoBits := He.glo_ok X G (c.fact 40 rfl)
  x_RowsError := EXV.exCB_ok (exB_at cx 0 rfl)
  xr_RowsError := EXV.roB_ok (exB_at cx 1 rfl)
  x_NoCode := EXV.exCB_ok (exB_at cx 2 rfl)
  xi_NoCode := EXV.iniB_ok (exB_at cx 3 rfl)
  xn_NoCode_given := of_decide_eq_true (exB_at cx 4 rfl)
  x_NoBits := EXV.exCB_ok (exB_at cx 5 rfl)
  xi_NoBits := EXV.iniB_ok (exB_at cx 6 rfl)
  xn_NoBits_given := of_decide_eq_true (exB_at cx 7 rfl)
  xm := EXV.all22_ok (exB_at cx 8 rfl)
  xv := EXV.all1_ok (exB_at cx 9 rfl)
end J
namespace J
open PySem PySem.Spec PyProof.Rows L2
def loose0 : List PySem.Str := ["is_whole", "is_bits", "is_code", "need_code", "bits_of", "item_at", "read_items", "_law_cell", "_law_stream", "_law_take", "_law_is", "_law_very", "_law_is_code", "_law_drawn", "_law_read", "_law_asked", "_law_right", "_law_refused_right", "_law_odd_text", "MOST_ITEMS", "MOST_LENGTH", "RowsError", "NoCode", "NoBits"]
def loose : List PySem.Str := loose0
abbrev rowR : PySem.W.OpenRow := PySem.W.OpenLaw.row PySem.Challenge.rw_rowsjoined_k82_items_as_bits
abbrev hk : PySem.W.Hook := HKS.hookS 4 fa fn [] exB
def ob (s : PySem.W.SharedT) : He.AlX := HKS.obsS 4 fa fn [] exB (HandSHeadRun.getT s)
theorem ob_eq (s : PySem.W.SharedT) : ob s = hk.obs s.abs := HKS.obsS_eq (HandSHeadRun.getT_eq s)
theorem run (w : World) : HandSHeadRun.RunEq rowR (PySem.W.view rowR.prog [28]) hk ob 12000 loose w := by
  intro os
  kernel_rfl
end J
namespace J
open PySem PySem.Spec PyProof.Rows L2

local macro_rules | `(tactic| walk_at "ty") => `(tactic| first
  | with_reducible exact ty_int
  | with_reducible exact ty_bl
  | with_reducible exact ty_str
  | with_reducible exact ty_non
  | ((with_reducible refine' ty_lst ?vv); (case vv => walk_at "tr"))
  | ((with_reducible refine' ty_sqT ?vv); (case vv => walk_at "tr"))
  | ((with_reducible refine' ty_dic ?vv); (case vv => walk_at "tr")))
local macro_rules | `(tactic| walk_at "ix") => `(tactic| first | exact at0 | exact at1 | exact at2 | assumption)
local macro_rules | `(tactic| walk_at "size") => `(tactic| first
  | assumption
  | (show _ < sizeLine; rw [sizeLine_eq]; (try simp only [List.length_cons, List.length_nil, List.length_append, List.length_map]); omega)
  | (show _ ≤ sizeLine; rw [sizeLine_eq]; (try simp only [List.length_cons, List.length_nil, List.length_append, List.length_map]); omega))
local macro_rules | `(tactic| walk_at "side") => `(tactic| first
  | assumption
  | ((with_reducible refine cdw ?_ ?_) <;> omega)
  | omega
  | (exact ⟨by omega, by omega⟩)
  | (exact Or.inl ⟨by omega, by omega⟩)
  | (exact Or.inr ⟨by omega, by omega⟩)
  | decide
  | (simp only [List.length_cons, List.length_nil, List.length_append, List.length_map]; omega)
  | (show _ ≤ _; decide))
local macro_rules | `(tactic| walk_at "as") => `(tactic| with_reducible assumption)
local macro_rules | `(tactic| walk_at "tr") => `(tactic| first
  | with_reducible assumption
  | with_reducible exact upd_same
  | ((with_reducible refine' SqL.of ?hh); (case hh => walk_at "as"))
  | ((with_reducible refine' SqT.of ?hh); (case hh => walk_at "as"))
  | ((with_reducible refine' Same.stm ?ee ?gg); (case ee => walk_at "as"); (case gg => walk_at "tr"))
  | ((with_reducible refine' Same.sqT ?ee ?gg); (case ee => walk_at "as"); (case gg => walk_at "tr"))
  | ((with_reducible refine' Same.sqL ?ee ?gg); (case ee => walk_at "as"); (case gg => walk_at "tr"))
  | ((with_reducible refine' Same.at ?ee ?gg); (case ee => walk_at "as"); (case gg => walk_at "tr"))
  | ((with_reducible refine' But.stm ?ee ?ff ?gg); (case ee => walk_at "as"); (case ff => walk_at "ne"); (case gg => walk_at "tr"))
  | ((with_reducible refine' But.tup ?ee ?ff ?gg); (case ee => walk_at "as"); (case ff => walk_at "tr1"); (case gg => walk_at "tr"))
  | ((with_reducible refine' But.sqT ?ee ?ff ?gg); (case ee => walk_at "as"); (case ff => walk_at "tr1"); (case gg => walk_at "tr"))
  | ((with_reducible refine' But.tupL ?ee ?ff ?gg); (case ee => walk_at "as"); (case ff => walk_at "tr1"); (case gg => walk_at "tr"))
  | ((with_reducible refine' But.sqTL ?ee ?ff ?gg); (case ee => walk_at "as"); (case ff => walk_at "tr1"); (case gg => walk_at "tr"))
  | ((with_reducible refine' But.sqL ?ee ?ff ?gg); (case ee => walk_at "as"); (case ff => walk_at "ne"); (case gg => walk_at "tr"))
  | ((with_reducible refine' But.at ?ee ?ff ?gg); (case ee => walk_at "as"); (case ff => walk_at "ne"); (case gg => walk_at "tr")))
local macro_rules | `(tactic| walk_at "ts") => `(tactic| first
  | with_reducible assumption
  | with_reducible exact TS.refl _
  | ((with_reducible refine' TS.trans ?gg (TS.of ?ee)); (case ee => walk_at "as"); (case gg => walk_at "ts"))
  | ((with_reducible refine' TS.trans ?gg (TS.butS ?ee ?ff)); (case ee => walk_at "as"); (case ff => walk_at "tr1"); (case gg => walk_at "ts"))
  | ((with_reducible refine' TS.trans ?gg (TS.butL ?ee ?ff)); (case ee => walk_at "as"); (case ff => walk_at "tr1"); (case gg => walk_at "ts"))
  | ((with_reducible refine' TS.trans ?gg (TS.butI ?ee ?ff)); (case ee => walk_at "as"); (case ff => walk_at "tr1"); (case gg => walk_at "ts")))
local macro_rules | `(tactic| walk_at "sm") => `(tactic| first
  | with_reducible assumption
  | with_reducible exact Same.refl _
  | ((with_reducible refine' Same.trans ?gg ?ee); (case ee => walk_at "as"); (case gg => walk_at "sm"))
  | ((with_reducible refine' But.new ?gg ?nn ?ee); (case ee => walk_at "as"); (case nn => walk_at "fr"); (case gg => walk_at "sm")))
local macro_rules | `(tactic| walk_at "fr") => `(tactic| first
  | with_reducible assumption
  | ((with_reducible refine' Same.back ?ee ?nn); (case nn => walk_at "as"); (case ee => walk_at "sm"))
  | ((with_reducible refine' But.back ?ee ?ff ?nn); (case nn => walk_at "as"); (case ff => walk_at "ne0"); (case ee => walk_at "bu")))
local macro_rules | `(tactic| walk_at "bu") => `(tactic| first
  | with_reducible assumption
  | with_reducible exact But.refl _ _
  | ((with_reducible refine' But.trans ?gg ?ee); (case ee => walk_at "as"); (case gg => walk_at "bu"))
  | ((with_reducible refine' But.trans ?gg (But.of ?ee)); (case ee => walk_at "as"); (case gg => walk_at "bu"))
  | ((with_reducible refine' But.new2 ?gg ?nn ?ee); (case ee => walk_at "as"); (case nn => walk_at "frB"); (case gg => walk_at "bu")))
local macro_rules | `(tactic| walk_at "frB") => `(tactic| first
  | with_reducible assumption
  | ((with_reducible refine' Same.back ?ee ?nn); (case nn => walk_at "as"); (case ee => walk_at "sm"))
  | ((with_reducible refine' But.back' ?ee ?ff ?nn); (case nn => walk_at "as"); (case ee => walk_at "bu"); (case ff => walk_at "tr1")))
local macro_rules | `(tactic| walk_at "tr1") => `(tactic| first
  | with_reducible assumption
  | ((with_reducible refine' Same.stm ?ee ?gg); (case ee => walk_at "as"); (case gg => walk_at "tr1"))
  | ((with_reducible refine' Same.at ?ee ?gg); (case ee => walk_at "as"); (case gg => walk_at "tr1"))
  | ((with_reducible refine' But.at ?ee ?ff ?gg); (case ee => walk_at "as"); (case ff => walk_at "ne0"); (case gg => walk_at "tr1"))
  | ((with_reducible refine' But.stm ?ee ?ff ?gg); (case ee => walk_at "as"); (case ff => walk_at "ne0"); (case gg => walk_at "tr1")))
local macro_rules | `(tactic| walk_at "ne0") => `(tactic| first
  | with_reducible assumption
  | (with_reducible apply Ne.symm; with_reducible assumption))
local macro_rules | `(tactic| walk_at "ne") => `(tactic| first
  | with_reducible assumption
  | (with_reducible apply Ne.symm; with_reducible assumption)
  | ((with_reducible refine' stm_ne ?hh ?nn); (case nn => walk_at "as"); (case hh => walk_at "tr1"))
  | ((with_reducible refine' ne_of_none ?hh ?nn); (case nn => walk_at "as"); (case hh => walk_at "tr1"))
  | ((with_reducible apply Ne.symm); (with_reducible refine' ne_of_none ?hh ?nn); (case nn => walk_at "as"); (case hh => walk_at "tr1")))
local macro_rules | `(tactic| walk_at "v") => `(tactic| first
  | with_reducible refine w_seq ?_
  | ((with_reducible refine' w_var ?vv ?_); (case vv => exact rfl))
  | with_reducible refine w_c ?_
  | with_reducible refine w_op ?_
  | with_reducible refine w_asg ?_
  | with_reducible refine w_gName ?_
  | with_reducible refine w_ret ?_
  | with_reducible refine w_ifS ?_
  | with_reducible refine w_drop ?_
  | with_reducible refine w_next ?_
  | with_reducible refine w_cons ?_
  | with_reducible refine w_nil ?_
  | with_reducible refine w_call ?_
  | with_reducible refine w_cb ?_
  | with_reducible refine w_rI0 ?_
  | with_reducible refine w_addI ?_
  | with_reducible refine w_eqI ?_
  | with_reducible refine w_neI ?_
  | with_reducible refine w_eqS ?_
  | with_reducible refine w_neS ?_
  | with_reducible refine w_eqB ?_
  | with_reducible refine w_neB ?_
  | with_reducible refine w_chain ?_
  | with_reducible refine w_test ?_
  | with_reducible refine w_tB ?_
  | with_reducible refine w_bl ?_
  | ((with_reducible refine' w_mulI ?vv ?_); (case vv => walk_at "side"))
  | ((with_reducible refine' w_rI ?vv ?_); (case vv => walk_at "side"))
  | with_reducible refine w_int1 ?_
  | with_reducible refine w_int1b ?_
  | with_reducible refine w_tup ?_
  | with_reducible refine w_lst ?_
  | with_reducible refine w_un ?_
  | with_reducible refine w_rU ?_
  | with_reducible refine w_not ?_
  | with_reducible refine w_notV ?_
  | with_reducible refine w_ifE ?_
  | with_reducible refine w_nT ?_
  | with_reducible refine w_nF ?_
  | with_reducible refine iteT ?_
  | with_reducible refine iteF ?_
  | ((with_reducible refine' w_ixT ?vv ?ww ?_); (case vv => walk_at "tr"); (case ww => walk_at "ix"))
  | ((with_reducible refine' w_ixL ?vv ?ww ?_); (case vv => walk_at "tr"); (case ww => walk_at "ix"))
  | with_reducible refine w_gSub ?_
  | ((with_reducible refine' w_setL ?vv ?ww ?_); (case vv => walk_at "tr"); (case ww => first | rfl | decide | assumption))
  | ((with_reducible refine' w_lenL ?vv ?_); (case vv => walk_at "tr"))
  | ((with_reducible refine' w_lenT ?vv ?_); (case vv => walk_at "tr"))
  | with_reducible refine w_max2 ?_
  | with_reducible refine w_max3 ?_
  | with_reducible refine w_din ?_
  | with_reducible refine w_dnotin ?_
  | with_reducible refine w_dput ?_
  | with_reducible refine w_min2 ?_
  | with_reducible refine w_bm ?_
  | with_reducible refine w_bm0 ?_
  | ((with_reducible refine' w_tyL ?vv ?_); (case vv => walk_at "tr"))
  | ((with_reducible refine' w_append ?vv ?ww ?_); (case vv => walk_at "tr"); (case ww => walk_at "size"))
  | ((with_reducible refine' w_size ?vv ?_); (case vv => walk_at "size"))
  | with_reducible refine w_forL ?_
  | with_reducible refine w_forT ?_
  | with_reducible refine w_forR1 ?_
  | with_reducible refine w_forR2 ?_
  | with_reducible refine w_lcL ?_
  | with_reducible refine w_lcT ?_
  | with_reducible refine w_lcR1 ?_
  | with_reducible refine w_yes ?_
  | with_reducible refine w_sl ?_
  | with_reducible refine w_noPart ?_
  | with_reducible refine w_part ?_
  | with_reducible refine w_int ?_
  | ((with_reducible refine' w_slL ?vv ?_); (case vv => walk_at "tr"))
  | ((with_reducible refine' w_seqL ?vv ?ww ?_); (case vv => walk_at "tr"); (case ww => rfl))
  | ((with_reducible refine' w_seqT ?vv ?ww ?_); (case vv => walk_at "tr"); (case ww => rfl))
  | with_reducible refine w_gNil ?_
  | with_reducible refine w_gCons ?_
  | with_reducible refine w_forZ ?_
  | with_reducible refine w_forM ?_
  | with_reducible refine w_forE ?_
  | with_reducible refine w_forV ?_
  | with_reducible refine w_lcZ ?_
  | with_reducible refine w_lcE ?_
  | ((with_reducible refine' w_isi (b := true) ?vv ?ww ?_); (case vv => walk_at "ty"); (case ww => decide +kernel))
  | ((with_reducible refine' w_isi (b := false) ?vv ?ww ?_); (case vv => walk_at "ty"); (case ww => decide +kernel))
  | with_reducible refine w_revL ?_
  | with_reducible refine w_pairN ?_
  | with_reducible refine w_pairC ?_
  | with_reducible refine w_dget ?_
  | with_reducible refine w_met ?_
  | ((with_reducible refine' w_metAt ?vv ?ww ?_); (case vv => walk_at "tr"); (case ww => rfl))
  | with_reducible refine w_mkI ?_
  | with_reducible refine w_fld ?_
  | ((with_reducible refine' w_fldAt ?vv ?cc ?nn ?ww ?_); (case vv => walk_at "tr"); (case cc => walk_at "cls"); (case nn => walk_at "na"); (case ww => rfl))
  | with_reducible refine w_sfld ?_
  | ((with_reducible refine' w_sfldAt ?vv ?cc ?nn ?ll ?ee ?_); (case vv => walk_at "tr"); (case cc => walk_at "cls"); (case nn => walk_at "na"); (case ll => simp); (case ee => rfl))
  | ((with_reducible refine' w_tupL ?vv ?_); (case vv => walk_at "tr"))
  | ((with_reducible refine' w_tupT ?vv ?_); (case vv => walk_at "tr"))
  | ((with_reducible refine' w_listL ?vv ?_); (case vv => walk_at "tr"))
  | ((with_reducible refine' w_listT ?vv ?_); (case vv => walk_at "tr"))
  | with_reducible refine w_tyS ?_
  | with_reducible refine w_lcZM ?_
  | with_reducible refine w_js ?_
  | with_reducible refine w_jsN ?_
  | ((with_reducible refine' w_jsP ?vv ?_); (case vv => walk_at "size"))
  | with_reducible refine w_fmt ?_
  | with_reducible refine w_forRR ?_
  | with_reducible refine w_retN ?_
  | with_reducible refine w_break ?_
  | with_reducible refine w_cont ?_)
local macro_rules | `(tactic| walk_at "w") => `(tactic| first
  | walk_at "v"
  | with_reducible refine w_or ?_
  | with_reducible refine w_and ?_
  | with_reducible refine w_andV ?_
  | with_reducible refine w_orV ?_)
local macro_rules | `(tactic| walk_at "wd") => `(tactic| first
  | walk_at "w"
  | ((with_reducible refine' w_decT ?vv ?_); (case vv => decide +kernel))
  | ((with_reducible refine' w_decF ?vv ?_); (case vv => decide +kernel)))
local macro_rules | `(tactic| walk_at "tz") => `(tactic| (intro S z; (repeat walk_at "w"); exact z))
local macro_rules | `(tactic| walk_at "wf") => `(tactic| first
  | walk_at "wd"
  | ((with_reducible refine' w_decF ?vv ?_); (case vv => with_reducible assumption)))
/-! ### the draws, alike in all laws -/
def spCell (K : PySem.W.Frag) : Sp := fun vs H Q _ => ∃ (a : Addr) (ns : List Int) (k : Int), vs = [.ref a, .int k] ∧ SqL K H a (ns.map V.int) ∧ 0 ≤ k ∧ ∀ n : Int, Q (.int n) H
def spStream : Sp := fun vs H Q _ => ∃ c : Int, vs = [.int c] ∧ ∀ s H', Same H H' → H s = none → Stm H' s → Q (.ref s) H'
def spTake : Sp := fun vs H Q _ => ∃ (s : Addr) (m : Int), vs = [.ref s, .int m] ∧ Stm H s ∧ 0 < m ∧ m < 2 ^ 200 ∧ ∀ d H', 0 ≤ d → d < m → Stm H' s → But s H H' → Q (.int d) H'
theorem len_law_cell {K : PySem.W.Frag} {vs H Q E} (h : spCell K vs H Q E) : vs.length = 2 := by obtain ⟨_, _, _, rfl, _⟩ := h; rfl
theorem len_law_stream {vs H Q E} (h : spStream vs H Q E) : vs.length = 1 := by obtain ⟨_, rfl, _⟩ := h; rfl
theorem len_law_take {vs H Q E} (h : spTake vs H Q E) : vs.length = 2 := by obtain ⟨_, _, rfl, _⟩ := h; rfl
def spLaw (K : PySem.W.Frag) : Sp := fun vs H Q _ => ∃ (a : Addr) (ns : List Int), vs = [.ref a] ∧ SqL K H a (ns.map V.int) ∧ ns.length ≤ 63 ∧ ∀ H', Q (.bl true) H'
theorem len_law {K : PySem.W.Frag} {vs H Q E} (h : spLaw K vs H Q E) : vs.length = 1 := by obtain ⟨_, _, rfl, _⟩ := h; rfl
theorem law_in {K : PySem.W.Frag} {H : Hp} {a : Addr} {ns : List Int} (hl : ns.length ≤ 63) (_ : Only H) (hS : SqL K H a (ns.map V.int)) : spLaw K [.ref a] H (fun v _ => v = .bl true) fun _ _ _ => False :=
  ⟨a, ns, rfl, hS, hl, fun _ => rfl⟩
section
variable {P : Program} {w : World} {K : PySem.W.Frag} {mg : Str → Option Value}
theorem ok_law_cell [c : Facts K mg] : XL.Fn P w K mg "_law_cell" 1 ["script", "k"] ((spCell K)) := by
  obtain ⟨fd, F⟩ := c.d_law_cell
  refine XL.Fn.mk' F c.g_law_cell sc_law_cell (k := 0) (fun vs H Q E h => ?_) (fun _ _ _ _ _ _ us hl => match us, hl with | [_, _], _ => rfl) (fun base cdv A outer s H vs Q E hr h => ?_)
  · exact len_law_cell h
  · have nd := sc_law_cell.nd
    have hu := hu_of hr.r
    refine ⟨_, (PSs.nox (pss_cons (ps_if (pt_cmpR op_lt (pv 1) (pe_callB (call_lenA (K := K) rfl) (by rfl) c.f_len boot_len (pa_cons (pv 0) pa_nil)) (nomark _)) (pss_one (ps_ret (pe_ix (ix_any (K := K) rfl) (pv 0) (pv 1) (fun _ _ => rfl)))) pss_nil)
      (pss_one (ps_ret (pe_op (op_addA (K := K) rfl) (pe_op op_mulA pe_int (pv 1)) pe_int))))), ?_⟩
    try dsimp only [cxOf, Cx.nox, Cx.wish]
    obtain ⟨a, ns, k, rfl, hS, h0, q⟩ := h
    repeat walk_at "w"
    refine ite2 (fun hk => ?_) (fun hk => ?_)
    · rw [decide_eq_true_eq] at hk
      repeat walk_at "w"
      obtain ⟨v, e1, e2, _⟩ := atI_some h0 hk
      obtain ⟨n, _, rfl⟩ := List.mem_map.mp e2
      exact w_ixL hS e1 (q n)
    · repeat walk_at "w"
      exact q _
theorem ok_law_stream [c : Facts K mg] : XL.Fn P w K mg "_law_stream" 1 ["cell"] (spStream) := by
  obtain ⟨fd, F⟩ := c.d_law_stream
  refine XL.Fn.mk' F c.g_law_stream sc_law_stream (k := 0) (fun vs H Q E h => ?_) (fun _ _ _ _ _ _ us hl => match us, hl with | [_], _ => rfl) (fun base cdv A outer s H vs Q E hr h => ?_)
  · exact len_law_stream h
  · have nd := sc_law_stream.nd
    have hu := hu_of hr.r
    refine ⟨_, (PSs.nox (pss_one (ps_ret (pe_lst (pa_cons (pe_op op_mulA (pv 0) (pe_callTy call_int1A (by rfl) c.f_int boot_int (pa_cons (pe_cmpR op_ge (pv 0) (pe_op op_pow pe_int pe_int) (nomark _)) pa_nil))) (pa_cons (pe_op op_mod (pv 0) pe_int) (pa_cons pe_int pa_nil))))))), ?_⟩
    try dsimp only [cxOf, Cx.nox, Cx.wish]
    obtain ⟨n, rfl, q⟩ := h
    repeat walk_at "w"
    exact w_new fun p H1 n1 s1 f1 => q _ _ s1 n1 ⟨_, _, _, f1⟩
theorem ok_law_take [c : Facts K mg] : XL.Fn P w K mg "_law_take" 1 ["stream", "many"] (spTake) := by
  obtain ⟨fd, F⟩ := c.d_law_take
  refine XL.Fn.mk' F c.g_law_take sc_law_take (k := 0) (fun vs H Q E h => ?_) (fun _ _ _ _ _ _ us hl => match us, hl with | [_, _], _ => rfl) (fun base cdv A outer s H vs Q E hr h => ?_)
  · exact len_law_take h
  · have nd := sc_law_take.nd
    have hu := hu_of hr.r
    refine ⟨_, (PSs.nox (pss_cons (ps_if (pt_cmpR op_gt (pe_ix (ix_any (K := K) rfl) (pv 0) pe_int (fun _ _ => rfl)) pe_int (nomark _)) (pss_cons (ps_set (i := 2) nd rfl (Or.inl rfl) (pe_op op_mod (pe_ix (ix_any (K := K) rfl) (pv 0) pe_int (fun _ _ => rfl)) (pv 1)))
      (pss_cons (ps_asg (pe_op op_fdivW (pe_ix (ix_any (K := K) rfl) (pv 0) pe_int (fun _ _ => rfl)) (pv 1)) (pg_sub (pv 0) pe_int set_list))
      (pss_one (ps_ret (pv 2))))) pss_nil)
      (pss_cons (ps_asg (pe_op (op_addA (K := K) rfl) (pe_ix (ix_any (K := K) rfl) (pv 0) pe_int (fun _ _ => rfl)) pe_int) (pg_sub (pv 0) pe_int set_list))
      (pss_cons (ps_set (i := 3) nd rfl (Or.inl rfl) (pe_op op_mod (pe_op (op_addA (K := K) rfl) (pe_op op_mulA (pe_op (op_addA (K := K) rfl) (pe_ix (ix_any (K := K) rfl) (pv 0) pe_int (fun _ _ => rfl)) (pe_op op_mulA pe_int (pe_ix (ix_any (K := K) rfl) (pv 0) pe_int (fun _ _ => rfl)))) pe_int) pe_int) pe_int))
      (pss_cons (ps_set (i := 3) nd rfl (Or.inl rfl) (pe_op op_mod (pe_op op_mulA (pv 3) (pv 3)) pe_int))
      (pss_one (ps_ret (pe_op op_mod (pe_op op_fdivW (pe_op op_mod (pe_op (op_addA (K := K) rfl) (pe_op op_mulA (pv 3) (pv 3)) (pe_op op_mulA pe_int (pe_ix (ix_any (K := K) rfl) (pv 0) pe_int (fun _ _ => rfl)))) pe_int) pe_int) (pv 1))))))))), ?_⟩
    try dsimp only [cxOf, Cx.nox, Cx.wish]
    obtain ⟨s, m, rfl, ⟨a, b, d, hs⟩, hm, hl, q⟩ := h
    repeat walk_at "w"
    refine ite2 (fun hk => ?_) (fun hk => ?_)
    · repeat walk_at "w"
      refine w_chg fun H1 e1 f1 => ?_
      repeat walk_at "w"
      exact q _ _ (Int.emod_nonneg _ (by omega)) (Int.emod_lt_of_pos _ hm) ⟨_, _, _, f1⟩ e1
    · repeat walk_at "w"
      refine w_chg fun H1 e1 f1 => ?_
      repeat walk_at "w"
      exact q _ _ (Int.emod_nonneg _ (by omega)) (Int.emod_lt_of_pos _ hm) ⟨_, _, _, f1⟩ e1
end


end J
namespace J
open PySem PySem.Spec PyProof.Rows L2

local macro_rules | `(tactic| walk_at "ty") => `(tactic| first
  | with_reducible exact ty_int
  | with_reducible exact ty_bl
  | with_reducible exact ty_str
  | with_reducible exact ty_non
  | ((with_reducible refine' ty_lst ?vv); (case vv => walk_at "tr"))
  | ((with_reducible refine' ty_sqT ?vv); (case vv => walk_at "tr"))
  | ((with_reducible refine' ty_dic ?vv); (case vv => walk_at "tr")))
local macro_rules | `(tactic| walk_at "ix") => `(tactic| first | exact at0 | exact at1 | exact at2 | assumption)
local macro_rules | `(tactic| walk_at "size") => `(tactic| first
  | assumption
  | (show _ < sizeLine; rw [sizeLine_eq]; (try simp only [List.length_cons, List.length_nil, List.length_append, List.length_map]); omega)
  | (show _ ≤ sizeLine; rw [sizeLine_eq]; (try simp only [List.length_cons, List.length_nil, List.length_append, List.length_map]); omega))
local macro_rules | `(tactic| walk_at "side") => `(tactic| first
  | assumption
  | ((with_reducible refine cdw ?_ ?_) <;> omega)
  | omega
  | (exact ⟨by omega, by omega⟩)
  | (exact Or.inl ⟨by omega, by omega⟩)
  | (exact Or.inr ⟨by omega, by omega⟩)
  | decide
  | (simp only [List.length_cons, List.length_nil, List.length_append, List.length_map]; omega)
  | (show _ ≤ _; decide))
local macro_rules | `(tactic| walk_at "as") => `(tactic| with_reducible assumption)
local macro_rules | `(tactic| walk_at "tr") => `(tactic| first
  | with_reducible assumption
  | with_reducible exact upd_same
  | ((with_reducible refine' SqL.of ?hh); (case hh => walk_at "as"))
  | ((with_reducible refine' SqT.of ?hh); (case hh => walk_at "as"))
  | ((with_reducible refine' Same.stm ?ee ?gg); (case ee => walk_at "as"); (case gg => walk_at "tr"))
  | ((with_reducible refine' Same.sqT ?ee ?gg); (case ee => walk_at "as"); (case gg => walk_at "tr"))
  | ((with_reducible refine' Same.sqL ?ee ?gg); (case ee => walk_at "as"); (case gg => walk_at "tr"))
  | ((with_reducible refine' Same.at ?ee ?gg); (case ee => walk_at "as"); (case gg => walk_at "tr"))
  | ((with_reducible refine' But.stm ?ee ?ff ?gg); (case ee => walk_at "as"); (case ff => walk_at "ne"); (case gg => walk_at "tr"))
  | ((with_reducible refine' But.tup ?ee ?ff ?gg); (case ee => walk_at "as"); (case ff => walk_at "tr1"); (case gg => walk_at "tr"))
  | ((with_reducible refine' But.sqT ?ee ?ff ?gg); (case ee => walk_at "as"); (case ff => walk_at "tr1"); (case gg => walk_at "tr"))
  | ((with_reducible refine' But.tupL ?ee ?ff ?gg); (case ee => walk_at "as"); (case ff => walk_at "tr1"); (case gg => walk_at "tr"))
  | ((with_reducible refine' But.sqTL ?ee ?ff ?gg); (case ee => walk_at "as"); (case ff => walk_at "tr1"); (case gg => walk_at "tr"))
  | ((with_reducible refine' But.sqL ?ee ?ff ?gg); (case ee => walk_at "as"); (case ff => walk_at "ne"); (case gg => walk_at "tr"))
  | ((with_reducible refine' But.at ?ee ?ff ?gg); (case ee => walk_at "as"); (case ff => walk_at "ne"); (case gg => walk_at "tr")))
local macro_rules | `(tactic| walk_at "ts") => `(tactic| first
  | with_reducible assumption
  | with_reducible exact TS.refl _
  | ((with_reducible refine' TS.trans ?gg (TS.of ?ee)); (case ee => walk_at "as"); (case gg => walk_at "ts"))
  | ((with_reducible refine' TS.trans ?gg (TS.butS ?ee ?ff)); (case ee => walk_at "as"); (case ff => walk_at "tr1"); (case gg => walk_at "ts"))
  | ((with_reducible refine' TS.trans ?gg (TS.butL ?ee ?ff)); (case ee => walk_at "as"); (case ff => walk_at "tr1"); (case gg => walk_at "ts"))
  | ((with_reducible refine' TS.trans ?gg (TS.butI ?ee ?ff)); (case ee => walk_at "as"); (case ff => walk_at "tr1"); (case gg => walk_at "ts")))
local macro_rules | `(tactic| walk_at "sm") => `(tactic| first
  | with_reducible assumption
  | with_reducible exact Same.refl _
  | ((with_reducible refine' Same.trans ?gg ?ee); (case ee => walk_at "as"); (case gg => walk_at "sm"))
  | ((with_reducible refine' But.new ?gg ?nn ?ee); (case ee => walk_at "as"); (case nn => walk_at "fr"); (case gg => walk_at "sm")))
local macro_rules | `(tactic| walk_at "fr") => `(tactic| first
  | with_reducible assumption
  | ((with_reducible refine' Same.back ?ee ?nn); (case nn => walk_at "as"); (case ee => walk_at "sm"))
  | ((with_reducible refine' But.back ?ee ?ff ?nn); (case nn => walk_at "as"); (case ff => walk_at "ne0"); (case ee => walk_at "bu")))
local macro_rules | `(tactic| walk_at "bu") => `(tactic| first
  | with_reducible assumption
  | with_reducible exact But.refl _ _
  | ((with_reducible refine' But.trans ?gg ?ee); (case ee => walk_at "as"); (case gg => walk_at "bu"))
  | ((with_reducible refine' But.trans ?gg (But.of ?ee)); (case ee => walk_at "as"); (case gg => walk_at "bu"))
  | ((with_reducible refine' But.new2 ?gg ?nn ?ee); (case ee => walk_at "as"); (case nn => walk_at "frB"); (case gg => walk_at "bu")))
local macro_rules | `(tactic| walk_at "frB") => `(tactic| first
  | with_reducible assumption
  | ((with_reducible refine' Same.back ?ee ?nn); (case nn => walk_at "as"); (case ee => walk_at "sm"))
  | ((with_reducible refine' But.back' ?ee ?ff ?nn); (case nn => walk_at "as"); (case ee => walk_at "bu"); (case ff => walk_at "tr1")))
local macro_rules | `(tactic| walk_at "tr1") => `(tactic| first
  | with_reducible assumption
  | ((with_reducible refine' Same.stm ?ee ?gg); (case ee => walk_at "as"); (case gg => walk_at "tr1"))
  | ((with_reducible refine' Same.at ?ee ?gg); (case ee => walk_at "as"); (case gg => walk_at "tr1"))
  | ((with_reducible refine' But.at ?ee ?ff ?gg); (case ee => walk_at "as"); (case ff => walk_at "ne0"); (case gg => walk_at "tr1"))
  | ((with_reducible refine' But.stm ?ee ?ff ?gg); (case ee => walk_at "as"); (case ff => walk_at "ne0"); (case gg => walk_at "tr1")))
local macro_rules | `(tactic| walk_at "ne0") => `(tactic| first
  | with_reducible assumption
  | (with_reducible apply Ne.symm; with_reducible assumption))
local macro_rules | `(tactic| walk_at "ne") => `(tactic| first
  | with_reducible assumption
  | (with_reducible apply Ne.symm; with_reducible assumption)
  | ((with_reducible refine' stm_ne ?hh ?nn); (case nn => walk_at "as"); (case hh => walk_at "tr1"))
  | ((with_reducible refine' ne_of_none ?hh ?nn); (case nn => walk_at "as"); (case hh => walk_at "tr1"))
  | ((with_reducible apply Ne.symm); (with_reducible refine' ne_of_none ?hh ?nn); (case nn => walk_at "as"); (case hh => walk_at "tr1")))
local macro_rules | `(tactic| walk_at "v") => `(tactic| first
  | with_reducible refine w_seq ?_
  | ((with_reducible refine' w_var ?vv ?_); (case vv => exact rfl))
  | with_reducible refine w_c ?_
  | with_reducible refine w_op ?_
  | with_reducible refine w_asg ?_
  | with_reducible refine w_gName ?_
  | with_reducible refine w_ret ?_
  | with_reducible refine w_ifS ?_
  | with_reducible refine w_drop ?_
  | with_reducible refine w_next ?_
  | with_reducible refine w_cons ?_
  | with_reducible refine w_nil ?_
  | with_reducible refine w_call ?_
  | with_reducible refine w_cb ?_
  | with_reducible refine w_rI0 ?_
  | with_reducible refine w_addI ?_
  | with_reducible refine w_eqI ?_
  | with_reducible refine w_neI ?_
  | with_reducible refine w_eqS ?_
  | with_reducible refine w_neS ?_
  | with_reducible refine w_eqB ?_
  | with_reducible refine w_neB ?_
  | with_reducible refine w_chain ?_
  | with_reducible refine w_test ?_
  | with_reducible refine w_tB ?_
  | with_reducible refine w_bl ?_
  | ((with_reducible refine' w_mulI ?vv ?_); (case vv => walk_at "side"))
  | ((with_reducible refine' w_rI ?vv ?_); (case vv => walk_at "side"))
  | with_reducible refine w_int1 ?_
  | with_reducible refine w_int1b ?_
  | with_reducible refine w_tup ?_
  | with_reducible refine w_lst ?_
  | with_reducible refine w_un ?_
  | with_reducible refine w_rU ?_
  | with_reducible refine w_not ?_
  | with_reducible refine w_notV ?_
  | with_reducible refine w_ifE ?_
  | with_reducible refine w_nT ?_
  | with_reducible refine w_nF ?_
  | with_reducible refine iteT ?_
  | with_reducible refine iteF ?_
  | ((with_reducible refine' w_ixT ?vv ?ww ?_); (case vv => walk_at "tr"); (case ww => walk_at "ix"))
  | ((with_reducible refine' w_ixL ?vv ?ww ?_); (case vv => walk_at "tr"); (case ww => walk_at "ix"))
  | with_reducible refine w_gSub ?_
  | ((with_reducible refine' w_setL ?vv ?ww ?_); (case vv => walk_at "tr"); (case ww => first | rfl | decide | assumption))
  | ((with_reducible refine' w_lenL ?vv ?_); (case vv => walk_at "tr"))
  | ((with_reducible refine' w_lenT ?vv ?_); (case vv => walk_at "tr"))
  | with_reducible refine w_max2 ?_
  | with_reducible refine w_max3 ?_
  | with_reducible refine w_din ?_
  | with_reducible refine w_dnotin ?_
  | with_reducible refine w_dput ?_
  | with_reducible refine w_min2 ?_
  | with_reducible refine w_bm ?_
  | with_reducible refine w_bm0 ?_
  | ((with_reducible refine' w_tyL ?vv ?_); (case vv => walk_at "tr"))
  | ((with_reducible refine' w_append ?vv ?ww ?_); (case vv => walk_at "tr"); (case ww => walk_at "size"))
  | ((with_reducible refine' w_size ?vv ?_); (case vv => walk_at "size"))
  | with_reducible refine w_forL ?_
  | with_reducible refine w_forT ?_
  | with_reducible refine w_forR1 ?_
  | with_reducible refine w_forR2 ?_
  | with_reducible refine w_lcL ?_
  | with_reducible refine w_lcT ?_
  | with_reducible refine w_lcR1 ?_
  | with_reducible refine w_yes ?_
  | with_reducible refine w_sl ?_
  | with_reducible refine w_noPart ?_
  | with_reducible refine w_part ?_
  | with_reducible refine w_int ?_
  | ((with_reducible refine' w_slL ?vv ?_); (case vv => walk_at "tr"))
  | ((with_reducible refine' w_seqL ?vv ?ww ?_); (case vv => walk_at "tr"); (case ww => rfl))
  | ((with_reducible refine' w_seqT ?vv ?ww ?_); (case vv => walk_at "tr"); (case ww => rfl))
  | with_reducible refine w_gNil ?_
  | with_reducible refine w_gCons ?_
  | with_reducible refine w_forZ ?_
  | with_reducible refine w_forM ?_
  | with_reducible refine w_forE ?_
  | with_reducible refine w_forV ?_
  | with_reducible refine w_lcZ ?_
  | with_reducible refine w_lcE ?_
  | ((with_reducible refine' w_isi (b := true) ?vv ?ww ?_); (case vv => walk_at "ty"); (case ww => decide +kernel))
  | ((with_reducible refine' w_isi (b := false) ?vv ?ww ?_); (case vv => walk_at "ty"); (case ww => decide +kernel))
  | with_reducible refine w_revL ?_
  | with_reducible refine w_pairN ?_
  | with_reducible refine w_pairC ?_
  | with_reducible refine w_dget ?_
  | with_reducible refine w_met ?_
  | ((with_reducible refine' w_metAt ?vv ?ww ?_); (case vv => walk_at "tr"); (case ww => rfl))
  | with_reducible refine w_mkI ?_
  | with_reducible refine w_fld ?_
  | ((with_reducible refine' w_fldAt ?vv ?cc ?nn ?ww ?_); (case vv => walk_at "tr"); (case cc => walk_at "cls"); (case nn => walk_at "na"); (case ww => rfl))
  | with_reducible refine w_sfld ?_
  | ((with_reducible refine' w_sfldAt ?vv ?cc ?nn ?ll ?ee ?_); (case vv => walk_at "tr"); (case cc => walk_at "cls"); (case nn => walk_at "na"); (case ll => simp); (case ee => rfl))
  | ((with_reducible refine' w_tupL ?vv ?_); (case vv => walk_at "tr"))
  | ((with_reducible refine' w_tupT ?vv ?_); (case vv => walk_at "tr"))
  | ((with_reducible refine' w_listL ?vv ?_); (case vv => walk_at "tr"))
  | ((with_reducible refine' w_listT ?vv ?_); (case vv => walk_at "tr"))
  | with_reducible refine w_tyS ?_
  | with_reducible refine w_lcZM ?_
  | with_reducible refine w_js ?_
  | with_reducible refine w_jsN ?_
  | ((with_reducible refine' w_jsP ?vv ?_); (case vv => walk_at "size"))
  | with_reducible refine w_fmt ?_
  | with_reducible refine w_forRR ?_
  | with_reducible refine w_retN ?_
  | with_reducible refine w_break ?_
  | with_reducible refine w_cont ?_)
local macro_rules | `(tactic| walk_at "w") => `(tactic| first
  | walk_at "v"
  | with_reducible refine w_or ?_
  | with_reducible refine w_and ?_
  | with_reducible refine w_andV ?_
  | with_reducible refine w_orV ?_)
local macro_rules | `(tactic| walk_at "wd") => `(tactic| first
  | walk_at "w"
  | ((with_reducible refine' w_decT ?vv ?_); (case vv => decide +kernel))
  | ((with_reducible refine' w_decF ?vv ?_); (case vv => decide +kernel)))
local macro_rules | `(tactic| walk_at "tz") => `(tactic| (intro S z; (repeat walk_at "w"); exact z))
local macro_rules | `(tactic| walk_at "wf") => `(tactic| first
  | walk_at "wd"
  | ((with_reducible refine' w_decF ?vv ?_); (case vv => with_reducible assumption)))
/-! ### texts by their signs -/
open SX
theorem S_inj_iff {a b : List Nat} : S a = S b ↔ a = b := ⟨S_inj, fun h => by rw [h]⟩
theorem cut_ab {l : List Nat} {a b : Int} (ha : 0 ≤ a) (hb : 0 ≤ b) : cutS (S l) (some a) (some b) = S ((l.drop a.toNat).take (b.toNat - a.toNat)) := by
  unfold cutS
  have e : ∀ {c : Int} {d : Nat}, 0 ≤ c → HT.sIx (S l).length d (some c) = min c.toNat l.length := fun {c d} h => by
    show (if c < 0 then (c + ((S l).length : Int)).toNat else min c.toNat (S l).length) = _
    rw [if_neg (by omega), S_len]
  rw [e ha, e hb]
  congr 1
  show ((l.drop _).take _).toArray = _
  congr 1
  by_cases h : a.toNat ≤ l.length
  · rw [Nat.min_eq_left h]
    by_cases h2 : b.toNat ≤ l.length
    · rw [Nat.min_eq_left h2]
    · rw [Nat.min_eq_right (by omega), List.take_of_length_le (by rw [List.length_drop]; omega), List.take_of_length_le (by rw [List.length_drop]; omega)]
  · have e1 : l.drop a.toNat = [] := List.drop_of_length_le (by omega)
    have e2 : min a.toNat l.length = l.length := Nat.min_eq_right (by omega)
    rw [e1, e2, List.drop_length, List.take_nil, List.take_nil]
theorem cut_b {l : List Nat} {b : Int} (hb : 0 ≤ b) : cutS (S l) none (some b) = S (l.take b.toNat) := by
  unfold cutS
  have e : HT.sIx (S l).length (S l).length (some b) = min b.toNat l.length := by
    show (if b < 0 then (b + ((S l).length : Int)).toNat else min b.toNat (S l).length) = _
    rw [if_neg (by omega), S_len]
  rw [e, HT.sIx_none]
  congr 1
  show ((l.drop 0).take _).toArray = _
  rw [List.drop_zero, Nat.sub_zero]
  congr 1
  by_cases h2 : b.toNat ≤ l.length
  · rw [Nat.min_eq_left h2]
  · rw [Nat.min_eq_right (by omega), List.take_of_length_le (Nat.le_refl _), List.take_of_length_le (by omega)]
theorem in_strs (x : Str) (ys : List Str) : inV (.str x) (ys.map V.str) = decide (x ∈ ys) := by
  induction ys with
  | nil => rfl
  | cons y ys ih =>
    rw [List.map_cons]
    unfold inV at ih ⊢
    rw [List.any_cons, ih]
    show (y == x || decide (x ∈ ys)) = _
    by_cases h : y = x
    · subst h; simp
    · have : (y == x) = false := by
        cases e : y == x with
        | false => rfl
        | true => exact (h (eq_of_beq e)).elim
      rw [this, Bool.false_or]
      have h' : ¬ x = y := fun z => h z.symm
      simp [h']
theorem flat_strs (ys : List Str) : (ys.map V.str).all flatV = true := by
  induction ys with
  | nil => rfl
  | cons y ys ih => rw [List.map_cons, List.all_cons, ih]; rfl
section
variable {K : PySem.W.Frag} {σ : L2.St} {H : Hp} {Q : VK} {nx : L2.St → Hp → Prop} {rt : VK} {bk ct : L2.St → Hp → Prop} {t u : L2.TS} {tt tu : TT}
theorem w_inSL {p : Addr} {x : Str} {ys : List Str} (h : SqL K H p (ys.map V.str)) (k : Q (.bl (decide (x ∈ ys))) H) : rInA K false (.str x) (.ref p) H Q := w_inL h rfl (flat_strs ys) (by rw [in_strs]; exact k)
theorem w_inST {p : Addr} {x : Str} {ys : List Str} (h : SqT K H p (ys.map V.str)) (k : Q (.bl (decide (x ∈ ys))) H) : rInA K false (.str x) (.ref p) H Q := w_inT h rfl (flat_strs ys) (by rw [in_strs]; exact k)
theorem w_in1 {c : Nat} {y : Str} (k : Q (.bl (decide (c ∈ TL.tl y))) H) : rInA K false (.str (S [c])) (.str y) H Q := .inr ⟨_, _, rfl, rfl, by
  rw [show (!(Builtin.Str.occurrences y (S [c]) 0 y.length 1).isEmpty) = decide (c ∈ TL.tl y) from StrLaws.found_one y c]
  exact k⟩
theorem w_ni1 {c : Nat} {y : Str} (k : Q (.bl (!decide (c ∈ TL.tl y))) H) : rInA K true (.str (S [c])) (.str y) H Q := .inr ⟨_, _, rfl, rfl, by
  rw [show (!(Builtin.Str.occurrences y (S [c]) 0 y.length 1).isEmpty) = decide (c ∈ TL.tl y) from StrLaws.found_one y c]
  exact k⟩
theorem w_ixC {l : List Nat} {c : Nat} {n : Int} (h : l.length ≤ sizeLine) (h0 : 0 ≤ n) (ha : l[n.toNat]? = some c) (k : Q (.str (S [c])) H) : rIx K (.str (S l)) (.int n) H Q := w_ixS (by rw [S_len]; exact h) (atI_of h0 ha) k
theorem w_slAB {l : List Nat} {a b : Int} (h : l.length ≤ sizeLine) (ha : 0 ≤ a) (hb : 0 ≤ b) (k : Q (.str (S ((l.drop a.toNat).take (b.toNat - a.toNat)))) H) : rSlAny K (.str (S l)) (some a) (some b) H Q :=
  w_slS (by rw [S_len]; exact h) (by rw [cut_ab ha hb]; exact k)
theorem w_slB {l : List Nat} {b : Int} (h : l.length ≤ sizeLine) (hb : 0 ≤ b) (k : Q (.str (S (l.take b.toNat))) H) : rSlAny K (.str (S l)) none (some b) H Q :=
  w_slS (by rw [S_len]; exact h) (by rw [cut_b hb]; exact k)
theorem w_lenC {l : List Nat} (h : l.length ≤ sizeLine) (k : Q (.int l.length) H) : rLenA K [.str (S l)] H Q := w_lenS (by rw [S_len]; exact h) (by rw [S_len]; exact k)
theorem w_addC {a b : List Nat} (h : a.length + b.length ≤ sizeLine) (k : Q (.str (S (a ++ b))) H) : rAddA K (.str (S a)) (.str (S b)) H Q := w_addS (by rw [S_len, S_len]; exact h) (by rw [S_cat]; exact k)
theorem w_eqC {a b : List Nat} (k : Q (.bl (decide (a = b))) H) : rEqA K (.str (S a)) (.str (S b)) H Q := w_eqS (by rw [show decide (S a = S b) = decide (a = b) by rw [decide_eq_decide]; exact S_inj_iff]; exact k)
theorem w_neC {a b : List Nat} (k : Q (.bl (!decide (a = b))) H) : rNeA K (.str (S a)) (.str (S b)) H Q := w_neS (by rw [show decide (S a = S b) = decide (a = b) by rw [decide_eq_decide]; exact S_inj_iff]; exact k)
theorem w_extend {l b : Addr} {xs zs : List V} (h1 : H l = some (.lst xs)) (h2 : H b = some (.lst zs)) (h : xs.length + zs.length ≤ sizeLine) (k : ChgO l (.lst (xs ++ zs)) H (Q .non)) : rExtend (.ref l) [.ref b] H Q := ⟨l, b, xs, zs, rfl, rfl, h1, h2, h, k⟩
def rJoin (K : PySem.W.Frag) : V → List V → Hp → VK → Prop := fun x xs H Q => ∃ a p, ∃ ys : List Str, x = .str a ∧ xs = [.ref p] ∧ (SqL K H p (ys.map V.str) ∨ SqT K H p (ys.map V.str)) ∧ (ys.map (·.length)).sum + ys.length * a.length ≤ 16777216 ∧ Q (.str (Txt.join a ys)) H
theorem mt_joinA {X : Cx} {K : PySem.W.Frag} (hK : X.K = K) : MtR X "str.join" (rJoin K) := by
  subst hK
  exact mt_join
theorem w_replC {to : TE} {y z : Str} (k : to σ H fun v H1 => ∃ x, v = .str x ∧ x.length + (x.length + 1) * z.length ≤ 16777216 ∧ Q (.str (Txt.replace x y z)) H1) : CwR.tReplC to y z σ H Q := k
theorem w_replS {R : V → Prop} {y z : Str} {l : List Nat} (h : l.length + (l.length + 1) * z.length ≤ 16777216) (k : R (.str (Txt.replace (S l) y z))) : ∃ x, V.str (S l) = .str x ∧ x.length + (x.length + 1) * z.length ≤ 16777216 ∧ R (.str (Txt.replace x y z)) := ⟨S l, rfl, by rw [S_len]; exact h, k⟩
theorem sum_flat (ys : List (List Nat)) : (ys.map (·.length)).sum = ys.flatten.length := by
  rw [List.length_flatten]
theorem w_joinL {p : Addr} {a : List Nat} {ys : List (List Nat)} (h : SqL K H p ((ys.map S).map V.str)) (hz : ys.flatten.length + ys.length * a.length ≤ 16777216) (k : Q (.str (S (TL.joinL a ys))) H) : rJoin K (.str (S a)) [.ref p] H Q :=
  ⟨S a, p, ys.map S, rfl, rfl, .inl h, by rw [lens, List.length_map, sum_flat, S_len]; exact hz, by rw [join_S]; exact k⟩
theorem joinL_nil (ys : List (List Nat)) : TL.joinL [] ys = ys.flatten := by
  induction ys with
  | nil => rfl
  | cons y ys ih =>
    cases ys with
    | nil => simp [TL.joinL]
    | cons z ys => rw [TL.joinL, ih]; rfl
/-- a list of texts -/
def TV (ts : List (List Nat)) : List V := (ts.map S).map V.str
theorem TV_app (a b : List (List Nat)) : TV (a ++ b) = TV a ++ TV b := by unfold TV; rw [List.map_append, List.map_append]
theorem TV_len (a : List (List Nat)) : (TV a).length = a.length := by unfold TV; rw [List.length_map, List.length_map]
/-- while: the word with its measure -/
theorem w_while (Pv : Nat → L2.St → Hp → Prop) (m : Nat) (h0 : Pv m σ H) (hs : ∀ m σ H, Pv m σ H → tt σ H fun b H1 => if b = true then ∃ N : L2.St → Hp → Prop, (∀ σ' H', N σ' H' → ∃ m', m' < m ∧ Pv m' σ' H') ∧ t ⟨N, rt, nx, N⟩ σ H1 else nx σ H1) :
    tWhile tt t ⟨nx, rt, bk, ct⟩ σ H := ⟨Pv, ⟨m, h0⟩, hs⟩
theorem w_whB {m : Nat} {Pv : Nat → L2.St → Hp → Prop} (k : t ⟨fun σ' H' => ∃ m', m' < m ∧ Pv m' σ' H', rt, nx, fun σ' H' => ∃ m', m' < m ∧ Pv m' σ' H'⟩ σ H) : ∃ N : L2.St → Hp → Prop, (∀ σ' H', N σ' H' → ∃ m', m' < m ∧ Pv m' σ' H') ∧ t ⟨N, rt, nx, N⟩ σ H :=
  ⟨_, fun _ _ z => z, k⟩
end
/-! ### replace of written texts: a token is out -/
def PEp (X : Cx) (e : Expr) (t : TE) : Prop :=
  ∀ (pins : List (Addr × Obj)) (s : Shared) (σ : L2.St) (H : Hp) (Q : VK), Inv X pins σ H s → t σ H Q → wpAny (model X.prog X.w) X.A (eval e X.env) (fun v s' => 1 ≤ s'.toks ∧ EP X pins σ Q v s') X.xe s
section
variable {X : Cx} {K : PySem.W.Frag} {o e a b : Expr} {es : List Expr} {to ta' tb : TE} {t : TA} {T : String} {id : String} {name : Str} {apos cpos pos : Pos} {r : V → List V → Hp → VK → Prop}
theorem pet_bmo (pa : PlainAttrs T) (slot : Slot T name id) (hty : typeOf (.builtin id) = pure (.type "method_descriptor")) (hm : MtR X id r) (ho : PET X o to) (ha : PA X (e :: es) t) (hK : X.K = K)
    (hbase : attributeBase o name X.env (eval o X.env) = eval o X.env := by rfl)
    (hfew : ((backTo cpos (starEach (e :: es) X.env)).all (fun x => !x.1) && (backToKw cpos (keywordEach [] X.env)).all (fun x => x.1.isSome)
      && decide ((e :: es).length + ([] : List Keyword).length + (if ([] : List Keyword).isEmpty then 0 else 1) < 30)) = true := by rfl)
    (hline : (apos.endLine == cpos.line) = true := by rfl) (hs : starEach (e :: es) X.env = (false, eval e X.env) :: starEach es X.env := by rfl) (hplain : (backTo cpos (starEach es X.env)).any (·.1) = false := by rfl) :
    PET X (.Call (.Attribute o name apos) (e :: es) [] cpos) (tBM K T r to t) := by
  subst hK
  intro pins s σ H Q h0 I h
  refine wpAny_Call_method_late hbase hfew hline rfl (thn (ho pins s σ H _ h0 I h) fun v s1 ⟨x, H1, I1, r1, ty, q1⟩ => ?_)
  obtain ⟨h1, h2⟩ := tyV_is I1 r1 ty
  refine ⟨T, id, pa, slot, hty, h1, h2, ?_⟩
  have hA := ha.run cpos pins s1 σ H1 _ I1 q1
  rw [hs] at hA ⊢
  refine Calls.callWith_builtin (by show (false || (backTo cpos (starEach es X.env)).any (·.1)) = false; rw [hplain] <;> rfl) (Calls.evalArgs_plain ?_)
  exact thn hA fun us s2 ⟨vs, H2, I2, r2, q2⟩ => hm pins s2 σ H2 x vs v us Q I2 r1 r2 q2
theorem pet_bma (pa : PlainAttrs T) (slot : Slot T name id) (hty : typeOf (.builtin id) = pure (.type "method_descriptor")) (hm : MtR X id r) (ho : PE X o to) (ha : PAT X (e :: es) t) (hK : X.K = K)
    (hbase : attributeBase o name X.env (eval o X.env) = eval o X.env := by rfl)
    (hfew : ((backTo cpos (starEach (e :: es) X.env)).all (fun x => !x.1) && (backToKw cpos (keywordEach [] X.env)).all (fun x => x.1.isSome)
      && decide ((e :: es).length + ([] : List Keyword).length + (if ([] : List Keyword).isEmpty then 0 else 1) < 30)) = true := by rfl)
    (hline : (apos.endLine == cpos.line) = true := by rfl) (hs : starEach (e :: es) X.env = (false, eval e X.env) :: starEach es X.env := by rfl) (hplain : (backTo cpos (starEach es X.env)).any (·.1) = false := by rfl) :
    PET X (.Call (.Attribute o name apos) (e :: es) [] cpos) (tBM K T r to t) := by
  subst hK
  intro pins s σ H Q h0 I h
  refine wpAny_Call_method_late hbase hfew hline rfl (wpAny_mono (PySem.wpAny_toks (ho.run pins s σ H _ I h)) (fun v s1 q => ?_) fun _ _ z => z.2)
  obtain ⟨hk, x, H1, I1, r1, ty, q1⟩ := q
  obtain ⟨h1, h2⟩ := tyV_is I1 r1 ty
  refine ⟨T, id, pa, slot, hty, h1, h2, ?_⟩
  have hA := ha cpos pins s1 σ H1 _ (Nat.le_trans h0 hk) I1 q1
  rw [hs] at hA ⊢
  refine Calls.callWith_builtin (by show (false || (backTo cpos (starEach es X.env)).any (·.1)) = false; rw [hplain] <;> rfl) (Calls.evalArgs_plain ?_)
  exact thn hA fun us s2 ⟨vs, H2, I2, r2, q2⟩ => hm pins s2 σ H2 x vs v us Q I2 r1 r2 q2
theorem pep_bm {z : Str} {j : Nat} {p : Pos} (pa : PlainAttrs T) (slot : Slot T name id) (hty : typeOf (.builtin id) = pure (.type "method_descriptor")) (hm : MtR X id r) (ha : PA X (e :: es) t) (hK : X.K = K)
    (hbase : attributeBase (.Constant (.str z) j p) name X.env (eval (.Constant (.str z) j p) X.env) = eval (.Constant (.str z) j p) X.env := by rfl)
    (hfew : ((backTo cpos (starEach (e :: es) X.env)).all (fun x => !x.1) && (backToKw cpos (keywordEach [] X.env)).all (fun x => x.1.isSome)
      && decide ((e :: es).length + ([] : List Keyword).length + (if ([] : List Keyword).isEmpty then 0 else 1) < 30)) = true := by rfl)
    (hline : (apos.endLine == cpos.line) = true := by rfl) (hs : starEach (e :: es) X.env = (false, eval e X.env) :: starEach es X.env := by rfl) (hplain : (backTo cpos (starEach es X.env)).any (·.1) = false := by rfl) :
    PEp X (.Call (.Attribute (.Constant (.str z) j p) name apos) (e :: es) [] cpos) (tBM K T r (tC (.str z)) t) := by
  subst hK
  intro pins s σ H Q I h
  obtain ⟨ty, q1⟩ : tyV X.K T (.str z) H ∧ t σ H fun xs H2 => r (.str z) xs H2 Q := h
  refine wpAny_Call_method_late hbase hfew hline rfl (Calls.Constant_str ?_)
  have I1 := I.tok (s.toks + 1)
  obtain ⟨h1, h2⟩ := tyV_is (x := .str z) (v := .str z s.toks) I1 ⟨_, rfl⟩ ty
  refine ⟨T, id, pa, slot, hty, h1, h2, ?_⟩
  have hA := ha.run cpos pins _ σ H _ I1 q1
  rw [hs] at hA ⊢
  refine Calls.callWith_builtin (by show (false || (backTo cpos (starEach es X.env)).any (·.1)) = false; rw [hplain] <;> rfl) (Calls.evalArgs_plain ?_)
  refine wpAny_mono (PySem.wpAny_toks hA) (fun us s2 q => ?_) fun _ _ z => z.2
  obtain ⟨hk, vs, H2, I2, r2, q2⟩ := q
  refine wpAny_mono (PySem.wpAny_toks (hm pins s2 σ H2 (.str z) vs _ us Q I2 ⟨_, rfl⟩ r2 q2)) (fun v s3 q => ⟨?_, q.2⟩) fun _ _ z => z.2
  have hk' : s.toks + 1 ≤ s2.toks := hk
  exact Nat.le_trans (by omega) (Nat.le_trans hk' q.1)
theorem pe_cmpT {op : CmpOp} {r : R2} (ho : OpR X (compareOp op) r) (ha : PEp X a ta') (hb : PET X b tb) (hm : behindInMarks op b = false) : PE X (.Compare a [op] [b] pos) (tOp r ta' tb) := by
  refine ⟨fun pins s σ H Q I h => ?_⟩
  refine wpAny_Compare1 (thn (ha pins s σ H _ I h) fun v s1 ⟨hk, x, H1, I1, r1, q1⟩ => ?_) hm
  exact thn (hb pins s1 σ H1 _ hk I1 q1) fun u s2 ⟨y, H2, I2, r2, q2⟩ => ho pins s2 σ H2 x y v u Q I2 r1 r2 q2
end
/-! ### the signs of a text -/
def chV (z : Str) : List V := z.cps.toList.map fun c => V.str ⟨#[c]⟩
theorem vals_ix : ∀ {xs : List V} {us : List Value}, xs.length = us.length → (∀ (j : Nat) (x : V) (u : Value), xs[j]? = some x → us[j]? = some u → RelV x u) → Vals xs us
  | [], [], _, _ => .nil
  | [], _ :: _, h, _ => by simp at h
  | _ :: _, [], h, _ => by simp at h
  | x :: xs, u :: us, h, f => .cons (f 0 x u rfl rfl) (vals_ix (by simpa using h) fun j y w h1 h2 => f (j + 1) y w (by simpa using h1) (by simpa using h2))
theorem vals_ch {z : Str} {acc : Array Value} (h : ItemsOf (SignAt z) acc z.cps.size) : Vals (chV z) acc.toList := by
  refine vals_ix (by unfold chV; rw [List.length_map, Array.length_toList, Array.length_toList]; exact h.1.symm) fun j x u hx hu => ?_
  rw [Array.getElem?_toList] at hu
  obtain ⟨c, t, e1, rfl⟩ := h.2 j u hu
  unfold chV at hx
  rw [List.getElem?_map, Array.getElem?_toList, e1] at hx
  cases Option.some.inj hx
  exact ⟨t, rfl⟩
theorem chV_len (z : Str) : (chV z).length = z.length := by unfold chV; rw [List.length_map]; rfl
def rListTxt : List V → Hp → VK → Prop := fun xs H Q => ∃ z, xs = [.str z] ∧ z.length ≤ sizeLine ∧ NewO (.lst (chV z)) H Q
def rTupTxt : List V → Hp → VK → Prop := fun xs H Q => ∃ z, xs = [.str z] ∧ z.length ≤ sizeLine ∧ NewO (.tup (chV z)) H Q
theorem call_list_txt {X : Cx} (hc : X.calm = true) : CallR X (.type "list") rListTxt := by
  intro pins s σ H xs us Q I r h
  obtain ⟨z, rfl, hz, q⟩ := h
  obtain ⟨u, rfl, rx⟩ := vals1 r
  obtain ⟨t, rfl⟩ := rx
  refine PySem.call_list_str (I.ok.hd hc) z t (fun h' tk acc c' hk e' hi => ?_) hz
  refine ⟨.ref s.heap.objs.size, upd H s.heap.objs.size (.lst (chV z)), I.laid hk (Nat.le_refl _) (show ObjOk X.prog X.w _ _ _ (.lst (chV z)) from ⟨?_, acc.toList, c', vals_ch hi, ?_⟩), rfl, q _ (I.hok.fresh (Nat.le_refl _))⟩
  · rw [chV_len]; exact hz
  · rw [Array.toArray_toList]; exact e'
theorem call_tup_txt {X : Cx} (hc : X.calm = true) : CallR X (.type "tuple") rTupTxt := by
  intro pins s σ H xs us Q I r h
  obtain ⟨z, rfl, hz, q⟩ := h
  obtain ⟨u, rfl, rx⟩ := vals1 r
  obtain ⟨t, rfl⟩ := rx
  refine PySem.call_tuple_str (I.ok.hd hc) z t (fun h' tk acc hk hi => ?_) hz
  have I2 : Inv X pins σ H { s with heap := h', toks := tk } := I.kept hk
  refine ⟨.ref h'.objs.size, upd H h'.objs.size (.tup (chV z)), I2.laid (t' := tk) (fun c o e => Heap.get?_push_of_some _ e) (Nat.le_refl _) (show ObjOk X.prog X.w _ _ _ (.tup (chV z)) from ⟨?_, acc.toList, vals_ch hi, ?_⟩), rfl, q _ (I2.hok.fresh (Nat.le_refl _))⟩
  · rw [chV_len]; exact hz
  · rw [Array.toArray_toList]; exact IsTup.new _ _
section
variable {K : PySem.W.Frag} {σ : L2.St} {H : Hp} {Q : VK} {nx : L2.St → Hp → Prop} {rt : VK} {bk ct : L2.St → Hp → Prop} {te : TE} {g : TG} {tb : L2.TS} {tt : TT} {j : Nat} {vs : List Nat}
theorem w_listTxt {z : Str} (h : z.length ≤ sizeLine) (k : NewO (.lst (chV z)) H Q) : rListTxt [.str z] H Q := ⟨z, rfl, h, k⟩
theorem w_tupTxt {z : Str} (h : z.length ≤ sizeLine) (k : NewO (.tup (chV z)) H Q) : rTupTxt [.str z] H Q := ⟨z, rfl, h, k⟩
theorem w_forS (k : te σ H fun v H1 => ∃ z, v = .str z ∧ WFor (Its z) g tb nx rt σ H1) : tFor (iStr te) g tb ⟨nx, rt, bk, ct⟩ σ H := k
theorem w_lcS {tl : TE} (k : tl σ H fun v H1 => ∃ z, v = .str z ∧ ∀ D, H1 D = none → WLc (Its z) g tt te vs σ D H1 Q) : tLc (iStr tl) g tt te vs σ H Q := k
/-- sign by sign -/
theorem fl_str (l : List Nat) (Pv : Nat → L2.St → Hp → Prop) (h0 : Pv 0 σ H) (hs : ∀ i c σ H, l[i]? = some c → Pv i σ H → g (.str (S [c])) σ H fun σ2 H2 => tb ⟨Pv (i + 1), rt, nx, Pv (i + 1)⟩ σ2 H2) (hd : ∀ σ H, Pv l.length σ H → nx σ H) :
    ∃ z, V.str (S l) = .str z ∧ WFor (Its z) g tb nx rt σ H :=
  ⟨S l, rfl, wfor_it walk_str Pv h0 (fun _ _ _ _ _ => trivial) (fun i v σ H H' hi p ⟨e, c, h1, h2⟩ => by
    subst e h2
    exact hs i c σ _ (by rw [← List.getElem?_toArray]; exact h1) p) hd⟩
end
/-! ### order of texts -/
def rLtS : R2 := fun x y H Q => ∃ i j, x = .str i ∧ y = .str j ∧ Q (.bl (decide (i.cps.toList < j.cps.toList))) H
def rLeS : R2 := fun x y H Q => ∃ i j, x = .str i ∧ y = .str j ∧ Q (.bl (!decide (j.cps.toList < i.cps.toList))) H
theorem op_ltSA {X : Cx} : OpR X (compareOp .Lt) rLtS := op_lt_str
theorem op_leSA {X : Cx} : OpR X (compareOp .LtE) rLeS := op_le_str
theorem lt1 (a b : Nat) : decide ([a] < [b]) = decide (a < b) := by
  rw [decide_eq_decide]
  constructor
  · intro h
    rw [List.cons_lt_cons_iff] at h
    rcases h with h | ⟨_, h⟩
    · exact h
    · exact (List.not_lt_nil _ h).elim
  · intro h
    exact List.cons_lt_cons_iff.mpr (.inl h)
theorem w_le1 {a b : Nat} {H : Hp} {Q : VK} (k : Q (.bl (decide (a ≤ b))) H) : rLeS (.str (S [a])) (.str (S [b])) H Q := ⟨_, _, rfl, rfl, by
  show Q (.bl (!decide ([b] < [a]))) H
  rw [lt1, show (!decide (b < a)) = decide (a ≤ b) by by_cases h : a ≤ b <;> simp [h] <;> omega]
  exact k⟩

end J
namespace J
open PySem PySem.Spec PyProof.Rows L2

local macro_rules | `(tactic| walk_at "ty") => `(tactic| first
  | with_reducible exact ty_int
  | with_reducible exact ty_bl
  | with_reducible exact ty_str
  | with_reducible exact ty_non
  | ((with_reducible refine' ty_lst ?vv); (case vv => walk_at "tr"))
  | ((with_reducible refine' ty_sqT ?vv); (case vv => walk_at "tr"))
  | ((with_reducible refine' ty_dic ?vv); (case vv => walk_at "tr")))
local macro_rules | `(tactic| walk_at "ix") => `(tactic| first | exact at0 | exact at1 | exact at2 | assumption)
local macro_rules | `(tactic| walk_at "size") => `(tactic| first
  | assumption
  | (show _ < sizeLine; rw [sizeLine_eq]; (try simp only [List.length_cons, List.length_nil, List.length_append, List.length_map]); omega)
  | (show _ ≤ sizeLine; rw [sizeLine_eq]; (try simp only [List.length_cons, List.length_nil, List.length_append, List.length_map]); omega))
local macro_rules | `(tactic| walk_at "side") => `(tactic| first
  | assumption
  | ((with_reducible refine cdw ?_ ?_) <;> omega)
  | omega
  | (exact ⟨by omega, by omega⟩)
  | (exact Or.inl ⟨by omega, by omega⟩)
  | (exact Or.inr ⟨by omega, by omega⟩)
  | decide
  | (simp only [List.length_cons, List.length_nil, List.length_append, List.length_map]; omega)
  | (show _ ≤ _; decide))
local macro_rules | `(tactic| walk_at "as") => `(tactic| with_reducible assumption)
local macro_rules | `(tactic| walk_at "tr") => `(tactic| first
  | with_reducible assumption
  | with_reducible exact upd_same
  | ((with_reducible refine' SqL.of ?hh); (case hh => walk_at "as"))
  | ((with_reducible refine' SqT.of ?hh); (case hh => walk_at "as"))
  | ((with_reducible refine' Same.stm ?ee ?gg); (case ee => walk_at "as"); (case gg => walk_at "tr"))
  | ((with_reducible refine' Same.sqT ?ee ?gg); (case ee => walk_at "as"); (case gg => walk_at "tr"))
  | ((with_reducible refine' Same.sqL ?ee ?gg); (case ee => walk_at "as"); (case gg => walk_at "tr"))
  | ((with_reducible refine' Same.at ?ee ?gg); (case ee => walk_at "as"); (case gg => walk_at "tr"))
  | ((with_reducible refine' But.stm ?ee ?ff ?gg); (case ee => walk_at "as"); (case ff => walk_at "ne"); (case gg => walk_at "tr"))
  | ((with_reducible refine' But.tup ?ee ?ff ?gg); (case ee => walk_at "as"); (case ff => walk_at "tr1"); (case gg => walk_at "tr"))
  | ((with_reducible refine' But.sqT ?ee ?ff ?gg); (case ee => walk_at "as"); (case ff => walk_at "tr1"); (case gg => walk_at "tr"))
  | ((with_reducible refine' But.tupL ?ee ?ff ?gg); (case ee => walk_at "as"); (case ff => walk_at "tr1"); (case gg => walk_at "tr"))
  | ((with_reducible refine' But.sqTL ?ee ?ff ?gg); (case ee => walk_at "as"); (case ff => walk_at "tr1"); (case gg => walk_at "tr"))
  | ((with_reducible refine' But.sqL ?ee ?ff ?gg); (case ee => walk_at "as"); (case ff => walk_at "ne"); (case gg => walk_at "tr"))
  | ((with_reducible refine' But.at ?ee ?ff ?gg); (case ee => walk_at "as"); (case ff => walk_at "ne"); (case gg => walk_at "tr")))
local macro_rules | `(tactic| walk_at "ts") => `(tactic| first
  | with_reducible assumption
  | with_reducible exact TS.refl _
  | ((with_reducible refine' TS.trans ?gg (TS.of ?ee)); (case ee => walk_at "as"); (case gg => walk_at "ts"))
  | ((with_reducible refine' TS.trans ?gg (TS.butS ?ee ?ff)); (case ee => walk_at "as"); (case ff => walk_at "tr1"); (case gg => walk_at "ts"))
  | ((with_reducible refine' TS.trans ?gg (TS.butL ?ee ?ff)); (case ee => walk_at "as"); (case ff => walk_at "tr1"); (case gg => walk_at "ts"))
  | ((with_reducible refine' TS.trans ?gg (TS.butI ?ee ?ff)); (case ee => walk_at "as"); (case ff => walk_at "tr1"); (case gg => walk_at "ts")))
local macro_rules | `(tactic| walk_at "sm") => `(tactic| first
  | with_reducible assumption
  | with_reducible exact Same.refl _
  | ((with_reducible refine' Same.trans ?gg ?ee); (case ee => walk_at "as"); (case gg => walk_at "sm"))
  | ((with_reducible refine' But.new ?gg ?nn ?ee); (case ee => walk_at "as"); (case nn => walk_at "fr"); (case gg => walk_at "sm")))
local macro_rules | `(tactic| walk_at "fr") => `(tactic| first
  | with_reducible assumption
  | ((with_reducible refine' Same.back ?ee ?nn); (case nn => walk_at "as"); (case ee => walk_at "sm"))
  | ((with_reducible refine' But.back ?ee ?ff ?nn); (case nn => walk_at "as"); (case ff => walk_at "ne0"); (case ee => walk_at "bu")))
local macro_rules | `(tactic| walk_at "bu") => `(tactic| first
  | with_reducible assumption
  | with_reducible exact But.refl _ _
  | ((with_reducible refine' But.trans ?gg ?ee); (case ee => walk_at "as"); (case gg => walk_at "bu"))
  | ((with_reducible refine' But.trans ?gg (But.of ?ee)); (case ee => walk_at "as"); (case gg => walk_at "bu"))
  | ((with_reducible refine' But.new2 ?gg ?nn ?ee); (case ee => walk_at "as"); (case nn => walk_at "frB"); (case gg => walk_at "bu")))
local macro_rules | `(tactic| walk_at "frB") => `(tactic| first
  | with_reducible assumption
  | ((with_reducible refine' Same.back ?ee ?nn); (case nn => walk_at "as"); (case ee => walk_at "sm"))
  | ((with_reducible refine' But.back' ?ee ?ff ?nn); (case nn => walk_at "as"); (case ee => walk_at "bu"); (case ff => walk_at "tr1")))
local macro_rules | `(tactic| walk_at "tr1") => `(tactic| first
  | with_reducible assumption
  | ((with_reducible refine' Same.stm ?ee ?gg); (case ee => walk_at "as"); (case gg => walk_at "tr1"))
  | ((with_reducible refine' Same.at ?ee ?gg); (case ee => walk_at "as"); (case gg => walk_at "tr1"))
  | ((with_reducible refine' But.at ?ee ?ff ?gg); (case ee => walk_at "as"); (case ff => walk_at "ne0"); (case gg => walk_at "tr1"))
  | ((with_reducible refine' But.stm ?ee ?ff ?gg); (case ee => walk_at "as"); (case ff => walk_at "ne0"); (case gg => walk_at "tr1")))
local macro_rules | `(tactic| walk_at "ne0") => `(tactic| first
  | with_reducible assumption
  | (with_reducible apply Ne.symm; with_reducible assumption))
local macro_rules | `(tactic| walk_at "ne") => `(tactic| first
  | with_reducible assumption
  | (with_reducible apply Ne.symm; with_reducible assumption)
  | ((with_reducible refine' stm_ne ?hh ?nn); (case nn => walk_at "as"); (case hh => walk_at "tr1"))
  | ((with_reducible refine' ne_of_none ?hh ?nn); (case nn => walk_at "as"); (case hh => walk_at "tr1"))
  | ((with_reducible apply Ne.symm); (with_reducible refine' ne_of_none ?hh ?nn); (case nn => walk_at "as"); (case hh => walk_at "tr1")))
local macro_rules | `(tactic| walk_at "v") => `(tactic| first
  | with_reducible refine w_seq ?_
  | ((with_reducible refine' w_var ?vv ?_); (case vv => exact rfl))
  | with_reducible refine w_c ?_
  | with_reducible refine w_op ?_
  | with_reducible refine w_asg ?_
  | with_reducible refine w_gName ?_
  | with_reducible refine w_ret ?_
  | with_reducible refine w_ifS ?_
  | with_reducible refine w_drop ?_
  | with_reducible refine w_next ?_
  | with_reducible refine w_cons ?_
  | with_reducible refine w_nil ?_
  | with_reducible refine w_call ?_
  | with_reducible refine w_cb ?_
  | with_reducible refine w_rI0 ?_
  | with_reducible refine w_addI ?_
  | with_reducible refine w_eqI ?_
  | with_reducible refine w_neI ?_
  | with_reducible refine w_eqS ?_
  | with_reducible refine w_neS ?_
  | with_reducible refine w_eqB ?_
  | with_reducible refine w_neB ?_
  | with_reducible refine w_chain ?_
  | with_reducible refine w_test ?_
  | with_reducible refine w_tB ?_
  | with_reducible refine w_bl ?_
  | ((with_reducible refine' w_mulI ?vv ?_); (case vv => walk_at "side"))
  | ((with_reducible refine' w_rI ?vv ?_); (case vv => walk_at "side"))
  | with_reducible refine w_int1 ?_
  | with_reducible refine w_int1b ?_
  | with_reducible refine w_tup ?_
  | with_reducible refine w_lst ?_
  | with_reducible refine w_un ?_
  | with_reducible refine w_rU ?_
  | with_reducible refine w_not ?_
  | with_reducible refine w_notV ?_
  | with_reducible refine w_ifE ?_
  | with_reducible refine w_nT ?_
  | with_reducible refine w_nF ?_
  | with_reducible refine iteT ?_
  | with_reducible refine iteF ?_
  | ((with_reducible refine' w_ixT ?vv ?ww ?_); (case vv => walk_at "tr"); (case ww => walk_at "ix"))
  | ((with_reducible refine' w_ixL ?vv ?ww ?_); (case vv => walk_at "tr"); (case ww => walk_at "ix"))
  | with_reducible refine w_gSub ?_
  | ((with_reducible refine' w_setL ?vv ?ww ?_); (case vv => walk_at "tr"); (case ww => first | rfl | decide | assumption))
  | ((with_reducible refine' w_lenL ?vv ?_); (case vv => walk_at "tr"))
  | ((with_reducible refine' w_lenT ?vv ?_); (case vv => walk_at "tr"))
  | with_reducible refine w_max2 ?_
  | with_reducible refine w_max3 ?_
  | with_reducible refine w_din ?_
  | with_reducible refine w_dnotin ?_
  | with_reducible refine w_dput ?_
  | with_reducible refine w_min2 ?_
  | with_reducible refine w_bm ?_
  | with_reducible refine w_bm0 ?_
  | ((with_reducible refine' w_tyL ?vv ?_); (case vv => walk_at "tr"))
  | ((with_reducible refine' w_append ?vv ?ww ?_); (case vv => walk_at "tr"); (case ww => walk_at "size"))
  | ((with_reducible refine' w_size ?vv ?_); (case vv => walk_at "size"))
  | with_reducible refine w_forL ?_
  | with_reducible refine w_forT ?_
  | with_reducible refine w_forR1 ?_
  | with_reducible refine w_forR2 ?_
  | with_reducible refine w_lcL ?_
  | with_reducible refine w_lcT ?_
  | with_reducible refine w_lcR1 ?_
  | with_reducible refine w_yes ?_
  | with_reducible refine w_sl ?_
  | with_reducible refine w_noPart ?_
  | with_reducible refine w_part ?_
  | with_reducible refine w_int ?_
  | ((with_reducible refine' w_slL ?vv ?_); (case vv => walk_at "tr"))
  | ((with_reducible refine' w_seqL ?vv ?ww ?_); (case vv => walk_at "tr"); (case ww => rfl))
  | ((with_reducible refine' w_seqT ?vv ?ww ?_); (case vv => walk_at "tr"); (case ww => rfl))
  | with_reducible refine w_gNil ?_
  | with_reducible refine w_gCons ?_
  | with_reducible refine w_forZ ?_
  | with_reducible refine w_forM ?_
  | with_reducible refine w_forE ?_
  | with_reducible refine w_forV ?_
  | with_reducible refine w_lcZ ?_
  | with_reducible refine w_lcE ?_
  | ((with_reducible refine' w_isi (b := true) ?vv ?ww ?_); (case vv => walk_at "ty"); (case ww => decide +kernel))
  | ((with_reducible refine' w_isi (b := false) ?vv ?ww ?_); (case vv => walk_at "ty"); (case ww => decide +kernel))
  | with_reducible refine w_revL ?_
  | with_reducible refine w_pairN ?_
  | with_reducible refine w_pairC ?_
  | with_reducible refine w_dget ?_
  | with_reducible refine w_met ?_
  | ((with_reducible refine' w_metAt ?vv ?ww ?_); (case vv => walk_at "tr"); (case ww => rfl))
  | with_reducible refine w_mkI ?_
  | with_reducible refine w_fld ?_
  | ((with_reducible refine' w_fldAt ?vv ?cc ?nn ?ww ?_); (case vv => walk_at "tr"); (case cc => walk_at "cls"); (case nn => walk_at "na"); (case ww => rfl))
  | with_reducible refine w_sfld ?_
  | ((with_reducible refine' w_sfldAt ?vv ?cc ?nn ?ll ?ee ?_); (case vv => walk_at "tr"); (case cc => walk_at "cls"); (case nn => walk_at "na"); (case ll => simp); (case ee => rfl))
  | ((with_reducible refine' w_tupL ?vv ?_); (case vv => walk_at "tr"))
  | ((with_reducible refine' w_tupT ?vv ?_); (case vv => walk_at "tr"))
  | ((with_reducible refine' w_listL ?vv ?_); (case vv => walk_at "tr"))
  | ((with_reducible refine' w_listT ?vv ?_); (case vv => walk_at "tr"))
  | with_reducible refine w_tyS ?_
  | with_reducible refine w_lcZM ?_
  | with_reducible refine w_js ?_
  | with_reducible refine w_jsN ?_
  | ((with_reducible refine' w_jsP ?vv ?_); (case vv => walk_at "size"))
  | with_reducible refine w_fmt ?_
  | with_reducible refine w_forRR ?_
  | with_reducible refine w_retN ?_
  | with_reducible refine w_break ?_
  | with_reducible refine w_cont ?_)
local macro_rules | `(tactic| walk_at "w") => `(tactic| first
  | walk_at "v"
  | with_reducible refine w_or ?_
  | with_reducible refine w_and ?_
  | with_reducible refine w_andV ?_
  | with_reducible refine w_orV ?_)
local macro_rules | `(tactic| walk_at "wd") => `(tactic| first
  | walk_at "w"
  | ((with_reducible refine' w_decT ?vv ?_); (case vv => decide +kernel))
  | ((with_reducible refine' w_decF ?vv ?_); (case vv => decide +kernel)))
local macro_rules | `(tactic| walk_at "tz") => `(tactic| (intro S z; (repeat walk_at "w"); exact z))
local macro_rules | `(tactic| walk_at "wf") => `(tactic| first
  | walk_at "wd"
  | ((with_reducible refine' w_decF ?vv ?_); (case vv => with_reducible assumption)))
open SX
section
variable {K : PySem.W.Frag} {σ : L2.St} {H : Hp} {Q : VK} {te : TE} {tt : TT} {j : Nat}
/-- [e for c in text if ..] -/
theorem lc_S (l : List Nat) (Pv : Addr → Nat → List V → Hp → Prop) (h0 : ∀ D H', H D = none → Same H H' → H' D = some (.lst []) → Pv D 0 [] H')
    (hs : ∀ D, H D = none → ∀ i c ys H', l[i]? = some c → ys.length ≤ i → H' D = some (.lst ys) → Pv D i ys H' → tt ((wipe σ [j]).set j (some (.str (S [c])))) H' fun b H3 => if b = true then te ((wipe σ [j]).set j (some (.str (S [c])))) H3 fun y H4 => LcEnd D (Pv D) i y H4 else LcSkip D (Pv D) i H3)
    (hd : ∀ D, H D = none → ∀ ys H', ys.length ≤ l.length → H' D = some (.lst ys) → Pv D l.length ys H' → Q (.ref D) H') :
    ∃ z, V.str (S l) = .str z ∧ ∀ D, H D = none → WLc (Its z) (gName j) tt te [j] σ D H Q :=
  ⟨S l, rfl, wlc_it walk_str Pv h0 (fun _ _ _ _ _ _ _ _ => trivial) (fun D hD i v ys H0 H' hi hl hy hp ⟨e, c, h1, h2⟩ => by
    subst e h2
    exact ⟨wipe1 _ _ _, hs D hD i c ys _ (by rw [← List.getElem?_toArray]; exact h1) hl hy hp⟩) hd⟩
end

end J
namespace J
open PySem PySem.Spec PyProof.Rows L2

local macro_rules | `(tactic| walk_at "ty") => `(tactic| first
  | with_reducible exact ty_int
  | with_reducible exact ty_bl
  | with_reducible exact ty_str
  | with_reducible exact ty_non
  | ((with_reducible refine' ty_lst ?vv); (case vv => walk_at "tr"))
  | ((with_reducible refine' ty_sqT ?vv); (case vv => walk_at "tr"))
  | ((with_reducible refine' ty_dic ?vv); (case vv => walk_at "tr")))
local macro_rules | `(tactic| walk_at "ix") => `(tactic| first | exact at0 | exact at1 | exact at2 | assumption)
local macro_rules | `(tactic| walk_at "size") => `(tactic| first
  | assumption
  | (show _ < sizeLine; rw [sizeLine_eq]; (try simp only [List.length_cons, List.length_nil, List.length_append, List.length_map]); omega)
  | (show _ ≤ sizeLine; rw [sizeLine_eq]; (try simp only [List.length_cons, List.length_nil, List.length_append, List.length_map]); omega))
local macro_rules | `(tactic| walk_at "side") => `(tactic| first
  | assumption
  | ((with_reducible refine cdw ?_ ?_) <;> omega)
  | omega
  | (exact ⟨by omega, by omega⟩)
  | (exact Or.inl ⟨by omega, by omega⟩)
  | (exact Or.inr ⟨by omega, by omega⟩)
  | decide
  | (simp only [List.length_cons, List.length_nil, List.length_append, List.length_map]; omega)
  | (show _ ≤ _; decide))
local macro_rules | `(tactic| walk_at "as") => `(tactic| with_reducible assumption)
local macro_rules | `(tactic| walk_at "tr") => `(tactic| first
  | with_reducible assumption
  | with_reducible exact upd_same
  | ((with_reducible refine' SqL.of ?hh); (case hh => walk_at "as"))
  | ((with_reducible refine' SqT.of ?hh); (case hh => walk_at "as"))
  | ((with_reducible refine' Same.stm ?ee ?gg); (case ee => walk_at "as"); (case gg => walk_at "tr"))
  | ((with_reducible refine' Same.sqT ?ee ?gg); (case ee => walk_at "as"); (case gg => walk_at "tr"))
  | ((with_reducible refine' Same.sqL ?ee ?gg); (case ee => walk_at "as"); (case gg => walk_at "tr"))
  | ((with_reducible refine' Same.at ?ee ?gg); (case ee => walk_at "as"); (case gg => walk_at "tr"))
  | ((with_reducible refine' But.stm ?ee ?ff ?gg); (case ee => walk_at "as"); (case ff => walk_at "ne"); (case gg => walk_at "tr"))
  | ((with_reducible refine' But.tup ?ee ?ff ?gg); (case ee => walk_at "as"); (case ff => walk_at "tr1"); (case gg => walk_at "tr"))
  | ((with_reducible refine' But.sqT ?ee ?ff ?gg); (case ee => walk_at "as"); (case ff => walk_at "tr1"); (case gg => walk_at "tr"))
  | ((with_reducible refine' But.tupL ?ee ?ff ?gg); (case ee => walk_at "as"); (case ff => walk_at "tr1"); (case gg => walk_at "tr"))
  | ((with_reducible refine' But.sqTL ?ee ?ff ?gg); (case ee => walk_at "as"); (case ff => walk_at "tr1"); (case gg => walk_at "tr"))
  | ((with_reducible refine' But.sqL ?ee ?ff ?gg); (case ee => walk_at "as"); (case ff => walk_at "ne"); (case gg => walk_at "tr"))
  | ((with_reducible refine' But.at ?ee ?ff ?gg); (case ee => walk_at "as"); (case ff => walk_at "ne"); (case gg => walk_at "tr")))
local macro_rules | `(tactic| walk_at "ts") => `(tactic| first
  | with_reducible assumption
  | with_reducible exact TS.refl _
  | ((with_reducible refine' TS.trans ?gg (TS.of ?ee)); (case ee => walk_at "as"); (case gg => walk_at "ts"))
  | ((with_reducible refine' TS.trans ?gg (TS.butS ?ee ?ff)); (case ee => walk_at "as"); (case ff => walk_at "tr1"); (case gg => walk_at "ts"))
  | ((with_reducible refine' TS.trans ?gg (TS.butL ?ee ?ff)); (case ee => walk_at "as"); (case ff => walk_at "tr1"); (case gg => walk_at "ts"))
  | ((with_reducible refine' TS.trans ?gg (TS.butI ?ee ?ff)); (case ee => walk_at "as"); (case ff => walk_at "tr1"); (case gg => walk_at "ts")))
local macro_rules | `(tactic| walk_at "sm") => `(tactic| first
  | with_reducible assumption
  | with_reducible exact Same.refl _
  | ((with_reducible refine' Same.trans ?gg ?ee); (case ee => walk_at "as"); (case gg => walk_at "sm"))
  | ((with_reducible refine' But.new ?gg ?nn ?ee); (case ee => walk_at "as"); (case nn => walk_at "fr"); (case gg => walk_at "sm")))
local macro_rules | `(tactic| walk_at "fr") => `(tactic| first
  | with_reducible assumption
  | ((with_reducible refine' Same.back ?ee ?nn); (case nn => walk_at "as"); (case ee => walk_at "sm"))
  | ((with_reducible refine' But.back ?ee ?ff ?nn); (case nn => walk_at "as"); (case ff => walk_at "ne0"); (case ee => walk_at "bu")))
local macro_rules | `(tactic| walk_at "bu") => `(tactic| first
  | with_reducible assumption
  | with_reducible exact But.refl _ _
  | ((with_reducible refine' But.trans ?gg ?ee); (case ee => walk_at "as"); (case gg => walk_at "bu"))
  | ((with_reducible refine' But.trans ?gg (But.of ?ee)); (case ee => walk_at "as"); (case gg => walk_at "bu"))
  | ((with_reducible refine' But.new2 ?gg ?nn ?ee); (case ee => walk_at "as"); (case nn => walk_at "frB"); (case gg => walk_at "bu")))
local macro_rules | `(tactic| walk_at "frB") => `(tactic| first
  | with_reducible assumption
  | ((with_reducible refine' Same.back ?ee ?nn); (case nn => walk_at "as"); (case ee => walk_at "sm"))
  | ((with_reducible refine' But.back' ?ee ?ff ?nn); (case nn => walk_at "as"); (case ee => walk_at "bu"); (case ff => walk_at "tr1")))
local macro_rules | `(tactic| walk_at "tr1") => `(tactic| first
  | with_reducible assumption
  | ((with_reducible refine' Same.stm ?ee ?gg); (case ee => walk_at "as"); (case gg => walk_at "tr1"))
  | ((with_reducible refine' Same.at ?ee ?gg); (case ee => walk_at "as"); (case gg => walk_at "tr1"))
  | ((with_reducible refine' But.at ?ee ?ff ?gg); (case ee => walk_at "as"); (case ff => walk_at "ne0"); (case gg => walk_at "tr1"))
  | ((with_reducible refine' But.stm ?ee ?ff ?gg); (case ee => walk_at "as"); (case ff => walk_at "ne0"); (case gg => walk_at "tr1")))
local macro_rules | `(tactic| walk_at "ne0") => `(tactic| first
  | with_reducible assumption
  | (with_reducible apply Ne.symm; with_reducible assumption))
local macro_rules | `(tactic| walk_at "ne") => `(tactic| first
  | with_reducible assumption
  | (with_reducible apply Ne.symm; with_reducible assumption)
  | ((with_reducible refine' stm_ne ?hh ?nn); (case nn => walk_at "as"); (case hh => walk_at "tr1"))
  | ((with_reducible refine' ne_of_none ?hh ?nn); (case nn => walk_at "as"); (case hh => walk_at "tr1"))
  | ((with_reducible apply Ne.symm); (with_reducible refine' ne_of_none ?hh ?nn); (case nn => walk_at "as"); (case hh => walk_at "tr1")))
local macro_rules | `(tactic| walk_at "v") => `(tactic| first
  | with_reducible refine w_seq ?_
  | ((with_reducible refine' w_var ?vv ?_); (case vv => exact rfl))
  | with_reducible refine w_c ?_
  | with_reducible refine w_op ?_
  | with_reducible refine w_asg ?_
  | with_reducible refine w_gName ?_
  | with_reducible refine w_ret ?_
  | with_reducible refine w_ifS ?_
  | with_reducible refine w_drop ?_
  | with_reducible refine w_next ?_
  | with_reducible refine w_cons ?_
  | with_reducible refine w_nil ?_
  | with_reducible refine w_call ?_
  | with_reducible refine w_cb ?_
  | with_reducible refine w_rI0 ?_
  | with_reducible refine w_addI ?_
  | with_reducible refine w_eqI ?_
  | with_reducible refine w_neI ?_
  | with_reducible refine w_eqS ?_
  | with_reducible refine w_neS ?_
  | with_reducible refine w_eqB ?_
  | with_reducible refine w_neB ?_
  | with_reducible refine w_chain ?_
  | with_reducible refine w_test ?_
  | with_reducible refine w_tB ?_
  | with_reducible refine w_bl ?_
  | ((with_reducible refine' w_mulI ?vv ?_); (case vv => walk_at "side"))
  | ((with_reducible refine' w_rI ?vv ?_); (case vv => walk_at "side"))
  | with_reducible refine w_int1 ?_
  | with_reducible refine w_int1b ?_
  | with_reducible refine w_tup ?_
  | with_reducible refine w_lst ?_
  | with_reducible refine w_un ?_
  | with_reducible refine w_rU ?_
  | with_reducible refine w_not ?_
  | with_reducible refine w_notV ?_
  | with_reducible refine w_ifE ?_
  | with_reducible refine w_nT ?_
  | with_reducible refine w_nF ?_
  | with_reducible refine iteT ?_
  | with_reducible refine iteF ?_
  | ((with_reducible refine' w_ixT ?vv ?ww ?_); (case vv => walk_at "tr"); (case ww => walk_at "ix"))
  | ((with_reducible refine' w_ixL ?vv ?ww ?_); (case vv => walk_at "tr"); (case ww => walk_at "ix"))
  | with_reducible refine w_gSub ?_
  | ((with_reducible refine' w_setL ?vv ?ww ?_); (case vv => walk_at "tr"); (case ww => first | rfl | decide | assumption))
  | ((with_reducible refine' w_lenL ?vv ?_); (case vv => walk_at "tr"))
  | ((with_reducible refine' w_lenT ?vv ?_); (case vv => walk_at "tr"))
  | with_reducible refine w_max2 ?_
  | with_reducible refine w_max3 ?_
  | with_reducible refine w_din ?_
  | with_reducible refine w_dnotin ?_
  | with_reducible refine w_dput ?_
  | with_reducible refine w_min2 ?_
  | with_reducible refine w_bm ?_
  | with_reducible refine w_bm0 ?_
  | ((with_reducible refine' w_tyL ?vv ?_); (case vv => walk_at "tr"))
  | ((with_reducible refine' w_append ?vv ?ww ?_); (case vv => walk_at "tr"); (case ww => walk_at "size"))
  | ((with_reducible refine' w_size ?vv ?_); (case vv => walk_at "size"))
  | with_reducible refine w_forL ?_
  | with_reducible refine w_forT ?_
  | with_reducible refine w_forR1 ?_
  | with_reducible refine w_forR2 ?_
  | with_reducible refine w_lcL ?_
  | with_reducible refine w_lcT ?_
  | with_reducible refine w_lcR1 ?_
  | with_reducible refine w_yes ?_
  | with_reducible refine w_sl ?_
  | with_reducible refine w_noPart ?_
  | with_reducible refine w_part ?_
  | with_reducible refine w_int ?_
  | ((with_reducible refine' w_slL ?vv ?_); (case vv => walk_at "tr"))
  | ((with_reducible refine' w_seqL ?vv ?ww ?_); (case vv => walk_at "tr"); (case ww => rfl))
  | ((with_reducible refine' w_seqT ?vv ?ww ?_); (case vv => walk_at "tr"); (case ww => rfl))
  | with_reducible refine w_gNil ?_
  | with_reducible refine w_gCons ?_
  | with_reducible refine w_forZ ?_
  | with_reducible refine w_forM ?_
  | with_reducible refine w_forE ?_
  | with_reducible refine w_forV ?_
  | with_reducible refine w_lcZ ?_
  | with_reducible refine w_lcE ?_
  | ((with_reducible refine' w_isi (b := true) ?vv ?ww ?_); (case vv => walk_at "ty"); (case ww => decide +kernel))
  | ((with_reducible refine' w_isi (b := false) ?vv ?ww ?_); (case vv => walk_at "ty"); (case ww => decide +kernel))
  | with_reducible refine w_revL ?_
  | with_reducible refine w_pairN ?_
  | with_reducible refine w_pairC ?_
  | with_reducible refine w_dget ?_
  | with_reducible refine w_met ?_
  | ((with_reducible refine' w_metAt ?vv ?ww ?_); (case vv => walk_at "tr"); (case ww => rfl))
  | with_reducible refine w_mkI ?_
  | with_reducible refine w_fld ?_
  | ((with_reducible refine' w_fldAt ?vv ?cc ?nn ?ww ?_); (case vv => walk_at "tr"); (case cc => walk_at "cls"); (case nn => walk_at "na"); (case ww => rfl))
  | with_reducible refine w_sfld ?_
  | ((with_reducible refine' w_sfldAt ?vv ?cc ?nn ?ll ?ee ?_); (case vv => walk_at "tr"); (case cc => walk_at "cls"); (case nn => walk_at "na"); (case ll => simp); (case ee => rfl))
  | ((with_reducible refine' w_tupL ?vv ?_); (case vv => walk_at "tr"))
  | ((with_reducible refine' w_tupT ?vv ?_); (case vv => walk_at "tr"))
  | ((with_reducible refine' w_listL ?vv ?_); (case vv => walk_at "tr"))
  | ((with_reducible refine' w_listT ?vv ?_); (case vv => walk_at "tr"))
  | with_reducible refine w_tyS ?_
  | with_reducible refine w_lcZM ?_
  | with_reducible refine w_js ?_
  | with_reducible refine w_jsN ?_
  | ((with_reducible refine' w_jsP ?vv ?_); (case vv => walk_at "size"))
  | with_reducible refine w_fmt ?_
  | with_reducible refine w_forRR ?_
  | with_reducible refine w_retN ?_
  | with_reducible refine w_break ?_
  | with_reducible refine w_cont ?_)
local macro_rules | `(tactic| walk_at "w") => `(tactic| first
  | walk_at "v"
  | with_reducible refine w_or ?_
  | with_reducible refine w_and ?_
  | with_reducible refine w_andV ?_
  | with_reducible refine w_orV ?_)
local macro_rules | `(tactic| walk_at "wd") => `(tactic| first
  | walk_at "w"
  | ((with_reducible refine' w_decT ?vv ?_); (case vv => decide +kernel))
  | ((with_reducible refine' w_decF ?vv ?_); (case vv => decide +kernel)))
local macro_rules | `(tactic| walk_at "tz") => `(tactic| (intro S z; (repeat walk_at "w"); exact z))
local macro_rules | `(tactic| walk_at "wf") => `(tactic| first
  | walk_at "wd"
  | ((with_reducible refine' w_decF ?vv ?_); (case vv => with_reducible assumption)))
section
variable {X : Cx} {K : PySem.W.Frag} {H : Hp} {Q : VK}
/-- max, min of a list of ints; max of three -/
def rMaxO (K : PySem.W.Frag) : List V → Hp → VK → Prop := fun vs H Q => ∃ (a : Addr) (ns : List Int), vs = [V.ref a] ∧ SqL K H a (ns.map V.int) ∧ 0 < ns.length ∧ ∀ m, m ∈ ns → (∀ y, y ∈ ns → y ≤ m) → Q (.int m) H
theorem call_maxL (hK : X.K = K) (hc : X.calm = true) : CallR X (.builtin "max") (rMaxO K) := by subst hK; exact cr_max hc
theorem w_maxL {a : Addr} {ns : List Int} (h : SqL K H a (ns.map V.int)) (hl : 0 < ns.length) (k : ∀ m, m ∈ ns → (∀ y, y ∈ ns → y ≤ m) → Q (.int m) H) : rMaxO K [.ref a] H Q := ⟨a, ns, rfl, h, hl, k⟩
def rMax3 : List V → Hp → VK → Prop := fun xs H Q => ∃ i j k : Int, xs = [.int i, .int j, .int k] ∧ Q (.int (max (max i j) k)) H
theorem lt3 (i j : Int) : (if decide (j > i) = true then V.int j else .int i) = .int (max i j) := by
  by_cases h : j > i
  · rw [decide_eq_true h, if_pos rfl]; exact congrArg V.int (by omega)
  · rw [decide_eq_false h, if_neg Bool.false_ne_true]; exact congrArg V.int (by omega)
theorem call_max3A (hc : X.calm = true) : CallR X (.builtin "max") rMax3 := fun pins s σ H xs us Q I r h => by
  obtain ⟨i, j, k, rfl, q⟩ := h
  refine call_max3Nu hc pins s σ H _ us Q I r ⟨.int i, .int j, .int k, .int (max (max i j) k), rfl, ?_, q⟩
  have m2 : ∀ i j : Int, nuMax2 (.int i) (.int j) = some (.int (max i j)) := fun i j => by
    show some _ = _
    exact congrArg some (lt3 i j)
  show (nuMax2 (.int i) (.int j)).bind _ = _
  rw [m2]
  exact m2 _ _
theorem w_max3 {i j k : Int} (q : Q (.int (max (max i j) k)) H) : rMax3 [.int i, .int j, .int k] H Q := ⟨i, j, k, rfl, q⟩
/-- list.index -/
theorem mt_indexA (hK : X.K = K) : MtR X "list.index" (rIndex K) := by subst hK; exact mt_index
theorem w_indexI {a : Addr} {ns : List Int} {k : Int} {j : Nat} (h : SqL K H a (ns.map V.int)) (e : ns[j]? = some k) (no : ∀ m, m < j → ns[m]? ≠ some k) (q : Q (.int (j : Nat)) H) : rIndex K (.ref a) [.int k] H Q :=
  ⟨a, ns.map V.int, .int k, j, .int k, rfl, rfl, h, rfl, by rw [List.all_eq_true]; intro x hx; obtain ⟨_, _, rfl⟩ := List.mem_map.mp hx; rfl, by rw [List.getElem?_map, e]; rfl, by simp [eqV], fun m z hm hz => by
    rw [List.getElem?_map] at hz
    cases h2 : ns[m]? with
    | none => rw [h2] at hz; cases hz
    | some y =>
      rw [h2] at hz
      cases Option.some.inj hz
      have : y ≠ k := fun z => no m hm (by rw [h2, z])
      simp [eqV, this], q⟩
/-- list(range(n)) -/
def rRng1 : List V → Hp → VK → Prop := fun vs H Q => ∃ j : Int, vs = [V.int j] ∧ NewO (.rng 0 j) H Q
theorem call_rng1 : CallR X (.type "range") rRng1 := by
  intro pins s σ H vs us Q I r h
  obtain ⟨j, rfl, q⟩ := h
  obtain ⟨u, rfl, ru⟩ := vals1 r
  obtain ⟨t, rfl⟩ := ru
  refine call_range_1 ⟨.ref s.heap.objs.size, upd H s.heap.objs.size (.rng 0 j), I.laid (t' := s.toks + 1 + 1) (fun b o e => Heap.get?_push_of_some _ e) (Nat.le_refl _) ?_, rfl, q _ (I.hok.fresh (Nat.le_refl _))⟩
  exact ⟨s.toks, t, s.toks + 1, Heap.get?_push_size _ rfl⟩
def rListRng : List V → Hp → VK → Prop := fun vs H Q => ∃ (a : Addr) (j : Int), vs = [V.ref a] ∧ H a = some (.rng 0 j) ∧ 0 ≤ j ∧ j ≤ 1000 ∧ NewO (.lst ((List.range j.toNat).map fun i : Nat => V.int (i : Int))) H Q
theorem vals_ixR : ∀ {xs : List V} {us : List Value}, xs.length = us.length → (∀ (j : Nat) (x : V) (u : Value), xs[j]? = some x → us[j]? = some u → RelV x u) → Vals xs us
  | [], [], _, _ => .nil
  | [], _ :: _, h, _ => by simp at h
  | _ :: _, [], h, _ => by simp at h
  | x :: xs, u :: us, h, f => .cons (f 0 x u rfl rfl) (vals_ixR (by simpa using h) fun j y w h1 h2 => f (j + 1) y w (by simpa using h1) (by simpa using h2))
theorem vals_items {acc : Array Value} {n : Nat} (h : ItemsOf (fun i v => ∃ t, v = Value.int (0 + (i : Int) * 1) t) acc n) : Vals ((List.range n).map fun i : Nat => V.int (i : Int)) acc.toList := by
  refine vals_ixR (by rw [List.length_map, List.length_range, Array.length_toList]; exact h.1.symm) fun j x u hx hu => ?_
  rw [List.getElem?_map] at hx
  cases hr : (List.range n)[j]? with
  | none => rw [hr] at hx; cases hx
  | some i =>
    rw [hr] at hx
    obtain ⟨hl, he⟩ := List.getElem?_eq_some_iff.mp hr
    rw [List.getElem_range] at he
    subst he
    rw [List.length_range] at hl
    cases Option.some.inj hx
    rw [Array.getElem?_toList] at hu
    obtain ⟨t, rfl⟩ := h.2 j u hu
    exact ⟨t, by rw [Int.zero_add, Int.mul_one]⟩
theorem call_listRng (hc : X.calm = true) : CallR X (.type "list") rListRng := by
  intro pins s σ H vs us Q I r h
  obtain ⟨a, j, rfl, ha, h0, h1, q⟩ := h
  obtain ⟨u, rfl, ru⟩ := vals1 r
  obtain rfl : u = Value.ref a := ru
  obtain ⟨t, u, v, hr⟩ := I.hok a _ ha
  refine call_list_range (n := j.toNat) (I.ok.hd hc) hr ?_ ?_ (by omega) fun h' tk acc' c' hk hS hi => ?_
  · exact PySem.small_one (by decide) (by decide) (by omega) (by omega)
  · rw [PySem.rangeSize_one]
    by_cases z : 0 < j
    · rw [if_pos z]; omega
    · rw [if_neg z]; omega
  · refine ⟨.ref s.heap.objs.size, upd H s.heap.objs.size (.lst _), I.laid (t' := tk) hk (Nat.le_refl _) ⟨?_, acc'.toList, c', vals_items hi, by simpa using hS⟩, rfl, q _ (I.hok.fresh (Nat.le_refl _))⟩
    rw [List.length_map, List.length_range, sizeLine_eq]
    omega
theorem w_rng1 {j : Int} (k : NewO (.rng 0 j) H Q) : rRng1 [.int j] H Q := ⟨j, rfl, k⟩
theorem w_listRng {a : Addr} {j : Int} (h : H a = some (.rng 0 j)) (h0 : 0 ≤ j) (h1 : j ≤ 1000) (k : NewO (.lst ((List.range j.toNat).map fun i : Nat => V.int (i : Int))) H Q) : rListRng [.ref a] H Q := ⟨a, j, rfl, h, h0, h1, k⟩
/-- list.remove -/
theorem w_remove {a : Addr} {ns : List Int} {k : Int} {j : Nat} (h : H a = some (.lst (ns.map V.int))) (e : ns[j]? = some k) (no : ∀ m, m < j → ns[m]? ≠ some k) (q : ChgO a (.lst ((ns.eraseIdx j).map V.int)) H (Q .non)) : rRemI (.ref a) [.int k] H Q := ⟨a, ns, k, j, rfl, rfl, h, e, no, q⟩
end
section
variable {K : PySem.W.Frag} {H : Hp} {Q : VK} {σ : L2.St} {ty td tv : TE}
theorem w_din (k : ty σ H fun y H1 => td σ H1 fun x H2 => ∃ a o, x = .ref a ∧ DGet H2 a y o ∧ Q (.bl o.isSome) H2) : tDIn ty td σ H Q := k
theorem w_dnotin (k : ty σ H fun y H1 => td σ H1 fun x H2 => ∃ a o, x = .ref a ∧ DGet H2 a y o ∧ Q (.bl (!o.isSome)) H2) : tDNotIn ty td σ H Q := k
theorem w_dput {D : L2.Ends} (k : tv σ H fun v H1 => td σ H1 fun x H2 => ty σ H2 fun y H3 => ∃ a H4, x = .ref a ∧ DPut H3 a y v H4 ∧ D.nx σ H4) : sDPut td ty tv D σ H := k
end
/-- a comprehension within one -/
theorem lookup_rel {env : Env} : ∀ {names : List (Str × NameKind)} {x : Str}, (names.lookup x = some .cell ∨ names.lookup x = some .free) →
    ((names.map fun (n, k) => if (k == NameKind.free && env.scope.kind == .function && env.kindOf n == some .cell) then (n, NameKind.cell) else (n, k)).lookup x = some .cell ∨
     (names.map fun (n, k) => if (k == NameKind.free && env.scope.kind == .function && env.kindOf n == some .cell) then (n, NameKind.cell) else (n, k)).lookup x = some .free)
  | [], x, h => by simp at h
  | (n, k) :: r, x, h => by
    have ih := @lookup_rel env r x
    show List.lookup x ((if (k == NameKind.free && env.scope.kind == .function && env.kindOf n == some .cell) = true then (n, NameKind.cell) else (n, k)) :: _) = _ ∨ List.lookup x ((if (k == NameKind.free && env.scope.kind == .function && env.kindOf n == some .cell) = true then (n, NameKind.cell) else (n, k)) :: _) = _
    cases hx : x == n with
    | true =>
      simp only [List.lookup_cons, hx] at h
      by_cases hc : (k == NameKind.free && env.scope.kind == .function && env.kindOf n == some .cell) = true
      · rw [if_pos hc]; simp only [List.lookup_cons, hx]; exact .inl trivial
      · rw [if_neg hc]; simp only [List.lookup_cons, hx]; exact h
    | false =>
      simp only [List.lookup_cons, hx] at h
      by_cases hc : (k == NameKind.free && env.scope.kind == .function && env.kindOf n == some .cell) = true
      · rw [if_pos hc]; simp only [List.lookup_cons, hx]; exact ih h
      · rw [if_neg hc]; simp only [List.lookup_cons, hx]; exact ih h
theorem blkOk_rel {N : List Str} {sc0 scope : Scope} {env : Env} {own : List (Str × Nat)} (h : blkC N sc0 scope own = true) : BlkOk N (relabel sc0 env) scope own := by
  have b := blkOk_by h
  exact ⟨b.kind, b.uniq, b.ix, fun y hy e => lookup_rel (b.free y hy e), b.own⟩

end J
namespace J
open PySem PySem.Spec PyProof.Rows L2
--plain
/-! ### dicts with nested tuples as keys, things as values: d.setdefault(k, x) -/
section
open PySem PySem.Spec PyProof.Rows
namespace NDX
mutual
def keyD : PyData → NestedKey
  | .none => .none
  | .bool b => .num (if b = true then 1 else 0)
  | .int i => .num i
  | .str x => .text x
  | .list ds => .tup (keyAll ds)
  | .tuple ds => .tup (keyAll ds)
  | .dict _ => .none
def keyAll : List PyData → List NestedKey
  | [] => []
  | d :: ds => keyD d :: keyAll ds
end
section
variable {X : Cx} {pins : List (Addr × Obj)} {σ : L2.St} {H : Hp} {s : Shared}
mutual
theorem nest_of (I : Inv X pins σ H s) : ∀ (d : PyData) (v : V) (u : Value), tupD d = true → Dp X.K H v d → RelV v u → NestedIs s.heap (keyD d) u
  | .none, _, _, _, h, r => by
    cases h
    cases r
    exact .none
  | .bool b, _, _, _, h, r => by
    cases h
    cases r
    exact .bool rfl
  | .int i, _, _, _, h, r => by
    cases h
    obtain ⟨t, rfl⟩ := r
    exact .int i t
  | .str x, _, _, _, h, r => by
    cases h
    obtain ⟨t, rfl⟩ := r
    exact .text x t
  | .list ds, _, _, t, _, _ => by simp [tupD] at t
  | .tuple ds, _, _, t, h, r => by
    cases h with
    | tup hs ha =>
      cases r
      obtain ⟨its, rv, ⟨o, ho, hc, n, hd⟩, _⟩ := I.tuple hs
      exact .tup ho hc hd (nest_all I ds _ its (by simpa [tupD] using t) ha rv)
  | .dict _, _, _, t, _, _ => by simp [tupD] at t
theorem nest_all (I : Inv X pins σ H s) : ∀ (ds : List PyData) (vs : List V) (us : List Value), tupAll ds = true → DpAll X.K H vs ds → Vals vs us → NestedAll s.heap (keyAll ds) us
  | [], _, _, _, h, r => by
    cases h
    cases r
    exact .nil
  | d :: ds, _, _, t, h, r => by
    rw [tupAll, Bool.and_eq_true] at t
    cases h with
    | cons h1 h2 =>
      cases r with
      | cons r1 r2 => exact .cons (nest_of I d _ _ t.1 h1 r1) (nest_all I ds _ _ t.2 h2 r2)
end
end
/-- an entry: its key, where the key stands, where the thing stands -/
abbrev Ent := PyData × Addr × Addr
def rawE (x : Ent) : NestedKey × Addr × Value := (keyD x.1, x.2.1, .ref x.2.2)
def RawN (P : Program) (w : World) (a : Addr) (xs : List Ent) (h : Heap) : Prop := (a == sysModules) = false ∧
  ∃ o es ep, h.get? a = some o ∧ o.ExactDict ∧ o.data = .dict es ep ∧ es.toList = (xs.map rawE).map (entryOfKey (nestedKind P w)) ∧ ((xs.map rawE).map (·.1)).Nodup
def NDO (P : Program) (w : World) (a : Addr) (xs : List Ent) : HO := .ext (RawN P w a xs)
/-- at a stands such a dict -/
def NDAt (P : Program) (w : World) (H : Hp) (a : Addr) (xs : List Ent) : Prop := H a = some (NDO P w a xs) ∨ (xs = [] ∧ H a = some (.dK []))
/-- a key -/
def KeyAt (K : PySem.W.Frag) (H : Hp) (d : PyData) (b : Addr) : Prop := Dp K H (.ref b) d ∧ tupD d = true ∧ (keyD d).depth ≤ 8
theorem rawN_new {P : Program} {w : World} {H : Hp} {h : Heap} {a : Addr} {xs : List Ent} (R : RawN P w a xs h) : ObjOk P w H h a (NDO P w a xs) := by
  have ⟨_, o, _, _, ho, _⟩ := R
  exact ⟨R, ⟨o, ho⟩, fun h1 h2 p k => by
    obtain ⟨m, o, es, ep, ho, r⟩ := p
    exact ⟨m, o, es, ep, k o ho, r⟩⟩
section
variable {X : Cx} {pins : List (Addr × Obj)} {σ : L2.St} {H : Hp} {s : Shared} {a : Addr} {xs : List Ent}
theorem raw_of (I : Inv X pins σ H s) (h : NDAt X.prog X.w H a xs) : RawN X.prog X.w a xs s.heap := by
  rcases h with h | ⟨rfl, h⟩
  · exact (I.hok a _ h).1
  · obtain ⟨_, hd, vs, rel, o, es, ep, h1, h2, h3, h4⟩ := dk_of I.hok h
    refine ⟨hd, o, es, ep, h1, h2, h3, ?_, List.nodup_nil⟩
    have : vs = [] := by
      have := rel.length
      cases vs with
      | nil => rfl
      | cons v vs => simp at this
    subst this
    have e0 : es.toList = [] := by
      have h := h4.2.1
      generalize es.toList = L at h
      cases L with
      | nil => rfl
      | cons a L => exact nomatch h
    rw [e0]; rfl
theorem nd_mut (h : NDAt X.prog X.w H a xs) : Mut (H a) := by
  rcases h with h | ⟨_, h⟩ <;> (rw [h]; exact True.intro)
end
/-- made.setdefault(k, x): x is a thing -/
def tDSetN (P : Program) (w : World) (K : PySem.W.Frag) (td ty tx : TE) : TE := fun σ H Q => td σ H fun x H1 => ∃ a, x = .ref a ∧ (∃ xs, NDAt P w H1 a xs) ∧ ty σ H1 fun y H2 => tx σ H2 fun z H3 => ∃ (xs : List Ent) (d : PyData) (b p : Addr), NDAt P w H3 a xs ∧ y = .ref b ∧ z = .ref p ∧ xs.length < 1000 ∧
  (∀ e ∈ xs, KeyAt K H3 e.1 e.2.1) ∧ KeyAt K H3 d b ∧ (∀ e ∈ xs, keyD e.1 = keyD d → Q (.ref e.2.2) H3) ∧ ((∀ e ∈ xs, keyD e.1 ≠ keyD d) → Q (.ref p) (upd H3 a (NDO P w a (xs ++ [(d, b, p)]))))
section
variable {X : Cx} {o e f : Expr} {td ty tx : TE} {apos cpos : Pos}
theorem w_dsetN {P : Program} {w : World} {K : PySem.W.Frag} {td ty tx : TE} {σ : L2.St} {H : Hp} {Q : VK} (k : td σ H fun x H1 => ∃ a, x = .ref a ∧ (∃ xs, NDAt P w H1 a xs) ∧ ty σ H1 fun y H2 => tx σ H2 fun z H3 => ∃ (xs : List Ent) (d : PyData) (b p : Addr), NDAt P w H3 a xs ∧ y = .ref b ∧ z = .ref p ∧ xs.length < 1000 ∧
  (∀ e ∈ xs, KeyAt K H3 e.1 e.2.1) ∧ KeyAt K H3 d b ∧ (∀ e ∈ xs, keyD e.1 = keyD d → Q (.ref e.2.2) H3) ∧ ((∀ e ∈ xs, keyD e.1 ≠ keyD d) → Q (.ref p) (upd H3 a (NDO P w a (xs ++ [(d, b, p)]))))) : tDSetN P w K td ty tx σ H Q := k
def iOr (i j : TI) : TI := fun σ H R => i σ H R ∨ j σ H R
theorem PI.or {tg : Expr} {i j : TI} (h : PI X tg e i) (h' : PI X tg e j) : PI X tg e (iOr i j) := ⟨fun pins s σ H R I q => by
  rcases q with q | q
  · exact h.run pins s σ H R I q
  · exact h'.run pins s σ H R I q⟩
theorem w_lcO {i j : TI} {g : TG} {tt : TT} {te : TE} {vs : List Nat} {σ : L2.St} {H : Hp} {Q : VK} (k : tLc i g tt te vs σ H Q ∨ tLc j g tt te vs σ H Q) : tLc (iOr i j) g tt te vs σ H Q := k
theorem w_lcLT {K : PySem.W.Frag} {tl : TE} {tt : TT} {te : TE} {j : Nat} {σ : L2.St} {H : Hp} {Q : VK} {a : Addr} (xs : List V) (hv : ∀ R : VK, R (.ref a) H → tl σ H R) (Pv : Addr → Nat → List V → Hp → Prop) (hS : SqL K H a xs ∨ SqT K H a xs) (h0 : ∀ D H', H D = none → Same H H' → H' D = some (.lst []) → Pv D 0 [] H')
    (hsm : ∀ D i ys H', Pv D i ys H' → Same H H')
    (hs : ∀ D, H D = none → ∀ i x ys H', xs[i]? = some x → ys.length ≤ i → H' D = some (.lst ys) → Pv D i ys H' → tt ((wipe σ [j]).set j (some x)) H' fun b H3 => if b = true then te ((wipe σ [j]).set j (some x)) H3 fun y H4 => LcEnd D (Pv D) i y H4 else LcSkip D (Pv D) i H3)
    (hd : ∀ D, H D = none → ∀ ys H', ys.length ≤ xs.length → H' D = some (.lst ys) → Pv D xs.length ys H' → Q (.ref D) H') : tLc (iOr (iList K tl) (iTup K tl)) (gName j) tt te [j] σ H Q :=
  w_lcO (hS.elim (fun h => .inl (w_lcL (hv _ (lc_L xs Pv h h0 (fun D _ i ys H' _ _ p => (hsm D i ys H' p).sqL h) hs hd)))) (fun h => .inr (w_lcT (hv _ (lc_T xs Pv h h0 (fun D _ i ys H' _ _ p => (hsm D i ys H' p).sqT h) hs hd)))))
theorem pe_dsetN {P : Program} {w : World} {K : PySem.W.Frag} (hP : X.prog = P) (hw : X.w = w) (hK : X.K = K) (hu : X.A.units + 64 < cLine) (ho : PE X o td) (he : PE X e ty) (hf : PE X f tx) (m : M2 X o "setdefault" apos e f cpos) : PE X (.Call (.Attribute o "setdefault" apos) [e, f] [] cpos) (tDSetN P w K td ty tx) := by
  subst hP hw hK
  refine ⟨fun pins s σ H Q I h => ?_⟩
  refine wpAny_Call_method m.base m.few m.line PySem.F.plainAttrs_dict PySem.F.slot_dict_setdefault PySem.F.type_dict_setdefault (thn (ho.run pins s σ H _ I h) fun u s1 ⟨x, H1, I1, rx, a, ex, ⟨xs1, d1⟩, q1⟩ => ?_)
  subst ex
  obtain rfl : u = Value.ref a := rx
  obtain ⟨hm1, ob, es, ep, g1, g2, g3, _⟩ := raw_of I1 d1
  refine ⟨⟨ob, g1, g2.1⟩, fun b q => ?_, ?_⟩
  · cases q
    exact ⟨ob, g1, g2.2.1⟩
  rw [m.trees]
  refine Calls.callWith_builtin rfl (Calls.evalArgs_plain (Calls.spliced_cons (thn (he.run pins s1 σ H1 _ I1 q1) fun iv s2 ⟨y, H2, I2, ry, q2⟩ =>
    Calls.spliced_cons (thn (hf.run pins s2 σ H2 _ I2 q2) fun fv s3 ⟨z, H3, I3, rz, xs, d, b, p, hd, ey, ez, hl, hk, hkd, q3, q4⟩ => Calls.spliced_nil ?_))))
  subst ey ez
  obtain rfl : iv = Value.ref b := ry
  obtain rfl : fv = Value.ref p := rz
  obtain ⟨hm, ob3, es3, ep3, k1, k2, k3, k4, k5⟩ := raw_of I3 hd
  have keys : ∀ d b, KeyAt X.K H3 d b → (nestedKind X.prog X.w).is s3.heap (keyD d) b := fun d b h => ⟨nest_of I3 d _ _ h.2.1 h.1 rfl, h.2.2⟩
  have hx : s3.heap.DictOfH (nestedKind X.prog X.w) a (xs.map rawE) := ⟨ob3, es3, ep3, k1, k2, k3, k4, fun x hx => by
    obtain ⟨e, he, rfl⟩ := List.mem_map.mp hx
    exact keys _ _ (hk e he), k5⟩
  refine call_setdefault_heap (knd := nestedKind X.prog X.w) (show X.A.units + 1 + 8 < cLine by omega) (keys d b hkd) hm hx (fun q hq => ?_) (fun hn h' hm' hs => ?_) (by rw [List.length_map, sizeLine_eq]; omega)
  · unfold atKey at hq
    obtain ⟨y, hy, rfl⟩ := Option.map_eq_some_iff.mp hq
    have hm2 := List.mem_of_find?_eq_some hy
    have hc := List.find?_some hy
    obtain ⟨e, he, rfl⟩ := List.mem_map.mp hm2
    exact ⟨.ref e.2.2, H3, I3.tok _, rfl, q3 e he (of_decide_eq_true hc)⟩
  · have hno : ∀ e ∈ xs, keyD e.1 ≠ keyD d := fun e he hc => by
      unfold atKey at hn
      rw [Option.map_eq_none_iff, List.find?_eq_none] at hn
      exact hn (rawE e) (List.mem_map.mpr ⟨e, he, rfl⟩) (decide_eq_true hc)
    rw [storedH_new hn] at hm'
    obtain ⟨o2, es2, ep2, j1, j2, j3, j4, _, j5⟩ := hm'
    have e2 : xs.map rawE ++ [(keyD d, b, Value.ref p)] = (xs ++ [(d, b, p)]).map rawE := by rw [List.map_append]; rfl
    rw [e2] at j4 j5
    exact ⟨.ref p, _, d_write I3 (nd_mut hd) hs ⟨o2, j1⟩ (rawN_new ⟨hm, o2, es2, ep2, j1, j2, j3, j4, j5⟩), rfl, q4 hno⟩
end
end NDX
end

end J
namespace J
open PySem PySem.Spec PyProof.Rows L2

local macro_rules | `(tactic| walk_at "ty") => `(tactic| first
  | with_reducible exact ty_int
  | with_reducible exact ty_bl
  | with_reducible exact ty_str
  | with_reducible exact ty_non
  | ((with_reducible refine' ty_lst ?vv); (case vv => walk_at "tr"))
  | ((with_reducible refine' ty_sqT ?vv); (case vv => walk_at "tr"))
  | ((with_reducible refine' ty_dic ?vv); (case vv => walk_at "tr")))
local macro_rules | `(tactic| walk_at "ix") => `(tactic| first | exact at0 | exact at1 | exact at2 | assumption)
local macro_rules | `(tactic| walk_at "size") => `(tactic| first
  | assumption
  | (show _ < sizeLine; rw [sizeLine_eq]; (try simp only [List.length_cons, List.length_nil, List.length_append, List.length_map]); omega)
  | (show _ ≤ sizeLine; rw [sizeLine_eq]; (try simp only [List.length_cons, List.length_nil, List.length_append, List.length_map]); omega))
local macro_rules | `(tactic| walk_at "side") => `(tactic| first
  | assumption
  | ((with_reducible refine cdw ?_ ?_) <;> omega)
  | omega
  | (exact ⟨by omega, by omega⟩)
  | (exact Or.inl ⟨by omega, by omega⟩)
  | (exact Or.inr ⟨by omega, by omega⟩)
  | decide
  | (simp only [List.length_cons, List.length_nil, List.length_append, List.length_map]; omega)
  | (show _ ≤ _; decide))
local macro_rules | `(tactic| walk_at "as") => `(tactic| with_reducible assumption)
local macro_rules | `(tactic| walk_at "tr") => `(tactic| first
  | with_reducible assumption
  | with_reducible exact upd_same
  | ((with_reducible refine' SqL.of ?hh); (case hh => walk_at "as"))
  | ((with_reducible refine' SqT.of ?hh); (case hh => walk_at "as"))
  | ((with_reducible refine' Same.stm ?ee ?gg); (case ee => walk_at "as"); (case gg => walk_at "tr"))
  | ((with_reducible refine' Same.sqT ?ee ?gg); (case ee => walk_at "as"); (case gg => walk_at "tr"))
  | ((with_reducible refine' Same.sqL ?ee ?gg); (case ee => walk_at "as"); (case gg => walk_at "tr"))
  | ((with_reducible refine' Same.at ?ee ?gg); (case ee => walk_at "as"); (case gg => walk_at "tr"))
  | ((with_reducible refine' But.stm ?ee ?ff ?gg); (case ee => walk_at "as"); (case ff => walk_at "ne"); (case gg => walk_at "tr"))
  | ((with_reducible refine' But.tup ?ee ?ff ?gg); (case ee => walk_at "as"); (case ff => walk_at "tr1"); (case gg => walk_at "tr"))
  | ((with_reducible refine' But.sqT ?ee ?ff ?gg); (case ee => walk_at "as"); (case ff => walk_at "tr1"); (case gg => walk_at "tr"))
  | ((with_reducible refine' But.tupL ?ee ?ff ?gg); (case ee => walk_at "as"); (case ff => walk_at "tr1"); (case gg => walk_at "tr"))
  | ((with_reducible refine' But.sqTL ?ee ?ff ?gg); (case ee => walk_at "as"); (case ff => walk_at "tr1"); (case gg => walk_at "tr"))
  | ((with_reducible refine' But.sqL ?ee ?ff ?gg); (case ee => walk_at "as"); (case ff => walk_at "ne"); (case gg => walk_at "tr"))
  | ((with_reducible refine' But.at ?ee ?ff ?gg); (case ee => walk_at "as"); (case ff => walk_at "ne"); (case gg => walk_at "tr")))
local macro_rules | `(tactic| walk_at "ts") => `(tactic| first
  | with_reducible assumption
  | with_reducible exact TS.refl _
  | ((with_reducible refine' TS.trans ?gg (TS.of ?ee)); (case ee => walk_at "as"); (case gg => walk_at "ts"))
  | ((with_reducible refine' TS.trans ?gg (TS.butS ?ee ?ff)); (case ee => walk_at "as"); (case ff => walk_at "tr1"); (case gg => walk_at "ts"))
  | ((with_reducible refine' TS.trans ?gg (TS.butL ?ee ?ff)); (case ee => walk_at "as"); (case ff => walk_at "tr1"); (case gg => walk_at "ts"))
  | ((with_reducible refine' TS.trans ?gg (TS.butI ?ee ?ff)); (case ee => walk_at "as"); (case ff => walk_at "tr1"); (case gg => walk_at "ts")))
local macro_rules | `(tactic| walk_at "sm") => `(tactic| first
  | with_reducible assumption
  | with_reducible exact Same.refl _
  | ((with_reducible refine' Same.trans ?gg ?ee); (case ee => walk_at "as"); (case gg => walk_at "sm"))
  | ((with_reducible refine' But.new ?gg ?nn ?ee); (case ee => walk_at "as"); (case nn => walk_at "fr"); (case gg => walk_at "sm")))
local macro_rules | `(tactic| walk_at "fr") => `(tactic| first
  | with_reducible assumption
  | ((with_reducible refine' Same.back ?ee ?nn); (case nn => walk_at "as"); (case ee => walk_at "sm"))
  | ((with_reducible refine' But.back ?ee ?ff ?nn); (case nn => walk_at "as"); (case ff => walk_at "ne0"); (case ee => walk_at "bu")))
local macro_rules | `(tactic| walk_at "bu") => `(tactic| first
  | with_reducible assumption
  | with_reducible exact But.refl _ _
  | ((with_reducible refine' But.trans ?gg ?ee); (case ee => walk_at "as"); (case gg => walk_at "bu"))
  | ((with_reducible refine' But.trans ?gg (But.of ?ee)); (case ee => walk_at "as"); (case gg => walk_at "bu"))
  | ((with_reducible refine' But.new2 ?gg ?nn ?ee); (case ee => walk_at "as"); (case nn => walk_at "frB"); (case gg => walk_at "bu")))
local macro_rules | `(tactic| walk_at "frB") => `(tactic| first
  | with_reducible assumption
  | ((with_reducible refine' Same.back ?ee ?nn); (case nn => walk_at "as"); (case ee => walk_at "sm"))
  | ((with_reducible refine' But.back' ?ee ?ff ?nn); (case nn => walk_at "as"); (case ee => walk_at "bu"); (case ff => walk_at "tr1")))
local macro_rules | `(tactic| walk_at "tr1") => `(tactic| first
  | with_reducible assumption
  | ((with_reducible refine' Same.stm ?ee ?gg); (case ee => walk_at "as"); (case gg => walk_at "tr1"))
  | ((with_reducible refine' Same.at ?ee ?gg); (case ee => walk_at "as"); (case gg => walk_at "tr1"))
  | ((with_reducible refine' But.at ?ee ?ff ?gg); (case ee => walk_at "as"); (case ff => walk_at "ne0"); (case gg => walk_at "tr1"))
  | ((with_reducible refine' But.stm ?ee ?ff ?gg); (case ee => walk_at "as"); (case ff => walk_at "ne0"); (case gg => walk_at "tr1")))
local macro_rules | `(tactic| walk_at "ne0") => `(tactic| first
  | with_reducible assumption
  | (with_reducible apply Ne.symm; with_reducible assumption))
local macro_rules | `(tactic| walk_at "ne") => `(tactic| first
  | with_reducible assumption
  | (with_reducible apply Ne.symm; with_reducible assumption)
  | ((with_reducible refine' stm_ne ?hh ?nn); (case nn => walk_at "as"); (case hh => walk_at "tr1"))
  | ((with_reducible refine' ne_of_none ?hh ?nn); (case nn => walk_at "as"); (case hh => walk_at "tr1"))
  | ((with_reducible apply Ne.symm); (with_reducible refine' ne_of_none ?hh ?nn); (case nn => walk_at "as"); (case hh => walk_at "tr1")))
local macro_rules | `(tactic| walk_at "v") => `(tactic| first
  | with_reducible refine w_seq ?_
  | ((with_reducible refine' w_var ?vv ?_); (case vv => exact rfl))
  | with_reducible refine w_c ?_
  | with_reducible refine w_op ?_
  | with_reducible refine w_asg ?_
  | with_reducible refine w_gName ?_
  | with_reducible refine w_ret ?_
  | with_reducible refine w_ifS ?_
  | with_reducible refine w_drop ?_
  | with_reducible refine w_next ?_
  | with_reducible refine w_cons ?_
  | with_reducible refine w_nil ?_
  | with_reducible refine w_call ?_
  | with_reducible refine w_cb ?_
  | with_reducible refine w_rI0 ?_
  | with_reducible refine w_addI ?_
  | with_reducible refine w_eqI ?_
  | with_reducible refine w_neI ?_
  | with_reducible refine w_eqS ?_
  | with_reducible refine w_neS ?_
  | with_reducible refine w_eqB ?_
  | with_reducible refine w_neB ?_
  | with_reducible refine w_chain ?_
  | with_reducible refine w_test ?_
  | with_reducible refine w_tB ?_
  | with_reducible refine w_bl ?_
  | ((with_reducible refine' w_mulI ?vv ?_); (case vv => walk_at "side"))
  | ((with_reducible refine' w_rI ?vv ?_); (case vv => walk_at "side"))
  | with_reducible refine w_int1 ?_
  | with_reducible refine w_int1b ?_
  | with_reducible refine w_tup ?_
  | with_reducible refine w_lst ?_
  | with_reducible refine w_un ?_
  | with_reducible refine w_rU ?_
  | with_reducible refine w_not ?_
  | with_reducible refine w_notV ?_
  | with_reducible refine w_ifE ?_
  | with_reducible refine w_nT ?_
  | with_reducible refine w_nF ?_
  | with_reducible refine iteT ?_
  | with_reducible refine iteF ?_
  | ((with_reducible refine' w_ixT ?vv ?ww ?_); (case vv => walk_at "tr"); (case ww => walk_at "ix"))
  | ((with_reducible refine' w_ixL ?vv ?ww ?_); (case vv => walk_at "tr"); (case ww => walk_at "ix"))
  | with_reducible refine w_gSub ?_
  | ((with_reducible refine' w_setL ?vv ?ww ?_); (case vv => walk_at "tr"); (case ww => first | rfl | decide | assumption))
  | ((with_reducible refine' w_lenL ?vv ?_); (case vv => walk_at "tr"))
  | ((with_reducible refine' w_lenT ?vv ?_); (case vv => walk_at "tr"))
  | with_reducible refine w_max2 ?_
  | with_reducible refine w_max3 ?_
  | with_reducible refine w_din ?_
  | with_reducible refine w_dnotin ?_
  | with_reducible refine w_dput ?_
  | with_reducible refine w_min2 ?_
  | with_reducible refine w_bm ?_
  | with_reducible refine w_bm0 ?_
  | ((with_reducible refine' w_tyL ?vv ?_); (case vv => walk_at "tr"))
  | ((with_reducible refine' w_append ?vv ?ww ?_); (case vv => walk_at "tr"); (case ww => walk_at "size"))
  | ((with_reducible refine' w_size ?vv ?_); (case vv => walk_at "size"))
  | with_reducible refine w_forL ?_
  | with_reducible refine w_forT ?_
  | with_reducible refine w_forR1 ?_
  | with_reducible refine w_forR2 ?_
  | with_reducible refine w_lcL ?_
  | with_reducible refine w_lcT ?_
  | with_reducible refine w_lcR1 ?_
  | with_reducible refine w_yes ?_
  | with_reducible refine w_sl ?_
  | with_reducible refine w_noPart ?_
  | with_reducible refine w_part ?_
  | with_reducible refine w_int ?_
  | ((with_reducible refine' w_slL ?vv ?_); (case vv => walk_at "tr"))
  | ((with_reducible refine' w_seqL ?vv ?ww ?_); (case vv => walk_at "tr"); (case ww => rfl))
  | ((with_reducible refine' w_seqT ?vv ?ww ?_); (case vv => walk_at "tr"); (case ww => rfl))
  | with_reducible refine w_gNil ?_
  | with_reducible refine w_gCons ?_
  | with_reducible refine w_forZ ?_
  | with_reducible refine w_forM ?_
  | with_reducible refine w_forE ?_
  | with_reducible refine w_forV ?_
  | with_reducible refine w_lcZ ?_
  | with_reducible refine w_lcE ?_
  | ((with_reducible refine' w_isi (b := true) ?vv ?ww ?_); (case vv => walk_at "ty"); (case ww => decide +kernel))
  | ((with_reducible refine' w_isi (b := false) ?vv ?ww ?_); (case vv => walk_at "ty"); (case ww => decide +kernel))
  | with_reducible refine w_revL ?_
  | with_reducible refine w_pairN ?_
  | with_reducible refine w_pairC ?_
  | with_reducible refine w_dget ?_
  | with_reducible refine w_met ?_
  | ((with_reducible refine' w_metAt ?vv ?ww ?_); (case vv => walk_at "tr"); (case ww => rfl))
  | with_reducible refine w_mkI ?_
  | with_reducible refine w_fld ?_
  | ((with_reducible refine' w_fldAt ?vv ?cc ?nn ?ww ?_); (case vv => walk_at "tr"); (case cc => walk_at "cls"); (case nn => walk_at "na"); (case ww => rfl))
  | with_reducible refine w_sfld ?_
  | ((with_reducible refine' w_sfldAt ?vv ?cc ?nn ?ll ?ee ?_); (case vv => walk_at "tr"); (case cc => walk_at "cls"); (case nn => walk_at "na"); (case ll => simp); (case ee => rfl))
  | ((with_reducible refine' w_tupL ?vv ?_); (case vv => walk_at "tr"))
  | ((with_reducible refine' w_tupT ?vv ?_); (case vv => walk_at "tr"))
  | ((with_reducible refine' w_listL ?vv ?_); (case vv => walk_at "tr"))
  | ((with_reducible refine' w_listT ?vv ?_); (case vv => walk_at "tr"))
  | with_reducible refine w_tyS ?_
  | with_reducible refine w_lcZM ?_
  | with_reducible refine w_js ?_
  | with_reducible refine w_jsN ?_
  | ((with_reducible refine' w_jsP ?vv ?_); (case vv => walk_at "size"))
  | with_reducible refine w_fmt ?_
  | with_reducible refine w_forRR ?_
  | with_reducible refine w_retN ?_
  | with_reducible refine w_break ?_
  | with_reducible refine w_cont ?_)
local macro_rules | `(tactic| walk_at "w") => `(tactic| first
  | walk_at "v"
  | with_reducible refine w_or ?_
  | with_reducible refine w_and ?_
  | with_reducible refine w_andV ?_
  | with_reducible refine w_orV ?_)
local macro_rules | `(tactic| walk_at "wd") => `(tactic| first
  | walk_at "w"
  | ((with_reducible refine' w_decT ?vv ?_); (case vv => decide +kernel))
  | ((with_reducible refine' w_decF ?vv ?_); (case vv => decide +kernel)))
local macro_rules | `(tactic| walk_at "tz") => `(tactic| (intro S z; (repeat walk_at "w"); exact z))
local macro_rules | `(tactic| walk_at "wf") => `(tactic| first
  | walk_at "wd"
  | ((with_reducible refine' w_decF ?vv ?_); (case vv => with_reducible assumption)))
theorem pi_listA {X : Cx} {K : PySem.W.Frag} {tg l : Expr} {tl : TE} (hK : X.K = K) (hl : PE X l tl) : PI X tg l (iList K tl) := by subst hK; exact pi_list hl
theorem pi_tupA {X : Cx} {K : PySem.W.Frag} {tg l : Expr} {tl : TE} (hK : X.K = K) (hl : PE X l tl) : PI X tg l (iTup K tl) := by subst hK; exact pi_tup hl
section
variable {K : PySem.W.Frag} {σ : L2.St} {H : Hp} {Q : VK} {nx : L2.St → Hp → Prop} {rt : VK} {bk ct : L2.St → Hp → Prop} {tt : TT} {t : L2.TS}
theorem w_while2 (Pv : Nat → L2.St → Hp → Prop) (m : Nat) (h0 : Pv m σ H) (hs : ∀ m σ H, Pv m σ H → tt σ H fun b H1 => if b = true then ∃ N : L2.St → Hp → Prop, (∀ σ' H', N σ' H' → ∃ m', m' < m ∧ Pv m' σ' H') ∧ t ⟨N, rt, nx, N⟩ σ H1 else nx σ H1) :
    tWhile tt t ⟨nx, rt, bk, ct⟩ σ H := ⟨Pv, ⟨m, h0⟩, hs⟩
theorem w_whB2 {m : Nat} {Pv : Nat → L2.St → Hp → Prop} (k : t ⟨fun σ' H' => ∃ m', m' < m ∧ Pv m' σ' H', rt, nx, fun σ' H' => ∃ m', m' < m ∧ Pv m' σ' H'⟩ σ H) : ∃ N : L2.St → Hp → Prop, (∀ σ' H', N σ' H' → ∃ m', m' < m ∧ Pv m' σ' H') ∧ t ⟨N, rt, nx, N⟩ σ H :=
  ⟨_, fun _ _ z => z, k⟩
theorem flat_ints (ns : List Int) : (ns.map V.int).all flatV = true := by
  rw [List.all_eq_true]
  intro x hx
  obtain ⟨_, _, rfl⟩ := List.mem_map.mp hx
  rfl
theorem in_ints (x : Int) (ns : List Int) : inV (.int x) (ns.map V.int) = decide (x ∈ ns) := by
  induction ns with
  | nil => rfl
  | cons n ns ih =>
    have e : inV (.int x) ((n :: ns).map V.int) = (eqV (.int n) (.int x) || inV (.int x) (ns.map V.int)) := rfl
    rw [e, ih]
    by_cases h : n = x
    · subst h; simp [eqV]
    · have : x ≠ n := fun z => h z.symm
      simp [eqV, h, this]
theorem w_inIL {p : Addr} {x : Int} {ns : List Int} (h : SqL K H p (ns.map V.int)) (k : Q (.bl (decide (x ∈ ns))) H) : rInA K false (.int x) (.ref p) H Q := w_inL h rfl (flat_ints ns) (by rw [in_ints]; exact k)
theorem w_niIL {p : Addr} {x : Int} {ns : List Int} (h : SqL K H p (ns.map V.int)) (k : Q (.bl (!decide (x ∈ ns))) H) : rInA K true (.int x) (.ref p) H Q := w_niL h rfl (flat_ints ns) (by rw [in_ints]; exact k)
end
/-- methods within comprehensions -/
theorem pe_bmA {X : Cx} {K : PySem.W.Frag} {T id : String} {name : Str} {r : V → List V → Hp → VK → Prop} {o e : Expr} {es : List Expr} {to : TE} {t : TA} {apos cpos : Pos} (hK : X.K = K) (pa : PlainAttrs T) (slot : Slot T name id) (hty : typeOf (.builtin id) = pure (.type "method_descriptor")) (hm : MtR X id r) (ho : PE X o to) (ha : PA X (e :: es) t)
    (hbase : attributeBase o name X.env (eval o X.env) = eval o X.env := by rfl)
    (hfew : ((backTo cpos (starEach (e :: es) X.env)).all (fun x => !x.1) && (backToKw cpos (keywordEach [] X.env)).all (fun x => x.1.isSome)
      && decide ((e :: es).length + ([] : List Keyword).length + (if ([] : List Keyword).isEmpty then 0 else 1) < 30)) = true := by rfl)
    (hline : (apos.endLine == cpos.line) = true := by rfl) (hs : starEach (e :: es) X.env = (false, eval e X.env) :: starEach es X.env := by rfl) (hplain : (backTo cpos (starEach es X.env)).any (·.1) = false := by rfl) :
    PE X (.Call (.Attribute o name apos) (e :: es) [] cpos) (tBM K T r to t) := by
  subst hK
  exact pe_bm pa slot hty hm ho ha hbase hfew hline hs hplain
theorem pe_bm0A {X : Cx} {K : PySem.W.Frag} {T id : String} {name : Str} {r : V → List V → Hp → VK → Prop} {o : Expr} {to : TE} {apos cpos : Pos} (hK : X.K = K) (pa : PlainAttrs T) (slot : Slot T name id) (hty : typeOf (.builtin id) = pure (.type "method_descriptor")) (hm : MtR X id r) (ho : PE X o to)
    (hbase : attributeBase o name X.env (eval o X.env) = eval o X.env := by rfl) (hline : (apos.endLine == cpos.line) = true := by rfl) : PE X (.Call (.Attribute o name apos) [] [] cpos) (tBM0 K T r to) := by
  subst hK
  exact pe_bm0 pa slot hty hm ho hbase hline

end J
namespace J
open PySem PySem.Spec PyProof.Rows L2

local macro_rules | `(tactic| walk_at "ty") => `(tactic| first
  | with_reducible exact ty_int
  | with_reducible exact ty_bl
  | with_reducible exact ty_str
  | with_reducible exact ty_non
  | ((with_reducible refine' ty_lst ?vv); (case vv => walk_at "tr"))
  | ((with_reducible refine' ty_sqT ?vv); (case vv => walk_at "tr"))
  | ((with_reducible refine' ty_dic ?vv); (case vv => walk_at "tr")))
local macro_rules | `(tactic| walk_at "ix") => `(tactic| first | exact at0 | exact at1 | exact at2 | assumption)
local macro_rules | `(tactic| walk_at "size") => `(tactic| first
  | assumption
  | (show _ < sizeLine; rw [sizeLine_eq]; (try simp only [List.length_cons, List.length_nil, List.length_append, List.length_map]); omega)
  | (show _ ≤ sizeLine; rw [sizeLine_eq]; (try simp only [List.length_cons, List.length_nil, List.length_append, List.length_map]); omega))
local macro_rules | `(tactic| walk_at "side") => `(tactic| first
  | assumption
  | ((with_reducible refine cdw ?_ ?_) <;> omega)
  | omega
  | (exact ⟨by omega, by omega⟩)
  | (exact Or.inl ⟨by omega, by omega⟩)
  | (exact Or.inr ⟨by omega, by omega⟩)
  | decide
  | (simp only [List.length_cons, List.length_nil, List.length_append, List.length_map]; omega)
  | (show _ ≤ _; decide))
local macro_rules | `(tactic| walk_at "as") => `(tactic| with_reducible assumption)
local macro_rules | `(tactic| walk_at "tr") => `(tactic| first
  | with_reducible assumption
  | with_reducible exact upd_same
  | ((with_reducible refine' SqL.of ?hh); (case hh => walk_at "as"))
  | ((with_reducible refine' SqT.of ?hh); (case hh => walk_at "as"))
  | ((with_reducible refine' Same.stm ?ee ?gg); (case ee => walk_at "as"); (case gg => walk_at "tr"))
  | ((with_reducible refine' Same.sqT ?ee ?gg); (case ee => walk_at "as"); (case gg => walk_at "tr"))
  | ((with_reducible refine' Same.sqL ?ee ?gg); (case ee => walk_at "as"); (case gg => walk_at "tr"))
  | ((with_reducible refine' Same.at ?ee ?gg); (case ee => walk_at "as"); (case gg => walk_at "tr"))
  | ((with_reducible refine' But.stm ?ee ?ff ?gg); (case ee => walk_at "as"); (case ff => walk_at "ne"); (case gg => walk_at "tr"))
  | ((with_reducible refine' But.tup ?ee ?ff ?gg); (case ee => walk_at "as"); (case ff => walk_at "tr1"); (case gg => walk_at "tr"))
  | ((with_reducible refine' But.sqT ?ee ?ff ?gg); (case ee => walk_at "as"); (case ff => walk_at "tr1"); (case gg => walk_at "tr"))
  | ((with_reducible refine' But.tupL ?ee ?ff ?gg); (case ee => walk_at "as"); (case ff => walk_at "tr1"); (case gg => walk_at "tr"))
  | ((with_reducible refine' But.sqTL ?ee ?ff ?gg); (case ee => walk_at "as"); (case ff => walk_at "tr1"); (case gg => walk_at "tr"))
  | ((with_reducible refine' But.sqL ?ee ?ff ?gg); (case ee => walk_at "as"); (case ff => walk_at "ne"); (case gg => walk_at "tr"))
  | ((with_reducible refine' But.at ?ee ?ff ?gg); (case ee => walk_at "as"); (case ff => walk_at "ne"); (case gg => walk_at "tr")))
local macro_rules | `(tactic| walk_at "ts") => `(tactic| first
  | with_reducible assumption
  | with_reducible exact TS.refl _
  | ((with_reducible refine' TS.trans ?gg (TS.of ?ee)); (case ee => walk_at "as"); (case gg => walk_at "ts"))
  | ((with_reducible refine' TS.trans ?gg (TS.butS ?ee ?ff)); (case ee => walk_at "as"); (case ff => walk_at "tr1"); (case gg => walk_at "ts"))
  | ((with_reducible refine' TS.trans ?gg (TS.butL ?ee ?ff)); (case ee => walk_at "as"); (case ff => walk_at "tr1"); (case gg => walk_at "ts"))
  | ((with_reducible refine' TS.trans ?gg (TS.butI ?ee ?ff)); (case ee => walk_at "as"); (case ff => walk_at "tr1"); (case gg => walk_at "ts")))
local macro_rules | `(tactic| walk_at "sm") => `(tactic| first
  | with_reducible assumption
  | with_reducible exact Same.refl _
  | ((with_reducible refine' Same.trans ?gg ?ee); (case ee => walk_at "as"); (case gg => walk_at "sm"))
  | ((with_reducible refine' But.new ?gg ?nn ?ee); (case ee => walk_at "as"); (case nn => walk_at "fr"); (case gg => walk_at "sm")))
local macro_rules | `(tactic| walk_at "fr") => `(tactic| first
  | with_reducible assumption
  | ((with_reducible refine' Same.back ?ee ?nn); (case nn => walk_at "as"); (case ee => walk_at "sm"))
  | ((with_reducible refine' But.back ?ee ?ff ?nn); (case nn => walk_at "as"); (case ff => walk_at "ne0"); (case ee => walk_at "bu")))
local macro_rules | `(tactic| walk_at "bu") => `(tactic| first
  | with_reducible assumption
  | with_reducible exact But.refl _ _
  | ((with_reducible refine' But.trans ?gg ?ee); (case ee => walk_at "as"); (case gg => walk_at "bu"))
  | ((with_reducible refine' But.trans ?gg (But.of ?ee)); (case ee => walk_at "as"); (case gg => walk_at "bu"))
  | ((with_reducible refine' But.new2 ?gg ?nn ?ee); (case ee => walk_at "as"); (case nn => walk_at "frB"); (case gg => walk_at "bu")))
local macro_rules | `(tactic| walk_at "frB") => `(tactic| first
  | with_reducible assumption
  | ((with_reducible refine' Same.back ?ee ?nn); (case nn => walk_at "as"); (case ee => walk_at "sm"))
  | ((with_reducible refine' But.back' ?ee ?ff ?nn); (case nn => walk_at "as"); (case ee => walk_at "bu"); (case ff => walk_at "tr1")))
local macro_rules | `(tactic| walk_at "tr1") => `(tactic| first
  | with_reducible assumption
  | ((with_reducible refine' Same.stm ?ee ?gg); (case ee => walk_at "as"); (case gg => walk_at "tr1"))
  | ((with_reducible refine' Same.at ?ee ?gg); (case ee => walk_at "as"); (case gg => walk_at "tr1"))
  | ((with_reducible refine' But.at ?ee ?ff ?gg); (case ee => walk_at "as"); (case ff => walk_at "ne0"); (case gg => walk_at "tr1"))
  | ((with_reducible refine' But.stm ?ee ?ff ?gg); (case ee => walk_at "as"); (case ff => walk_at "ne0"); (case gg => walk_at "tr1")))
local macro_rules | `(tactic| walk_at "ne0") => `(tactic| first
  | with_reducible assumption
  | (with_reducible apply Ne.symm; with_reducible assumption))
local macro_rules | `(tactic| walk_at "ne") => `(tactic| first
  | with_reducible assumption
  | (with_reducible apply Ne.symm; with_reducible assumption)
  | ((with_reducible refine' stm_ne ?hh ?nn); (case nn => walk_at "as"); (case hh => walk_at "tr1"))
  | ((with_reducible refine' ne_of_none ?hh ?nn); (case nn => walk_at "as"); (case hh => walk_at "tr1"))
  | ((with_reducible apply Ne.symm); (with_reducible refine' ne_of_none ?hh ?nn); (case nn => walk_at "as"); (case hh => walk_at "tr1")))
local macro_rules | `(tactic| walk_at "v") => `(tactic| first
  | with_reducible refine w_seq ?_
  | ((with_reducible refine' w_var ?vv ?_); (case vv => exact rfl))
  | with_reducible refine w_c ?_
  | with_reducible refine w_op ?_
  | with_reducible refine w_asg ?_
  | with_reducible refine w_gName ?_
  | with_reducible refine w_ret ?_
  | with_reducible refine w_ifS ?_
  | with_reducible refine w_drop ?_
  | with_reducible refine w_next ?_
  | with_reducible refine w_cons ?_
  | with_reducible refine w_nil ?_
  | with_reducible refine w_call ?_
  | with_reducible refine w_cb ?_
  | with_reducible refine w_rI0 ?_
  | with_reducible refine w_addI ?_
  | with_reducible refine w_eqI ?_
  | with_reducible refine w_neI ?_
  | with_reducible refine w_eqS ?_
  | with_reducible refine w_neS ?_
  | with_reducible refine w_eqB ?_
  | with_reducible refine w_neB ?_
  | with_reducible refine w_chain ?_
  | with_reducible refine w_test ?_
  | with_reducible refine w_tB ?_
  | with_reducible refine w_bl ?_
  | ((with_reducible refine' w_mulI ?vv ?_); (case vv => walk_at "side"))
  | ((with_reducible refine' w_rI ?vv ?_); (case vv => walk_at "side"))
  | with_reducible refine w_int1 ?_
  | with_reducible refine w_int1b ?_
  | with_reducible refine w_tup ?_
  | with_reducible refine w_lst ?_
  | with_reducible refine w_un ?_
  | with_reducible refine w_rU ?_
  | with_reducible refine w_not ?_
  | with_reducible refine w_notV ?_
  | with_reducible refine w_ifE ?_
  | with_reducible refine w_nT ?_
  | with_reducible refine w_nF ?_
  | with_reducible refine iteT ?_
  | with_reducible refine iteF ?_
  | ((with_reducible refine' w_ixT ?vv ?ww ?_); (case vv => walk_at "tr"); (case ww => walk_at "ix"))
  | ((with_reducible refine' w_ixL ?vv ?ww ?_); (case vv => walk_at "tr"); (case ww => walk_at "ix"))
  | with_reducible refine w_gSub ?_
  | ((with_reducible refine' w_setL ?vv ?ww ?_); (case vv => walk_at "tr"); (case ww => first | rfl | decide | assumption))
  | ((with_reducible refine' w_lenL ?vv ?_); (case vv => walk_at "tr"))
  | ((with_reducible refine' w_lenT ?vv ?_); (case vv => walk_at "tr"))
  | with_reducible refine w_max2 ?_
  | with_reducible refine w_max3 ?_
  | with_reducible refine w_din ?_
  | with_reducible refine w_dnotin ?_
  | with_reducible refine w_dput ?_
  | with_reducible refine w_min2 ?_
  | with_reducible refine w_bm ?_
  | with_reducible refine w_bm0 ?_
  | ((with_reducible refine' w_tyL ?vv ?_); (case vv => walk_at "tr"))
  | ((with_reducible refine' w_append ?vv ?ww ?_); (case vv => walk_at "tr"); (case ww => walk_at "size"))
  | ((with_reducible refine' w_size ?vv ?_); (case vv => walk_at "size"))
  | with_reducible refine w_forL ?_
  | with_reducible refine w_forT ?_
  | with_reducible refine w_forR1 ?_
  | with_reducible refine w_forR2 ?_
  | with_reducible refine w_lcL ?_
  | with_reducible refine w_lcT ?_
  | with_reducible refine w_lcR1 ?_
  | with_reducible refine w_yes ?_
  | with_reducible refine w_sl ?_
  | with_reducible refine w_noPart ?_
  | with_reducible refine w_part ?_
  | with_reducible refine w_int ?_
  | ((with_reducible refine' w_slL ?vv ?_); (case vv => walk_at "tr"))
  | ((with_reducible refine' w_seqL ?vv ?ww ?_); (case vv => walk_at "tr"); (case ww => rfl))
  | ((with_reducible refine' w_seqT ?vv ?ww ?_); (case vv => walk_at "tr"); (case ww => rfl))
  | with_reducible refine w_gNil ?_
  | with_reducible refine w_gCons ?_
  | with_reducible refine w_forZ ?_
  | with_reducible refine w_forM ?_
  | with_reducible refine w_forE ?_
  | with_reducible refine w_forV ?_
  | with_reducible refine w_lcZ ?_
  | with_reducible refine w_lcE ?_
  | ((with_reducible refine' w_isi (b := true) ?vv ?ww ?_); (case vv => walk_at "ty"); (case ww => decide +kernel))
  | ((with_reducible refine' w_isi (b := false) ?vv ?ww ?_); (case vv => walk_at "ty"); (case ww => decide +kernel))
  | with_reducible refine w_revL ?_
  | with_reducible refine w_pairN ?_
  | with_reducible refine w_pairC ?_
  | with_reducible refine w_dget ?_
  | with_reducible refine w_met ?_
  | ((with_reducible refine' w_metAt ?vv ?ww ?_); (case vv => walk_at "tr"); (case ww => rfl))
  | with_reducible refine w_mkI ?_
  | with_reducible refine w_fld ?_
  | ((with_reducible refine' w_fldAt ?vv ?cc ?nn ?ww ?_); (case vv => walk_at "tr"); (case cc => walk_at "cls"); (case nn => walk_at "na"); (case ww => rfl))
  | with_reducible refine w_sfld ?_
  | ((with_reducible refine' w_sfldAt ?vv ?cc ?nn ?ll ?ee ?_); (case vv => walk_at "tr"); (case cc => walk_at "cls"); (case nn => walk_at "na"); (case ll => simp); (case ee => rfl))
  | ((with_reducible refine' w_tupL ?vv ?_); (case vv => walk_at "tr"))
  | ((with_reducible refine' w_tupT ?vv ?_); (case vv => walk_at "tr"))
  | ((with_reducible refine' w_listL ?vv ?_); (case vv => walk_at "tr"))
  | ((with_reducible refine' w_listT ?vv ?_); (case vv => walk_at "tr"))
  | with_reducible refine w_tyS ?_
  | with_reducible refine w_lcZM ?_
  | with_reducible refine w_js ?_
  | with_reducible refine w_jsN ?_
  | ((with_reducible refine' w_jsP ?vv ?_); (case vv => walk_at "size"))
  | with_reducible refine w_fmt ?_
  | with_reducible refine w_forRR ?_
  | with_reducible refine w_retN ?_
  | with_reducible refine w_break ?_
  | with_reducible refine w_cont ?_)
local macro_rules | `(tactic| walk_at "w") => `(tactic| first
  | walk_at "v"
  | with_reducible refine w_or ?_
  | with_reducible refine w_and ?_
  | with_reducible refine w_andV ?_
  | with_reducible refine w_orV ?_)
local macro_rules | `(tactic| walk_at "wd") => `(tactic| first
  | walk_at "w"
  | ((with_reducible refine' w_decT ?vv ?_); (case vv => decide +kernel))
  | ((with_reducible refine' w_decF ?vv ?_); (case vv => decide +kernel)))
local macro_rules | `(tactic| walk_at "tz") => `(tactic| (intro S z; (repeat walk_at "w"); exact z))
local macro_rules | `(tactic| walk_at "wf") => `(tactic| first
  | walk_at "wd"
  | ((with_reducible refine' w_decF ?vv ?_); (case vv => with_reducible assumption)))
/-! ### small rules of the raising layer -/
section
variable {K : PySem.W.Frag} {σ : L2.St} {H : Hp} {nx : L2.St → Hp → Prop} {rt : VK} {bk ct : L2.St → Hp → Prop} {t u : L2.TS} {ta : TA} {i j : Nat}
/-- behind a branch: what both ways come to -/
theorem w_seqN (Φ : L2.St → Hp → Prop) (h1 : ∀ K : L2.St → Hp → Prop, (∀ σ' H', Φ σ' H' → K σ' H') → t ⟨K, rt, bk, ct⟩ σ H) (h2 : ∀ σ' H', Φ σ' H' → u ⟨nx, rt, bk, ct⟩ σ' H') : tSeq t u ⟨nx, rt, bk, ct⟩ σ H := h1 _ h2
theorem w_reprD {v : V} {d : PyData} {Q : VK} (h : Dp K H v d) (hs : d.showable = true) (hd : d.depth ≤ 60) (hz : d.shown.length ≤ sizeLine) (k : Q (.str d.shown) H) : XL.rReprA K [v] H Q := .inl ⟨v, d, rfl, h, hs, hd, hz, k⟩
theorem w_par (k : ta σ H fun vs H1 => ∃ v w, vs = [v, w] ∧ nx ((σ.set i (some v)).set j (some w)) H1) : tPar i j ta ⟨nx, rt, bk, ct⟩ σ H := k
theorem w_parE {v w : V} {R : V → V → Prop} (k : R v w) : ∃ v' w', [v, w] = [v', w'] ∧ R v' w' := ⟨v, w, rfl, k⟩
end

end J
namespace J
open PySem PySem.Spec PyProof.Rows L2

local macro_rules | `(tactic| walk_at "ty") => `(tactic| first
  | with_reducible exact ty_int
  | with_reducible exact ty_bl
  | with_reducible exact ty_str
  | with_reducible exact ty_non
  | ((with_reducible refine' ty_lst ?vv); (case vv => walk_at "tr"))
  | ((with_reducible refine' ty_sqT ?vv); (case vv => walk_at "tr"))
  | ((with_reducible refine' ty_dic ?vv); (case vv => walk_at "tr")))
local macro_rules | `(tactic| walk_at "ix") => `(tactic| first | exact at0 | exact at1 | exact at2 | assumption)
local macro_rules | `(tactic| walk_at "size") => `(tactic| first
  | assumption
  | (show _ < sizeLine; rw [sizeLine_eq]; (try simp only [List.length_cons, List.length_nil, List.length_append, List.length_map]); omega)
  | (show _ ≤ sizeLine; rw [sizeLine_eq]; (try simp only [List.length_cons, List.length_nil, List.length_append, List.length_map]); omega))
local macro_rules | `(tactic| walk_at "side") => `(tactic| first
  | assumption
  | ((with_reducible refine cdw ?_ ?_) <;> omega)
  | omega
  | (exact ⟨by omega, by omega⟩)
  | (exact Or.inl ⟨by omega, by omega⟩)
  | (exact Or.inr ⟨by omega, by omega⟩)
  | decide
  | (simp only [List.length_cons, List.length_nil, List.length_append, List.length_map]; omega)
  | (show _ ≤ _; decide))
local macro_rules | `(tactic| walk_at "as") => `(tactic| with_reducible assumption)
local macro_rules | `(tactic| walk_at "tr") => `(tactic| first
  | with_reducible assumption
  | with_reducible exact upd_same
  | ((with_reducible refine' SqL.of ?hh); (case hh => walk_at "as"))
  | ((with_reducible refine' SqT.of ?hh); (case hh => walk_at "as"))
  | ((with_reducible refine' Same.stm ?ee ?gg); (case ee => walk_at "as"); (case gg => walk_at "tr"))
  | ((with_reducible refine' Same.sqT ?ee ?gg); (case ee => walk_at "as"); (case gg => walk_at "tr"))
  | ((with_reducible refine' Same.sqL ?ee ?gg); (case ee => walk_at "as"); (case gg => walk_at "tr"))
  | ((with_reducible refine' Same.at ?ee ?gg); (case ee => walk_at "as"); (case gg => walk_at "tr"))
  | ((with_reducible refine' But.stm ?ee ?ff ?gg); (case ee => walk_at "as"); (case ff => walk_at "ne"); (case gg => walk_at "tr"))
  | ((with_reducible refine' But.tup ?ee ?ff ?gg); (case ee => walk_at "as"); (case ff => walk_at "tr1"); (case gg => walk_at "tr"))
  | ((with_reducible refine' But.sqT ?ee ?ff ?gg); (case ee => walk_at "as"); (case ff => walk_at "tr1"); (case gg => walk_at "tr"))
  | ((with_reducible refine' But.tupL ?ee ?ff ?gg); (case ee => walk_at "as"); (case ff => walk_at "tr1"); (case gg => walk_at "tr"))
  | ((with_reducible refine' But.sqTL ?ee ?ff ?gg); (case ee => walk_at "as"); (case ff => walk_at "tr1"); (case gg => walk_at "tr"))
  | ((with_reducible refine' But.sqL ?ee ?ff ?gg); (case ee => walk_at "as"); (case ff => walk_at "ne"); (case gg => walk_at "tr"))
  | ((with_reducible refine' But.at ?ee ?ff ?gg); (case ee => walk_at "as"); (case ff => walk_at "ne"); (case gg => walk_at "tr")))
local macro_rules | `(tactic| walk_at "ts") => `(tactic| first
  | with_reducible assumption
  | with_reducible exact TS.refl _
  | ((with_reducible refine' TS.trans ?gg (TS.of ?ee)); (case ee => walk_at "as"); (case gg => walk_at "ts"))
  | ((with_reducible refine' TS.trans ?gg (TS.butS ?ee ?ff)); (case ee => walk_at "as"); (case ff => walk_at "tr1"); (case gg => walk_at "ts"))
  | ((with_reducible refine' TS.trans ?gg (TS.butL ?ee ?ff)); (case ee => walk_at "as"); (case ff => walk_at "tr1"); (case gg => walk_at "ts"))
  | ((with_reducible refine' TS.trans ?gg (TS.butI ?ee ?ff)); (case ee => walk_at "as"); (case ff => walk_at "tr1"); (case gg => walk_at "ts")))
local macro_rules | `(tactic| walk_at "sm") => `(tactic| first
  | with_reducible assumption
  | with_reducible exact Same.refl _
  | ((with_reducible refine' Same.trans ?gg ?ee); (case ee => walk_at "as"); (case gg => walk_at "sm"))
  | ((with_reducible refine' But.new ?gg ?nn ?ee); (case ee => walk_at "as"); (case nn => walk_at "fr"); (case gg => walk_at "sm")))
local macro_rules | `(tactic| walk_at "fr") => `(tactic| first
  | with_reducible assumption
  | ((with_reducible refine' Same.back ?ee ?nn); (case nn => walk_at "as"); (case ee => walk_at "sm"))
  | ((with_reducible refine' But.back ?ee ?ff ?nn); (case nn => walk_at "as"); (case ff => walk_at "ne0"); (case ee => walk_at "bu")))
local macro_rules | `(tactic| walk_at "bu") => `(tactic| first
  | with_reducible assumption
  | with_reducible exact But.refl _ _
  | ((with_reducible refine' But.trans ?gg ?ee); (case ee => walk_at "as"); (case gg => walk_at "bu"))
  | ((with_reducible refine' But.trans ?gg (But.of ?ee)); (case ee => walk_at "as"); (case gg => walk_at "bu"))
  | ((with_reducible refine' But.new2 ?gg ?nn ?ee); (case ee => walk_at "as"); (case nn => walk_at "frB"); (case gg => walk_at "bu")))
local macro_rules | `(tactic| walk_at "frB") => `(tactic| first
  | with_reducible assumption
  | ((with_reducible refine' Same.back ?ee ?nn); (case nn => walk_at "as"); (case ee => walk_at "sm"))
  | ((with_reducible refine' But.back' ?ee ?ff ?nn); (case nn => walk_at "as"); (case ee => walk_at "bu"); (case ff => walk_at "tr1")))
local macro_rules | `(tactic| walk_at "tr1") => `(tactic| first
  | with_reducible assumption
  | ((with_reducible refine' Same.stm ?ee ?gg); (case ee => walk_at "as"); (case gg => walk_at "tr1"))
  | ((with_reducible refine' Same.at ?ee ?gg); (case ee => walk_at "as"); (case gg => walk_at "tr1"))
  | ((with_reducible refine' But.at ?ee ?ff ?gg); (case ee => walk_at "as"); (case ff => walk_at "ne0"); (case gg => walk_at "tr1"))
  | ((with_reducible refine' But.stm ?ee ?ff ?gg); (case ee => walk_at "as"); (case ff => walk_at "ne0"); (case gg => walk_at "tr1")))
local macro_rules | `(tactic| walk_at "ne0") => `(tactic| first
  | with_reducible assumption
  | (with_reducible apply Ne.symm; with_reducible assumption))
local macro_rules | `(tactic| walk_at "ne") => `(tactic| first
  | with_reducible assumption
  | (with_reducible apply Ne.symm; with_reducible assumption)
  | ((with_reducible refine' stm_ne ?hh ?nn); (case nn => walk_at "as"); (case hh => walk_at "tr1"))
  | ((with_reducible refine' ne_of_none ?hh ?nn); (case nn => walk_at "as"); (case hh => walk_at "tr1"))
  | ((with_reducible apply Ne.symm); (with_reducible refine' ne_of_none ?hh ?nn); (case nn => walk_at "as"); (case hh => walk_at "tr1")))
local macro_rules | `(tactic| walk_at "v") => `(tactic| first
  | with_reducible refine w_seq ?_
  | ((with_reducible refine' w_var ?vv ?_); (case vv => exact rfl))
  | with_reducible refine w_c ?_
  | with_reducible refine w_op ?_
  | with_reducible refine w_asg ?_
  | with_reducible refine w_gName ?_
  | with_reducible refine w_ret ?_
  | with_reducible refine w_ifS ?_
  | with_reducible refine w_drop ?_
  | with_reducible refine w_next ?_
  | with_reducible refine w_cons ?_
  | with_reducible refine w_nil ?_
  | with_reducible refine w_call ?_
  | with_reducible refine w_cb ?_
  | with_reducible refine w_rI0 ?_
  | with_reducible refine w_addI ?_
  | with_reducible refine w_eqI ?_
  | with_reducible refine w_neI ?_
  | with_reducible refine w_eqS ?_
  | with_reducible refine w_neS ?_
  | with_reducible refine w_eqB ?_
  | with_reducible refine w_neB ?_
  | with_reducible refine w_chain ?_
  | with_reducible refine w_test ?_
  | with_reducible refine w_tB ?_
  | with_reducible refine w_bl ?_
  | ((with_reducible refine' w_mulI ?vv ?_); (case vv => walk_at "side"))
  | ((with_reducible refine' w_rI ?vv ?_); (case vv => walk_at "side"))
  | with_reducible refine w_int1 ?_
  | with_reducible refine w_int1b ?_
  | with_reducible refine w_tup ?_
  | with_reducible refine w_lst ?_
  | with_reducible refine w_un ?_
  | with_reducible refine w_rU ?_
  | with_reducible refine w_not ?_
  | with_reducible refine w_notV ?_
  | with_reducible refine w_ifE ?_
  | with_reducible refine w_nT ?_
  | with_reducible refine w_nF ?_
  | with_reducible refine iteT ?_
  | with_reducible refine iteF ?_
  | ((with_reducible refine' w_ixT ?vv ?ww ?_); (case vv => walk_at "tr"); (case ww => walk_at "ix"))
  | ((with_reducible refine' w_ixL ?vv ?ww ?_); (case vv => walk_at "tr"); (case ww => walk_at "ix"))
  | with_reducible refine w_gSub ?_
  | ((with_reducible refine' w_setL ?vv ?ww ?_); (case vv => walk_at "tr"); (case ww => first | rfl | decide | assumption))
  | ((with_reducible refine' w_lenL ?vv ?_); (case vv => walk_at "tr"))
  | ((with_reducible refine' w_lenT ?vv ?_); (case vv => walk_at "tr"))
  | with_reducible refine w_max2 ?_
  | with_reducible refine w_max3 ?_
  | with_reducible refine w_din ?_
  | with_reducible refine w_dnotin ?_
  | with_reducible refine w_dput ?_
  | with_reducible refine w_min2 ?_
  | with_reducible refine w_bm ?_
  | with_reducible refine w_bm0 ?_
  | ((with_reducible refine' w_tyL ?vv ?_); (case vv => walk_at "tr"))
  | ((with_reducible refine' w_append ?vv ?ww ?_); (case vv => walk_at "tr"); (case ww => walk_at "size"))
  | ((with_reducible refine' w_size ?vv ?_); (case vv => walk_at "size"))
  | with_reducible refine w_forL ?_
  | with_reducible refine w_forT ?_
  | with_reducible refine w_forR1 ?_
  | with_reducible refine w_forR2 ?_
  | with_reducible refine w_lcL ?_
  | with_reducible refine w_lcT ?_
  | with_reducible refine w_lcR1 ?_
  | with_reducible refine w_yes ?_
  | with_reducible refine w_sl ?_
  | with_reducible refine w_noPart ?_
  | with_reducible refine w_part ?_
  | with_reducible refine w_int ?_
  | ((with_reducible refine' w_slL ?vv ?_); (case vv => walk_at "tr"))
  | ((with_reducible refine' w_seqL ?vv ?ww ?_); (case vv => walk_at "tr"); (case ww => rfl))
  | ((with_reducible refine' w_seqT ?vv ?ww ?_); (case vv => walk_at "tr"); (case ww => rfl))
  | with_reducible refine w_gNil ?_
  | with_reducible refine w_gCons ?_
  | with_reducible refine w_forZ ?_
  | with_reducible refine w_forM ?_
  | with_reducible refine w_forE ?_
  | with_reducible refine w_forV ?_
  | with_reducible refine w_lcZ ?_
  | with_reducible refine w_lcE ?_
  | ((with_reducible refine' w_isi (b := true) ?vv ?ww ?_); (case vv => walk_at "ty"); (case ww => decide +kernel))
  | ((with_reducible refine' w_isi (b := false) ?vv ?ww ?_); (case vv => walk_at "ty"); (case ww => decide +kernel))
  | with_reducible refine w_revL ?_
  | with_reducible refine w_pairN ?_
  | with_reducible refine w_pairC ?_
  | with_reducible refine w_dget ?_
  | with_reducible refine w_met ?_
  | ((with_reducible refine' w_metAt ?vv ?ww ?_); (case vv => walk_at "tr"); (case ww => rfl))
  | with_reducible refine w_mkI ?_
  | with_reducible refine w_fld ?_
  | ((with_reducible refine' w_fldAt ?vv ?cc ?nn ?ww ?_); (case vv => walk_at "tr"); (case cc => walk_at "cls"); (case nn => walk_at "na"); (case ww => rfl))
  | with_reducible refine w_sfld ?_
  | ((with_reducible refine' w_sfldAt ?vv ?cc ?nn ?ll ?ee ?_); (case vv => walk_at "tr"); (case cc => walk_at "cls"); (case nn => walk_at "na"); (case ll => simp); (case ee => rfl))
  | ((with_reducible refine' w_tupL ?vv ?_); (case vv => walk_at "tr"))
  | ((with_reducible refine' w_tupT ?vv ?_); (case vv => walk_at "tr"))
  | ((with_reducible refine' w_listL ?vv ?_); (case vv => walk_at "tr"))
  | ((with_reducible refine' w_listT ?vv ?_); (case vv => walk_at "tr"))
  | with_reducible refine w_tyS ?_
  | with_reducible refine w_lcZM ?_
  | with_reducible refine w_js ?_
  | with_reducible refine w_jsN ?_
  | ((with_reducible refine' w_jsP ?vv ?_); (case vv => walk_at "size"))
  | with_reducible refine w_fmt ?_
  | with_reducible refine w_forRR ?_
  | with_reducible refine w_retN ?_
  | with_reducible refine w_break ?_
  | with_reducible refine w_cont ?_)
local macro_rules | `(tactic| walk_at "w") => `(tactic| first
  | walk_at "v"
  | with_reducible refine w_or ?_
  | with_reducible refine w_and ?_
  | with_reducible refine w_andV ?_
  | with_reducible refine w_orV ?_)
local macro_rules | `(tactic| walk_at "wd") => `(tactic| first
  | walk_at "w"
  | ((with_reducible refine' w_decT ?vv ?_); (case vv => decide +kernel))
  | ((with_reducible refine' w_decF ?vv ?_); (case vv => decide +kernel)))
local macro_rules | `(tactic| walk_at "tz") => `(tactic| (intro S z; (repeat walk_at "w"); exact z))
local macro_rules | `(tactic| walk_at "wf") => `(tactic| first
  | walk_at "wd"
  | ((with_reducible refine' w_decF ?vv ?_); (case vv => with_reducible assumption)))
/-! ### errors of one field: made, raised -/
def spX1 (C : Addr) (f : Str) : Sp := fun vs H Q _ => ∃ a x, vs = [.ref a, x] ∧ H a = some (exo a C none) ∧ ∀ dx H', H dx = none → dx ≠ a → H' a = some (exo a C (some dx)) → H' dx = some (exd dx [(f, x)]) → But a H H' → Q .non H'
section
variable {K : PySem.W.Frag} {σ : L2.St} {H : Hp} {Q : VK}
theorem w_vei {ta : TA} (k : ta σ H fun vs H1 => ∃ (a C : Addr) (ws : List V), vs = .ref a :: ws ∧ ws.length ≤ 1000 ∧ OexC K C ∧ H1 a = some (exo a C none) ∧ Q .non H1) : tVeI K ta σ H Q := k
theorem w_ost {f : Str} {to te : TE} {D : L2.Ends} (k : te σ H fun y H1 => to σ H1 fun x H2 => ∃ a C : Addr, x = .ref a ∧ OexC K C ∧ PySem.W.findIn K (.ref C) f = some none ∧
  ((H2 a = some (exo a C none) ∧ ∀ dx, H2 dx = none → dx ≠ a → D.nx σ (upd (upd H2 dx (exd dx [(f, y)])) a (exo a C (some dx)))) ∨
    ∃ (dx : Addr) (fs : List (Str × V)), H2 a = some (exo a C (some dx)) ∧ H2 dx = some (exd dx fs) ∧ fs.length ≤ 900 ∧ D.nx σ (upd H2 dx (exd dx ((f, y) :: fs))))) : tOst K f to te D σ H := k
/-- raise C(e): the error's dict stands, all else as it was -/
theorem w_rai1 {C : Addr} {f : Str} {ta : TA} {W : XK} (k : ta σ H fun vs H1 => ∃ x, vs = [x] ∧ ∀ d H', Same H1 H' → H1 d = none → H' d = some (.xd [(f, x)]) → W (.ref C) (some d) H') (mono : ∀ {R R' : List V → Hp → Prop}, (∀ a b, R a b → R' a b) → ta σ H R → ta σ H R') : XL.tRai C (spX1 C f) ta σ H W := by
  refine mono (fun vs H1 h => ?_) k
  obtain ⟨x, rfl, k⟩ := h
  refine ⟨by simp, fun a ha => ⟨a, x, rfl, upd_same, fun dx H' hd ne h1 h2 b => ⟨rfl, dx, _, h1, h2, ?_, ?_⟩⟩⟩
  · rwa [upd_ne ne] at hd
  · have hd' : H1 dx = none := by rwa [upd_ne ne] at hd
    refine k dx _ (fun c o hc => ?_) hd' upd_same
    have c1 : c ≠ a := ne_of_none hc ha
    have c2 : c ≠ dx := ne_of_none hc hd'
    rw [upd_ne c2, del_ne c1]
    exact b c o c1 (by rw [upd_ne c1]; exact hc)
end
theorem len_NoCodeu_initu {K : PySem.W.Frag} {vs H Q E} (h : spX1 (He.ga K "NoCode") "given" vs H Q E) : vs.length = 2 := by obtain ⟨_, _, rfl, _⟩ := h; rfl
theorem len_NoBitsu_initu {K : PySem.W.Frag} {vs H Q E} (h : spX1 (He.ga K "NoBits") "given" vs H Q E) : vs.length = 2 := by obtain ⟨_, _, rfl, _⟩ := h; rfl
section
variable {P : Program} {w : World} {K : PySem.W.Frag} {mg : Str → Option Value}
theorem ok_NoCodeu_initu [c : Facts K mg] {f : Addr} {fd : FuncData} (F : FunD K "__init__" "NoCode.__init__" (defArgs s_NoCodeu_initu) (defBody s_NoCodeu_initu) (defScope s_NoCodeu_initu) [] [] f fd) : XL.FnA P w K mg f 1 ["self", "given"] ((spX1 (He.ga K "NoCode") "given")) := by
  refine XL.FnA.mk' F sc_NoCodeu_initu (k := 0) (fun vs H Q E h => ?_) (fun _ _ _ _ _ _ us hl => match us, hl with | [_, _], _ => rfl) (fun base cdv A outer s H vs Q E hr h => ?_)
  · exact len_NoCodeu_initu h
  · have nd := sc_NoCodeu_initu.nd
    have hu := hu_of hr.r
    refine ⟨_, (PSs.nox (pss_cons (ps_expr (EXV.pe_roinit (by rfl) c.gc_RowsError c.xr_RowsError.r c.xr_RowsError.v (pa_cons (pv 0) (pa_cons pe_str pa_nil))))
      (pss_one (ps_ost (pv 0) (pv 1))))), ?_⟩
    try dsimp only [cxOf, Cx.nox, Cx.wish]
    obtain ⟨a, x0, rfl, ha, q⟩ := h
    repeat walk_at "w"
    refine w_vei ?_
    repeat walk_at "w"
    refine ⟨a, _, _, rfl, by simp, Facts.x_NoCode.o, ha, ?_⟩
    repeat walk_at "w"
    refine w_ost ?_
    repeat walk_at "w"
    refine ⟨a, _, rfl, Facts.x_NoCode.o, Facts.xn_NoCode_given, .inl ⟨ha, fun dx hd ne => ?_⟩⟩
    exact q dx _ hd ne upd_same (by rw [upd_ne ne]; exact upd_same) (fun b o hb h => by rw [upd_ne hb, upd_ne (ne_of_none h hd)]; exact h)
theorem ok_NoBitsu_initu [c : Facts K mg] {f : Addr} {fd : FuncData} (F : FunD K "__init__" "NoBits.__init__" (defArgs s_NoBitsu_initu) (defBody s_NoBitsu_initu) (defScope s_NoBitsu_initu) [] [] f fd) : XL.FnA P w K mg f 1 ["self", "given"] ((spX1 (He.ga K "NoBits") "given")) := by
  refine XL.FnA.mk' F sc_NoBitsu_initu (k := 0) (fun vs H Q E h => ?_) (fun _ _ _ _ _ _ us hl => match us, hl with | [_, _], _ => rfl) (fun base cdv A outer s H vs Q E hr h => ?_)
  · exact len_NoBitsu_initu h
  · have nd := sc_NoBitsu_initu.nd
    have hu := hu_of hr.r
    refine ⟨_, (PSs.nox (pss_cons (ps_expr (EXV.pe_roinit (by rfl) c.gc_RowsError c.xr_RowsError.r c.xr_RowsError.v (pa_cons (pv 0) (pa_cons pe_str pa_nil))))
      (pss_one (ps_ost (pv 0) (pv 1))))), ?_⟩
    try dsimp only [cxOf, Cx.nox, Cx.wish]
    obtain ⟨a, x0, rfl, ha, q⟩ := h
    repeat walk_at "w"
    refine w_vei ?_
    repeat walk_at "w"
    refine ⟨a, _, _, rfl, by simp, Facts.x_NoBits.o, ha, ?_⟩
    repeat walk_at "w"
    refine w_ost ?_
    repeat walk_at "w"
    refine ⟨a, _, rfl, Facts.x_NoBits.o, Facts.xn_NoBits_given, .inl ⟨ha, fun dx hd ne => ?_⟩⟩
    exact q dx _ hd ne upd_same (by rw [upd_ne ne]; exact upd_same) (fun b o hb h => by rw [upd_ne hb, upd_ne (ne_of_none h hd)]; exact h)
end

end J
namespace J
open PySem PySem.Spec PyProof.Rows L2
--plain
/-! ### codes of bits, plainly -/
def bitC (c : Nat) : Bool := decide (c = 48 ∨ c = 49)
def bitsL (l : List Nat) : Bool := l.all bitC
def preL (a b : List Nat) : Bool := decide (b.take a.length = a)
theorem preL_iff {a b : List Nat} : preL a b = true ↔ a <+: b := by
  unfold preL
  rw [decide_eq_true_eq, List.prefix_iff_eq_take]
  exact eq_comm
abbrev Its := List (Option (List Nat))
def okW : Option (List Nat) → Bool
  | none => false
  | some w => bitsL w && decide (w.length ≤ 60)
def wOf (o : Option (List Nat)) : List Nat := o.getD []
/-- no word stands ahead in another one -/
def NoPre (ws : List (List Nat)) : Prop := ∀ i j, i < ws.length → j < ws.length → i ≠ j → ¬ (ws.getD i [] <+: ws.getD j [])
def IsCode (its : Its) : Prop := (1 ≤ its.length ∧ its.length ≤ 40) ∧ (∀ o ∈ its, okW o = true) ∧ NoPre (its.map wOf)
open Classical in
noncomputable def isCodeO : Option Its → Bool
  | none => false
  | some its => decide (IsCode its)
open Classical in
theorem code_true {its : Its} (h : IsCode its) : isCodeO (some its) = true := by unfold isCodeO; exact decide_eq_true h
open Classical in
theorem code_false {its : Its} (h : ¬ IsCode its) : isCodeO (some its) = false := by unfold isCodeO; exact decide_eq_false h
open Classical in
theorem code_iff {its : Its} : isCodeO (some its) = true ↔ IsCode its := by unfold isCodeO; exact decide_eq_true_iff
theorem erase_perm {α : Type} {l : List α} {j : Nat} {x : α} (h : l[j]? = some x) : l.Perm (x :: l.eraseIdx j) := by
  obtain ⟨hl, rfl⟩ := List.getElem?_eq_some_iff.mp h
  rw [List.eraseIdx_eq_take_drop_succ]
  conv => lhs; rw [← List.take_append_drop j l, List.drop_eq_getElem_cons hl]
  exact List.perm_middle
/-- a drawn code -/
def PF (ws : List (List Nat)) : Prop := ws.Pairwise fun a b => ¬ a <+: b ∧ ¬ b <+: a
structure GC (n : Nat) (ws : List (List Nat)) : Prop where
  pf : PF ws
  ne : ws ≠ []
  len : ws.length ≤ n + 1
  bits : ∀ w ∈ ws, bitsL w = true ∧ w.length ≤ n
theorem pf_sym {a b : List Nat} (h : ¬ a <+: b ∧ ¬ b <+: a) : ¬ b <+: a ∧ ¬ a <+: b := ⟨h.2, h.1⟩
theorem pf_perm {ws us : List (List Nat)} (p : ws.Perm us) (h : PF ws) : PF us := (p.pairwise_iff fun {a b} => pf_sym).mp h
theorem pf_nopre {ws : List (List Nat)} (h : PF ws) : NoPre ws := fun i j hi hj hij => by
  have e1 : ws.getD i [] = ws[i] := by rw [List.getD_eq_getElem?_getD, List.getElem?_eq_getElem hi]; rfl
  have e2 : ws.getD j [] = ws[j] := by rw [List.getD_eq_getElem?_getD, List.getElem?_eq_getElem hj]; rfl
  rw [e1, e2]
  rcases Nat.lt_or_gt_of_ne hij with c | c
  · exact (List.pairwise_iff_getElem.mp h i j hi hj c).1
  · exact (List.pairwise_iff_getElem.mp h j i hj hi c).2
theorem gc_code {n : Nat} (hn : n ≤ 39) {ws : List (List Nat)} (g : GC n ws) : isCodeO (some (ws.map some)) = true := by
  have hl : 1 ≤ ws.length := by
    cases h : ws with
    | nil => exact (g.ne h).elim
    | cons a b => simp
  have := g.len
  refine code_true ⟨⟨by rw [List.length_map]; exact hl, by rw [List.length_map]; omega⟩, fun o ho => ?_, ?_⟩
  · obtain ⟨w, hw, rfl⟩ := List.mem_map.mp ho
    obtain ⟨h1, h2⟩ := g.bits w hw
    show (bitsL w && decide (w.length ≤ 60)) = true
    rw [h1, decide_eq_true (by omega)]; rfl
  · rw [List.map_map, show wOf ∘ some = id from rfl, List.map_id]
    exact pf_nopre g.pf
theorem gc_start : GC 0 [[]] := ⟨List.pairwise_singleton _ _, by simp, by simp, fun w hw => by rw [List.mem_singleton.mp hw]; exact ⟨rfl, by simp⟩⟩
theorem snoc_pre {u w : List Nat} {c : Nat} (h : u <+: w ++ [c]) : u <+: w ∨ u = w ++ [c] := by
  rw [List.prefix_concat_iff] at h
  exact h.symm
/-- a word pops, its two longer ones come -/
theorem gc_grow {n : Nat} {ws : List (List Nat)} (g : GC n ws) {j : Nat} {w : List Nat} (hj : ws[j]? = some w) : GC (n + 1) (ws.eraseIdx j ++ [w ++ [48], w ++ [49]]) := by
  have hw := List.mem_of_getElem? hj
  obtain ⟨hjl, hje⟩ := List.getElem?_eq_some_iff.mp hj
  have hperm : ws.Perm (w :: ws.eraseIdx j) := erase_perm hj
  have g2 := pf_perm hperm g.pf
  obtain ⟨p1, p2⟩ := List.pairwise_cons.mp g2
  have le : (ws.eraseIdx j).length + 1 = ws.length := by rw [List.length_eraseIdx, if_pos hjl]; omega
  refine ⟨List.pairwise_append.mpr ⟨p2, ?_, fun a ha b hb => ?_⟩, by simp, by simp only [List.length_append, List.length_cons, List.length_nil]; have := g.len; omega, fun v hv => ?_⟩
  · refine List.pairwise_cons.mpr ⟨fun b hb => ?_, List.pairwise_singleton _ _⟩
    rw [List.mem_singleton.mp hb]
    constructor
    · intro h
      rcases snoc_pre h with h | h
      · have := h.length_le
        rw [List.length_append, List.length_singleton] at this
        omega
      · have := List.append_cancel_left h
        exact absurd this (by decide)
    · intro h
      rcases snoc_pre h with h | h
      · have := h.length_le
        rw [List.length_append, List.length_singleton] at this
        omega
      · have := List.append_cancel_left h
        exact absurd this (by decide)
  · obtain ⟨q1, q2⟩ := p1 a ha
    have hb : b = w ++ [48] ∨ b = w ++ [49] := by simpa using hb
    have key : ∀ c, ¬ a <+: w ++ [c] ∧ ¬ w ++ [c] <+: a := fun c => by
      constructor
      · intro h
        rcases snoc_pre h with h | h
        · exact q2 h
        · exact q1 (by rw [h]; exact List.prefix_append _ _)
      · intro h
        exact q1 ((List.prefix_append _ _).trans h)
    rcases hb with rfl | rfl
    · exact key 48
    · exact key 49
  · rcases List.mem_append.mp hv with h | h
    · obtain ⟨h1, h2⟩ := g.bits v (List.mem_of_mem_eraseIdx h)
      exact ⟨h1, by omega⟩
    · obtain ⟨h1, h2⟩ := g.bits w hw
      have hb : v = w ++ [48] ∨ v = w ++ [49] := by simpa using h
      rcases hb with rfl | rfl
      · exact ⟨by unfold bitsL at h1 ⊢; rw [List.all_append, h1]; rfl, by simp; exact h2⟩
      · exact ⟨by unfold bitsL at h1 ⊢; rw [List.all_append, h1]; rfl, by simp; exact h2⟩
theorem gc_drop {n : Nat} {ws : List (List Nat)} (g : GC n ws) {j : Nat} (hj : j < ws.length) (hl : 1 < ws.length) : GC n (ws.eraseIdx j) := by
  have le : (ws.eraseIdx j).length + 1 = ws.length := by rw [List.length_eraseIdx, if_pos hj]; omega
  refine ⟨g.pf.sublist (List.eraseIdx_sublist _ _), fun h => by rw [h] at le; simp at le; omega, by have := g.len; omega, fun v hv => g.bits v (List.mem_of_mem_eraseIdx hv)⟩
theorem gc_perm {n : Nat} {ws us : List (List Nat)} (g : GC n ws) (p : ws.Perm us) : GC n us :=
  ⟨pf_perm p g.pf, fun h => g.ne (by rw [h] at p; exact p.eq_nil), by rw [← p.length_eq]; exact g.len, fun v hv => g.bits v (p.mem_iff.mpr hv)⟩
theorem gc_empty {n : Nat} {ws : List (List Nat)} (g : GC n ws) (h : [] ∈ ws) : ws = [[]] := by
  cases hw : ws with
  | nil => rw [hw] at h; cases h
  | cons a r =>
    obtain ⟨p1, p2⟩ := List.pairwise_cons.mp (show PF (a :: r) from hw ▸ g.pf)
    cases r with
    | nil => rw [hw] at h; rw [← List.mem_singleton.mp h]
    | cons b t =>
      exfalso
      rw [hw] at h
      rcases List.mem_cons.mp h with z | z
      · exact (p1 b List.mem_cons_self).1 (by rw [← z]; exact List.nil_prefix)
      · exact (p1 [] z).2 List.nil_prefix
/-- the first word that stands ahead in l -/
def firstW (ws : List (List Nat)) (l : List Nat) : Option Nat := (List.range ws.length).find? fun i => preL (ws.getD i []) l
/-- the items of l, greedily; no word is empty -/
def decF (ws : List (List Nat)) : Nat → List Nat → Option (List Nat)
  | 0, _ => none
  | _ + 1, [] => some []
  | n + 1, l => match firstW ws l with
    | none => none
    | some i => (decF ws n (l.drop (ws.getD i []).length)).map (i :: ·)
theorem firstW_some {ws : List (List Nat)} {l : List Nat} {i : Nat} (h : firstW ws l = some i) : i < ws.length ∧ ws.getD i [] <+: l := by
  unfold firstW at h
  exact ⟨List.mem_range.mp (List.mem_of_find?_eq_some h), preL_iff.mp (List.find?_some (p := fun i => preL (ws.getD i []) l) h)⟩
theorem firstW_at {n : Nat} {ws : List (List Nat)} (g : GC n ws) {i : Nat} (hi : i < ws.length) (r : List Nat) : firstW ws (ws.getD i [] ++ r) = some i := by
  have hp := pf_nopre g.pf
  unfold firstW
  rw [List.find?_eq_some_iff_getElem]
  refine ⟨preL_iff.mpr (List.prefix_append _ _), i, by rw [List.length_range]; exact hi, by rw [List.getElem_range], fun j hj => ?_⟩
  rw [List.getElem_range]
  cases h : preL (ws.getD j []) (ws.getD i [] ++ r) with
  | false => rfl
  | true =>
    exfalso
    have hji : j < ws.length := by omega
    rcases List.prefix_or_prefix_of_prefix (preL_iff.mp h) (List.prefix_append (ws.getD i []) r) with q | q
    · exact hp j i hji hi (by omega) q
    · exact hp i j hi hji (by omega) q
def textOf (ws : List (List Nat)) (its : List Nat) : List Nat := (its.map fun i => ws.getD i []).flatten
theorem dec_text {n : Nat} {ws : List (List Nat)} (g : GC n ws) (hne : [] ∉ ws) : ∀ (its : List Nat) (m : Nat), (∀ i ∈ its, i < ws.length) → (textOf ws its).length < m → decF ws m (textOf ws its) = some its
  | _, 0, _, h => by omega
  | [], m + 1, _, _ => rfl
  | i :: its, m + 1, hi, hm => by
    have hil := hi i List.mem_cons_self
    have e : textOf ws (i :: its) = ws.getD i [] ++ textOf ws its := rfl
    have hw : ws.getD i [] ∈ ws := by
      rw [List.getD_eq_getElem?_getD, List.getElem?_eq_getElem hil]
      exact List.getElem_mem hil
    have hpos : ws.getD i [] ≠ [] := fun z => hne (z ▸ hw)
    have hl : 0 < (ws.getD i []).length := List.length_pos_iff.mpr hpos
    have ih := dec_text g hne its m (fun k hk => hi k (List.mem_cons_of_mem _ hk)) (by rw [e, List.length_append] at hm; omega)
    rw [e]
    have hc : ∃ c r, ws.getD i [] ++ textOf ws its = c :: r := by
      cases h : ws.getD i [] with
      | nil => exact (hpos h).elim
      | cons c r => exact ⟨c, _, rfl⟩
    obtain ⟨c, r, hcr⟩ := hc
    have step : decF ws (m + 1) (c :: r) = match firstW ws (c :: r) with
      | none => none
      | some i => (decF ws m ((c :: r).drop (ws.getD i []).length)).map (i :: ·) := rfl
    rw [hcr, step, ← hcr, firstW_at g hil]
    show (decF ws m ((ws.getD i [] ++ textOf ws its).drop (ws.getD i []).length)).map (i :: ·) = _
    rw [List.drop_left, ih]; rfl
/-- more turns than needed tell the same -/
theorem dec_more {ws : List (List Nat)} (hne : [] ∉ ws) : ∀ (m m' : Nat) (l : List Nat), l.length < m → l.length < m' → decF ws m l = decF ws m' l
  | 0, _, _, h, _ => by omega
  | _, 0, _, _, h => by omega
  | m + 1, m' + 1, [], _, _ => rfl
  | m + 1, m' + 1, c :: r, h1, h2 => by
    show (match firstW ws (c :: r) with
      | none => none
      | some i => (decF ws m ((c :: r).drop (ws.getD i []).length)).map (i :: ·)) = match firstW ws (c :: r) with
      | none => none
      | some i => (decF ws m' ((c :: r).drop (ws.getD i []).length)).map (i :: ·)
    cases h : firstW ws (c :: r) with
    | none => rfl
    | some i =>
      obtain ⟨hi, hp⟩ := firstW_some h
      have hw : ws.getD i [] ∈ ws := by
        rw [List.getD_eq_getElem?_getD, List.getElem?_eq_getElem hi]
        exact List.getElem_mem hi
      have hl : 0 < (ws.getD i []).length := List.length_pos_iff.mpr fun z => hne (z ▸ hw)
      have hd : ((c :: r).drop (ws.getD i []).length).length < (c :: r).length := by rw [List.length_drop, List.length_cons]; omega
      show (decF ws m _).map _ = (decF ws m' _).map _
      rw [dec_more hne m m' _ (by omega) (by omega)]
theorem dec_lt {ws : List (List Nat)} : ∀ (m : Nat) (l its : List Nat), decF ws m l = some its → (∀ i ∈ its, i < ws.length)
  | 0, _, _, h => by cases h
  | m + 1, [], its, h => by cases h; intro i hi; cases hi
  | m + 1, c :: r, its, h => by
    have h : (match firstW ws (c :: r) with
      | none => none
      | some i => (decF ws m ((c :: r).drop (ws.getD i []).length)).map (i :: ·)) = some its := h
    cases h1 : firstW ws (c :: r) with
    | none => rw [h1] at h; cases h
    | some i =>
      rw [h1] at h
      obtain ⟨js, hj, rfl⟩ := Option.map_eq_some_iff.mp h
      intro k hk
      rcases List.mem_cons.mp hk with rfl | hk
      · exact (firstW_some h1).1
      · exact dec_lt m _ js hj k hk
/-- what a text is read as -/
def readO (ws : List (List Nat)) (l : List Nat) : Option (List Nat) := if ws = [[]] then (if l = [] then some [] else none) else decF ws (l.length + 1) l

end J
namespace J
open PySem PySem.Spec PyProof.Rows L2

local macro_rules | `(tactic| walk_at "ty") => `(tactic| first
  | with_reducible exact ty_int
  | with_reducible exact ty_bl
  | with_reducible exact ty_str
  | with_reducible exact ty_non
  | ((with_reducible refine' ty_lst ?vv); (case vv => walk_at "tr"))
  | ((with_reducible refine' ty_sqT ?vv); (case vv => walk_at "tr"))
  | ((with_reducible refine' ty_dic ?vv); (case vv => walk_at "tr")))
local macro_rules | `(tactic| walk_at "ix") => `(tactic| first | exact at0 | exact at1 | exact at2 | assumption)
local macro_rules | `(tactic| walk_at "size") => `(tactic| first
  | assumption
  | (show _ < sizeLine; rw [sizeLine_eq]; (try simp only [List.length_cons, List.length_nil, List.length_append, List.length_map]); omega)
  | (show _ ≤ sizeLine; rw [sizeLine_eq]; (try simp only [List.length_cons, List.length_nil, List.length_append, List.length_map]); omega))
local macro_rules | `(tactic| walk_at "side") => `(tactic| first
  | assumption
  | ((with_reducible refine cdw ?_ ?_) <;> omega)
  | omega
  | (exact ⟨by omega, by omega⟩)
  | (exact Or.inl ⟨by omega, by omega⟩)
  | (exact Or.inr ⟨by omega, by omega⟩)
  | decide
  | (simp only [List.length_cons, List.length_nil, List.length_append, List.length_map]; omega)
  | (show _ ≤ _; decide))
local macro_rules | `(tactic| walk_at "as") => `(tactic| with_reducible assumption)
local macro_rules | `(tactic| walk_at "tr") => `(tactic| first
  | with_reducible assumption
  | with_reducible exact upd_same
  | ((with_reducible refine' SqL.of ?hh); (case hh => walk_at "as"))
  | ((with_reducible refine' SqT.of ?hh); (case hh => walk_at "as"))
  | ((with_reducible refine' Same.stm ?ee ?gg); (case ee => walk_at "as"); (case gg => walk_at "tr"))
  | ((with_reducible refine' Same.sqT ?ee ?gg); (case ee => walk_at "as"); (case gg => walk_at "tr"))
  | ((with_reducible refine' Same.sqL ?ee ?gg); (case ee => walk_at "as"); (case gg => walk_at "tr"))
  | ((with_reducible refine' Same.at ?ee ?gg); (case ee => walk_at "as"); (case gg => walk_at "tr"))
  | ((with_reducible refine' But.stm ?ee ?ff ?gg); (case ee => walk_at "as"); (case ff => walk_at "ne"); (case gg => walk_at "tr"))
  | ((with_reducible refine' But.tup ?ee ?ff ?gg); (case ee => walk_at "as"); (case ff => walk_at "tr1"); (case gg => walk_at "tr"))
  | ((with_reducible refine' But.sqT ?ee ?ff ?gg); (case ee => walk_at "as"); (case ff => walk_at "tr1"); (case gg => walk_at "tr"))
  | ((with_reducible refine' But.tupL ?ee ?ff ?gg); (case ee => walk_at "as"); (case ff => walk_at "tr1"); (case gg => walk_at "tr"))
  | ((with_reducible refine' But.sqTL ?ee ?ff ?gg); (case ee => walk_at "as"); (case ff => walk_at "tr1"); (case gg => walk_at "tr"))
  | ((with_reducible refine' But.sqL ?ee ?ff ?gg); (case ee => walk_at "as"); (case ff => walk_at "ne"); (case gg => walk_at "tr"))
  | ((with_reducible refine' But.at ?ee ?ff ?gg); (case ee => walk_at "as"); (case ff => walk_at "ne"); (case gg => walk_at "tr")))
local macro_rules | `(tactic| walk_at "ts") => `(tactic| first
  | with_reducible assumption
  | with_reducible exact TS.refl _
  | ((with_reducible refine' TS.trans ?gg (TS.of ?ee)); (case ee => walk_at "as"); (case gg => walk_at "ts"))
  | ((with_reducible refine' TS.trans ?gg (TS.butS ?ee ?ff)); (case ee => walk_at "as"); (case ff => walk_at "tr1"); (case gg => walk_at "ts"))
  | ((with_reducible refine' TS.trans ?gg (TS.butL ?ee ?ff)); (case ee => walk_at "as"); (case ff => walk_at "tr1"); (case gg => walk_at "ts"))
  | ((with_reducible refine' TS.trans ?gg (TS.butI ?ee ?ff)); (case ee => walk_at "as"); (case ff => walk_at "tr1"); (case gg => walk_at "ts")))
local macro_rules | `(tactic| walk_at "sm") => `(tactic| first
  | with_reducible assumption
  | with_reducible exact Same.refl _
  | ((with_reducible refine' Same.trans ?gg ?ee); (case ee => walk_at "as"); (case gg => walk_at "sm"))
  | ((with_reducible refine' But.new ?gg ?nn ?ee); (case ee => walk_at "as"); (case nn => walk_at "fr"); (case gg => walk_at "sm")))
local macro_rules | `(tactic| walk_at "fr") => `(tactic| first
  | with_reducible assumption
  | ((with_reducible refine' Same.back ?ee ?nn); (case nn => walk_at "as"); (case ee => walk_at "sm"))
  | ((with_reducible refine' But.back ?ee ?ff ?nn); (case nn => walk_at "as"); (case ff => walk_at "ne0"); (case ee => walk_at "bu")))
local macro_rules | `(tactic| walk_at "bu") => `(tactic| first
  | with_reducible assumption
  | with_reducible exact But.refl _ _
  | ((with_reducible refine' But.trans ?gg ?ee); (case ee => walk_at "as"); (case gg => walk_at "bu"))
  | ((with_reducible refine' But.trans ?gg (But.of ?ee)); (case ee => walk_at "as"); (case gg => walk_at "bu"))
  | ((with_reducible refine' But.new2 ?gg ?nn ?ee); (case ee => walk_at "as"); (case nn => walk_at "frB"); (case gg => walk_at "bu")))
local macro_rules | `(tactic| walk_at "frB") => `(tactic| first
  | with_reducible assumption
  | ((with_reducible refine' Same.back ?ee ?nn); (case nn => walk_at "as"); (case ee => walk_at "sm"))
  | ((with_reducible refine' But.back' ?ee ?ff ?nn); (case nn => walk_at "as"); (case ee => walk_at "bu"); (case ff => walk_at "tr1")))
local macro_rules | `(tactic| walk_at "tr1") => `(tactic| first
  | with_reducible assumption
  | ((with_reducible refine' Same.stm ?ee ?gg); (case ee => walk_at "as"); (case gg => walk_at "tr1"))
  | ((with_reducible refine' Same.at ?ee ?gg); (case ee => walk_at "as"); (case gg => walk_at "tr1"))
  | ((with_reducible refine' But.at ?ee ?ff ?gg); (case ee => walk_at "as"); (case ff => walk_at "ne0"); (case gg => walk_at "tr1"))
  | ((with_reducible refine' But.stm ?ee ?ff ?gg); (case ee => walk_at "as"); (case ff => walk_at "ne0"); (case gg => walk_at "tr1")))
local macro_rules | `(tactic| walk_at "ne0") => `(tactic| first
  | with_reducible assumption
  | (with_reducible apply Ne.symm; with_reducible assumption))
local macro_rules | `(tactic| walk_at "ne") => `(tactic| first
  | with_reducible assumption
  | (with_reducible apply Ne.symm; with_reducible assumption)
  | ((with_reducible refine' stm_ne ?hh ?nn); (case nn => walk_at "as"); (case hh => walk_at "tr1"))
  | ((with_reducible refine' ne_of_none ?hh ?nn); (case nn => walk_at "as"); (case hh => walk_at "tr1"))
  | ((with_reducible apply Ne.symm); (with_reducible refine' ne_of_none ?hh ?nn); (case nn => walk_at "as"); (case hh => walk_at "tr1")))
local macro_rules | `(tactic| walk_at "v") => `(tactic| first
  | with_reducible refine w_seq ?_
  | ((with_reducible refine' w_var ?vv ?_); (case vv => exact rfl))
  | with_reducible refine w_c ?_
  | with_reducible refine w_op ?_
  | with_reducible refine w_asg ?_
  | with_reducible refine w_gName ?_
  | with_reducible refine w_ret ?_
  | with_reducible refine w_ifS ?_
  | with_reducible refine w_drop ?_
  | with_reducible refine w_next ?_
  | with_reducible refine w_cons ?_
  | with_reducible refine w_nil ?_
  | with_reducible refine w_call ?_
  | with_reducible refine w_cb ?_
  | with_reducible refine w_rI0 ?_
  | with_reducible refine w_addI ?_
  | with_reducible refine w_eqI ?_
  | with_reducible refine w_neI ?_
  | with_reducible refine w_eqS ?_
  | with_reducible refine w_neS ?_
  | with_reducible refine w_eqB ?_
  | with_reducible refine w_neB ?_
  | with_reducible refine w_chain ?_
  | with_reducible refine w_test ?_
  | with_reducible refine w_tB ?_
  | with_reducible refine w_bl ?_
  | ((with_reducible refine' w_mulI ?vv ?_); (case vv => walk_at "side"))
  | ((with_reducible refine' w_rI ?vv ?_); (case vv => walk_at "side"))
  | with_reducible refine w_int1 ?_
  | with_reducible refine w_int1b ?_
  | with_reducible refine w_tup ?_
  | with_reducible refine w_lst ?_
  | with_reducible refine w_un ?_
  | with_reducible refine w_rU ?_
  | with_reducible refine w_not ?_
  | with_reducible refine w_notV ?_
  | with_reducible refine w_ifE ?_
  | with_reducible refine w_nT ?_
  | with_reducible refine w_nF ?_
  | with_reducible refine iteT ?_
  | with_reducible refine iteF ?_
  | ((with_reducible refine' w_ixT ?vv ?ww ?_); (case vv => walk_at "tr"); (case ww => walk_at "ix"))
  | ((with_reducible refine' w_ixL ?vv ?ww ?_); (case vv => walk_at "tr"); (case ww => walk_at "ix"))
  | with_reducible refine w_gSub ?_
  | ((with_reducible refine' w_setL ?vv ?ww ?_); (case vv => walk_at "tr"); (case ww => first | rfl | decide | assumption))
  | ((with_reducible refine' w_lenL ?vv ?_); (case vv => walk_at "tr"))
  | ((with_reducible refine' w_lenT ?vv ?_); (case vv => walk_at "tr"))
  | with_reducible refine w_max2 ?_
  | with_reducible refine w_max3 ?_
  | with_reducible refine w_din ?_
  | with_reducible refine w_dnotin ?_
  | with_reducible refine w_dput ?_
  | with_reducible refine w_min2 ?_
  | with_reducible refine w_bm ?_
  | with_reducible refine w_bm0 ?_
  | ((with_reducible refine' w_tyL ?vv ?_); (case vv => walk_at "tr"))
  | ((with_reducible refine' w_append ?vv ?ww ?_); (case vv => walk_at "tr"); (case ww => walk_at "size"))
  | ((with_reducible refine' w_size ?vv ?_); (case vv => walk_at "size"))
  | with_reducible refine w_forL ?_
  | with_reducible refine w_forT ?_
  | with_reducible refine w_forR1 ?_
  | with_reducible refine w_forR2 ?_
  | with_reducible refine w_lcL ?_
  | with_reducible refine w_lcT ?_
  | with_reducible refine w_lcR1 ?_
  | with_reducible refine w_yes ?_
  | with_reducible refine w_sl ?_
  | with_reducible refine w_noPart ?_
  | with_reducible refine w_part ?_
  | with_reducible refine w_int ?_
  | ((with_reducible refine' w_slL ?vv ?_); (case vv => walk_at "tr"))
  | ((with_reducible refine' w_seqL ?vv ?ww ?_); (case vv => walk_at "tr"); (case ww => rfl))
  | ((with_reducible refine' w_seqT ?vv ?ww ?_); (case vv => walk_at "tr"); (case ww => rfl))
  | with_reducible refine w_gNil ?_
  | with_reducible refine w_gCons ?_
  | with_reducible refine w_forZ ?_
  | with_reducible refine w_forM ?_
  | with_reducible refine w_forE ?_
  | with_reducible refine w_forV ?_
  | with_reducible refine w_lcZ ?_
  | with_reducible refine w_lcE ?_
  | ((with_reducible refine' w_isi (b := true) ?vv ?ww ?_); (case vv => walk_at "ty"); (case ww => decide +kernel))
  | ((with_reducible refine' w_isi (b := false) ?vv ?ww ?_); (case vv => walk_at "ty"); (case ww => decide +kernel))
  | with_reducible refine w_revL ?_
  | with_reducible refine w_pairN ?_
  | with_reducible refine w_pairC ?_
  | with_reducible refine w_dget ?_
  | with_reducible refine w_met ?_
  | ((with_reducible refine' w_metAt ?vv ?ww ?_); (case vv => walk_at "tr"); (case ww => rfl))
  | with_reducible refine w_mkI ?_
  | with_reducible refine w_fld ?_
  | ((with_reducible refine' w_fldAt ?vv ?cc ?nn ?ww ?_); (case vv => walk_at "tr"); (case cc => walk_at "cls"); (case nn => walk_at "na"); (case ww => rfl))
  | with_reducible refine w_sfld ?_
  | ((with_reducible refine' w_sfldAt ?vv ?cc ?nn ?ll ?ee ?_); (case vv => walk_at "tr"); (case cc => walk_at "cls"); (case nn => walk_at "na"); (case ll => simp); (case ee => rfl))
  | ((with_reducible refine' w_tupL ?vv ?_); (case vv => walk_at "tr"))
  | ((with_reducible refine' w_tupT ?vv ?_); (case vv => walk_at "tr"))
  | ((with_reducible refine' w_listL ?vv ?_); (case vv => walk_at "tr"))
  | ((with_reducible refine' w_listT ?vv ?_); (case vv => walk_at "tr"))
  | with_reducible refine w_tyS ?_
  | with_reducible refine w_lcZM ?_
  | with_reducible refine w_js ?_
  | with_reducible refine w_jsN ?_
  | ((with_reducible refine' w_jsP ?vv ?_); (case vv => walk_at "size"))
  | with_reducible refine w_fmt ?_
  | with_reducible refine w_forRR ?_
  | with_reducible refine w_retN ?_
  | with_reducible refine w_break ?_
  | with_reducible refine w_cont ?_)
local macro_rules | `(tactic| walk_at "w") => `(tactic| first
  | walk_at "v"
  | with_reducible refine w_or ?_
  | with_reducible refine w_and ?_
  | with_reducible refine w_andV ?_
  | with_reducible refine w_orV ?_)
local macro_rules | `(tactic| walk_at "wd") => `(tactic| first
  | walk_at "w"
  | ((with_reducible refine' w_decT ?vv ?_); (case vv => decide +kernel))
  | ((with_reducible refine' w_decF ?vv ?_); (case vv => decide +kernel)))
local macro_rules | `(tactic| walk_at "tz") => `(tactic| (intro S z; (repeat walk_at "w"); exact z))
local macro_rules | `(tactic| walk_at "wf") => `(tactic| first
  | walk_at "wd"
  | ((with_reducible refine' w_decF ?vv ?_); (case vv => with_reducible assumption)))
/-! ### codes: the package's defs -/
open SX
def itV : Option (List Nat) → V
  | none => .non
  | some w => .str (S w)
/-- any value that occurs -/
inductive AnyAt (K : PySem.W.Frag) (H : Hp) : V → Prop
  | non : AnyAt K H .non
  | bl (b : Bool) : AnyAt K H (.bl b)
  | int (i : Int) : AnyAt K H (.int i)
  | str (l : List Nat) (hl : l.length ≤ 1000) : AnyAt K H (.str (S l))
  | lst {a : Addr} {xs : List V} (h : H a = some (.lst xs)) : AnyAt K H (.ref a)
  | tup {a : Addr} {xs : List V} (h : SqT K H a xs) : AnyAt K H (.ref a)
  | dic {a : Addr} (h : H a = some (.dK [])) : AnyAt K H (.ref a)
theorem AnyAt.sm {K : PySem.W.Frag} {H H' : Hp} {v : V} (h : AnyAt K H v) (e : Same H H') : AnyAt K H' v := by
  cases h with
  | non => exact .non
  | bl b => exact .bl b
  | int i => exact .int i
  | str l hl => exact .str l hl
  | lst h => exact .lst (e _ _ h)
  | tup h => exact .tup (e.sqT h)
  | dic h => exact .dic (e _ _ h)
/-- neither a list nor a tuple -/
inductive NoSq (H : Hp) : V → Prop
  | non : NoSq H .non
  | bl (b : Bool) : NoSq H (.bl b)
  | int (i : Int) : NoSq H (.int i)
  | str (l : List Nat) (hl : l.length ≤ 1000) : NoSq H (.str (S l))
  | dic {a : Addr} (h : H a = some (.dK [])) : NoSq H (.ref a)
theorem NoSq.sm {H H' : Hp} {v : V} (h : NoSq H v) (e : Same H H') : NoSq H' v := by
  cases h with
  | non => exact .non
  | bl b => exact .bl b
  | int i => exact .int i
  | str l hl => exact .str l hl
  | dic h => exact .dic (e _ _ h)
theorem NoSq.any {K : PySem.W.Frag} {H : Hp} {v : V} (h : NoSq H v) : AnyAt K H v := by
  cases h with
  | non => exact .non
  | bl b => exact .bl b
  | int i => exact .int i
  | str l hl => exact .str l hl
  | dic h => exact .dic h
def bitsV : V → Bool
  | .str x => bitsL x.cps.toList
  | _ => false
def wholeV : V → Bool
  | .int _ => true
  | _ => false
/-- a value as a code: its items, where it has them -/
inductive CodeAt (K : PySem.W.Frag) (H : Hp) : V → Option Its → Prop
  | no {v : V} (h : NoSq H v) : CodeAt K H v none
  | lst {a : Addr} {its : Its} (h : H a = some (.lst (its.map itV))) (hl : its.length ≤ 100) (hw : ∀ w, some w ∈ its → w.length ≤ 1000) : CodeAt K H (.ref a) (some its)
  | tup {a : Addr} {its : Its} (h : SqT K H a (its.map itV)) (hl : its.length ≤ 100) (hw : ∀ w, some w ∈ its → w.length ≤ 1000) : CodeAt K H (.ref a) (some its)
def spWhole (K : PySem.W.Frag) : Sp := fun vs H Q _ => ∃ v, vs = [v] ∧ AnyAt K H v ∧ Q (.bl (wholeV v)) H
def spBits (K : PySem.W.Frag) : Sp := fun vs H Q _ => ∃ v, vs = [v] ∧ AnyAt K H v ∧ ∀ H', Same H H' → Q (.bl (bitsV v)) H'
def spIsCode (K : PySem.W.Frag) : Sp := fun vs H Q _ => ∃ v o, vs = [v] ∧ CodeAt K H v o ∧ ∀ H', Same H H' → Q (.bl (isCodeO o)) H'
theorem len_is_whole {K : PySem.W.Frag} {vs H Q E} (h : spWhole K vs H Q E) : vs.length = 1 := by obtain ⟨_, rfl, _⟩ := h; rfl
theorem len_is_bits {K : PySem.W.Frag} {vs H Q E} (h : spBits K vs H Q E) : vs.length = 1 := by obtain ⟨_, rfl, _⟩ := h; rfl
theorem len_is_code {K : PySem.W.Frag} {vs H Q E} (h : spIsCode K vs H Q E) : vs.length = 1 := by obtain ⟨_, _, rfl, _⟩ := h; rfl
section
variable {K : PySem.W.Frag} {H : Hp} {Q : VK}
def rSw : V → List V → Hp → VK → Prop := fun x xs H Q => ∃ a b, x = .str a ∧ xs = [.str b] ∧ Q (.bl (Txt.startswith a b)) H
theorem mt_startswithA {X : Cx} : MtR X "str.startswith" rSw := mt_startswith
theorem sw_pre (a b : List Nat) : Txt.startswith (S b) (S a) = preL a b := by
  unfold Txt.startswith preL
  rw [StrLaws.subAt_eq, List.drop_zero, S_len, S_len]
  show (decide (0 + a.length ≤ b.length) && (b.take a.length == a)) = _
  rw [Nat.zero_add]
  by_cases h : b.take a.length = a
  · have : a.length ≤ b.length := by rw [← h, List.length_take]; omega
    rw [decide_eq_true this, decide_eq_true h, h]; simp
  · rw [decide_eq_false h]
    have : (b.take a.length == a) = false := by simpa using h
    rw [this, Bool.and_false]
theorem w_swC {a b : List Nat} (k : Q (.bl (preL a b)) H) : rSw (.str (S b)) [.str (S a)] H Q := ⟨_, _, rfl, rfl, by rw [sw_pre]; exact k⟩
theorem w_allL {a : Addr} {bs : List Bool} (h : SqL K H a (bs.map V.bl)) (k : Q (.bl (bs.all id)) H) : rAll K [.ref a] H Q := ⟨a, bs, rfl, h, k⟩
theorem w_anyL {a : Addr} {bs : List Bool} (h : SqL K H a (bs.map V.bl)) (k : Q (.bl (bs.any id)) H) : rAny K [.ref a] H Q := ⟨a, bs, rfl, h, k⟩
theorem w_andB {ta tb : TE} {σ : L2.St} (c : Bool) (h1 : ∀ Q : VK, Q (.bl c) H → ta σ H Q) (k1 : c = true → tb σ H Q) (k0 : c = false → Q (.bl false) H) : tAndV ta tb σ H Q := by
  refine w_andV (h1 _ ⟨c, rfl, ?_⟩)
  cases c with
  | true => exact iteT (k1 rfl)
  | false => exact iteF (k0 rfl)
theorem all_take {α : Type} {p : α → Bool} {l : List α} {j : Nat} {x : α} (h : l[j]? = some x) : (l.take (j + 1)).map p = (l.take j).map p ++ [p x] := by
  obtain ⟨hl, rfl⟩ := List.getElem?_eq_some_iff.mp h
  rw [List.take_succ_eq_append_getElem hl, List.map_append]; rfl
end
theorem bit_in (c : Nat) : decide (c ∈ TL.tl ("01" : Str)) = bitC c := by
  show decide (c ∈ ([48, 49] : List Nat)) = _
  unfold bitC
  simp
section
variable {P : Program} {w : World} {K : PySem.W.Frag} {mg : Str → Option Value}
theorem ok_is_whole [c : Facts K mg] : XL.Fn P w K mg "is_whole" 1 ["thing"] ((spWhole K)) := by
  obtain ⟨fd, F⟩ := c.d_is_whole
  refine XL.Fn.mk' F c.g_is_whole sc_is_whole (k := 0) (fun vs H Q E h => ?_) (fun _ _ _ _ _ _ us hl => match us, hl with | [_], _ => rfl) (fun base cdv A outer s H vs Q E hr h => ?_)
  · exact len_is_whole h
  · have nd := sc_is_whole.nd
    have hu := hu_of hr.r
    refine ⟨_, (PSs.nox (pss_one (ps_ret (pe_and (pe_callB (call_isiA (K := K) rfl) (by rfl) c.f_isinstance boot_isinstance (pa_cons (pv 0) (pa_cons (pe_bltn (v := .ty "int") (by rfl) c.f_int boot_int rfl) pa_nil))) (pe_one (pe_not (pe_callB (call_isiA (K := K) rfl) (by rfl) c.f_isinstance boot_isinstance (pa_cons (pv 0) (pa_cons (pe_bltn (v := .ty "bool") (by rfl) c.f_bool boot_bool rfl) pa_nil))))))))), ?_⟩
    try dsimp only [cxOf, Cx.nox, Cx.wish]
    obtain ⟨v, rfl, hv, q⟩ := h
    cases hv <;> (repeat walk_at "w") <;> exact q
theorem ok_is_bits [c : Facts K mg] : XL.Fn P w K mg "is_bits" 1 ["thing"] ((spBits K)) := by
  obtain ⟨fd, F⟩ := c.d_is_bits
  refine XL.Fn.mk' F c.g_is_bits sc_is_bits (k := 0) (fun vs H Q E h => ?_) (fun _ _ _ _ _ _ us hl => match us, hl with | [_], _ => rfl) (fun base cdv A outer s H vs Q E hr h => ?_)
  · exact len_is_bits h
  · have nd := sc_is_bits.nd
    have hu := hu_of hr.r
    refine ⟨_, (PSs.nox (pss_one (ps_ret (pe_and (pe_callB (call_isiA (K := K) rfl) (by rfl) c.f_isinstance boot_isinstance (pa_cons (pv 0) (pa_cons (pe_bltn (v := .ty "str") (by rfl) c.f_str boot_str rfl) pa_nil))) (pe_one (pe_callB (cr_all rfl) (by rfl) c.f_all boot_all (pa_cons (pe_lc (own := [("sign", 1)]) rfl nd (pi_str (pv 0)) (blkOk_by (N := N_is_bits) (sc := defScope s_is_bits) (by decide +kernel)) (fun _ _ _ _ _ => (pg_name (i := 1) nd rfl (Or.inl rfl))) (fun _ _ _ _ _ => pts_nil) (fun _ _ _ _ _ => (pe_cmpR (op_inA (K := K) rfl) (pv 1) pe_str (by rfl)))) pa_nil))))))), ?_⟩
    try dsimp only [cxOf, Cx.nox, Cx.wish]
    obtain ⟨v, rfl, hv, q⟩ := h
    have hz : sizeLine = 16777216 := sizeLine_eq
    cases hv with
    | str l hl =>
      repeat walk_at "w"
      refine w_lcS ?_
      repeat walk_at "w"
      refine lc_S l (fun D j ys H' => Same H H' ∧ ys = ((l.take j).map bitC).map V.bl) (fun D H' hD e f => ⟨e, rfl⟩) (fun D hD j c ys H' hc hll hy hp => ?_) (fun D hD ys H' hll hy hp => ?_)
      · obtain ⟨e, rfl⟩ := hp
        have hjl := (List.getElem?_eq_some_iff.mp hc).1
        repeat walk_at "w"
        refine w_in1 ?_
        rw [bit_in]
        refine lc_end hy hll (by rw [hz, List.length_map, List.length_map, List.length_take]; omega) fun H5 e5 f5 => ⟨But.new e hD e5, ?_⟩
        rw [all_take hc, List.map_append]; rfl
      · obtain ⟨e, rfl⟩ := hp
        rw [List.take_length] at hy
        repeat walk_at "w"
        refine w_allL (SqL.of hy) ?_
        have := q H' e
        show Q (.bl ((l.map bitC).all id)) H'
        rw [List.all_map]
        exact this
    | _ =>
      repeat walk_at "w"
      exact q H (Same.refl _)
end

end J
namespace J
open PySem PySem.Spec PyProof.Rows L2

local macro_rules | `(tactic| walk_at "ty") => `(tactic| first
  | with_reducible exact ty_int
  | with_reducible exact ty_bl
  | with_reducible exact ty_str
  | with_reducible exact ty_non
  | ((with_reducible refine' ty_lst ?vv); (case vv => walk_at "tr"))
  | ((with_reducible refine' ty_sqT ?vv); (case vv => walk_at "tr"))
  | ((with_reducible refine' ty_dic ?vv); (case vv => walk_at "tr")))
local macro_rules | `(tactic| walk_at "ix") => `(tactic| first | exact at0 | exact at1 | exact at2 | assumption)
local macro_rules | `(tactic| walk_at "size") => `(tactic| first
  | assumption
  | (show _ < sizeLine; rw [sizeLine_eq]; (try simp only [List.length_cons, List.length_nil, List.length_append, List.length_map]); omega)
  | (show _ ≤ sizeLine; rw [sizeLine_eq]; (try simp only [List.length_cons, List.length_nil, List.length_append, List.length_map]); omega))
local macro_rules | `(tactic| walk_at "side") => `(tactic| first
  | assumption
  | ((with_reducible refine cdw ?_ ?_) <;> omega)
  | omega
  | (exact ⟨by omega, by omega⟩)
  | (exact Or.inl ⟨by omega, by omega⟩)
  | (exact Or.inr ⟨by omega, by omega⟩)
  | decide
  | (simp only [List.length_cons, List.length_nil, List.length_append, List.length_map]; omega)
  | (show _ ≤ _; decide))
local macro_rules | `(tactic| walk_at "as") => `(tactic| with_reducible assumption)
local macro_rules | `(tactic| walk_at "tr") => `(tactic| first
  | with_reducible assumption
  | with_reducible exact upd_same
  | ((with_reducible refine' SqL.of ?hh); (case hh => walk_at "as"))
  | ((with_reducible refine' SqT.of ?hh); (case hh => walk_at "as"))
  | ((with_reducible refine' Same.stm ?ee ?gg); (case ee => walk_at "as"); (case gg => walk_at "tr"))
  | ((with_reducible refine' Same.sqT ?ee ?gg); (case ee => walk_at "as"); (case gg => walk_at "tr"))
  | ((with_reducible refine' Same.sqL ?ee ?gg); (case ee => walk_at "as"); (case gg => walk_at "tr"))
  | ((with_reducible refine' Same.at ?ee ?gg); (case ee => walk_at "as"); (case gg => walk_at "tr"))
  | ((with_reducible refine' But.stm ?ee ?ff ?gg); (case ee => walk_at "as"); (case ff => walk_at "ne"); (case gg => walk_at "tr"))
  | ((with_reducible refine' But.tup ?ee ?ff ?gg); (case ee => walk_at "as"); (case ff => walk_at "tr1"); (case gg => walk_at "tr"))
  | ((with_reducible refine' But.sqT ?ee ?ff ?gg); (case ee => walk_at "as"); (case ff => walk_at "tr1"); (case gg => walk_at "tr"))
  | ((with_reducible refine' But.tupL ?ee ?ff ?gg); (case ee => walk_at "as"); (case ff => walk_at "tr1"); (case gg => walk_at "tr"))
  | ((with_reducible refine' But.sqTL ?ee ?ff ?gg); (case ee => walk_at "as"); (case ff => walk_at "tr1"); (case gg => walk_at "tr"))
  | ((with_reducible refine' But.sqL ?ee ?ff ?gg); (case ee => walk_at "as"); (case ff => walk_at "ne"); (case gg => walk_at "tr"))
  | ((with_reducible refine' But.at ?ee ?ff ?gg); (case ee => walk_at "as"); (case ff => walk_at "ne"); (case gg => walk_at "tr")))
local macro_rules | `(tactic| walk_at "ts") => `(tactic| first
  | with_reducible assumption
  | with_reducible exact TS.refl _
  | ((with_reducible refine' TS.trans ?gg (TS.of ?ee)); (case ee => walk_at "as"); (case gg => walk_at "ts"))
  | ((with_reducible refine' TS.trans ?gg (TS.butS ?ee ?ff)); (case ee => walk_at "as"); (case ff => walk_at "tr1"); (case gg => walk_at "ts"))
  | ((with_reducible refine' TS.trans ?gg (TS.butL ?ee ?ff)); (case ee => walk_at "as"); (case ff => walk_at "tr1"); (case gg => walk_at "ts"))
  | ((with_reducible refine' TS.trans ?gg (TS.butI ?ee ?ff)); (case ee => walk_at "as"); (case ff => walk_at "tr1"); (case gg => walk_at "ts")))
local macro_rules | `(tactic| walk_at "sm") => `(tactic| first
  | with_reducible assumption
  | with_reducible exact Same.refl _
  | ((with_reducible refine' Same.trans ?gg ?ee); (case ee => walk_at "as"); (case gg => walk_at "sm"))
  | ((with_reducible refine' But.new ?gg ?nn ?ee); (case ee => walk_at "as"); (case nn => walk_at "fr"); (case gg => walk_at "sm")))
local macro_rules | `(tactic| walk_at "fr") => `(tactic| first
  | with_reducible assumption
  | ((with_reducible refine' Same.back ?ee ?nn); (case nn => walk_at "as"); (case ee => walk_at "sm"))
  | ((with_reducible refine' But.back ?ee ?ff ?nn); (case nn => walk_at "as"); (case ff => walk_at "ne0"); (case ee => walk_at "bu")))
local macro_rules | `(tactic| walk_at "bu") => `(tactic| first
  | with_reducible assumption
  | with_reducible exact But.refl _ _
  | ((with_reducible refine' But.trans ?gg ?ee); (case ee => walk_at "as"); (case gg => walk_at "bu"))
  | ((with_reducible refine' But.trans ?gg (But.of ?ee)); (case ee => walk_at "as"); (case gg => walk_at "bu"))
  | ((with_reducible refine' But.new2 ?gg ?nn ?ee); (case ee => walk_at "as"); (case nn => walk_at "frB"); (case gg => walk_at "bu")))
local macro_rules | `(tactic| walk_at "frB") => `(tactic| first
  | with_reducible assumption
  | ((with_reducible refine' Same.back ?ee ?nn); (case nn => walk_at "as"); (case ee => walk_at "sm"))
  | ((with_reducible refine' But.back' ?ee ?ff ?nn); (case nn => walk_at "as"); (case ee => walk_at "bu"); (case ff => walk_at "tr1")))
local macro_rules | `(tactic| walk_at "tr1") => `(tactic| first
  | with_reducible assumption
  | ((with_reducible refine' Same.stm ?ee ?gg); (case ee => walk_at "as"); (case gg => walk_at "tr1"))
  | ((with_reducible refine' Same.at ?ee ?gg); (case ee => walk_at "as"); (case gg => walk_at "tr1"))
  | ((with_reducible refine' But.at ?ee ?ff ?gg); (case ee => walk_at "as"); (case ff => walk_at "ne0"); (case gg => walk_at "tr1"))
  | ((with_reducible refine' But.stm ?ee ?ff ?gg); (case ee => walk_at "as"); (case ff => walk_at "ne0"); (case gg => walk_at "tr1")))
local macro_rules | `(tactic| walk_at "ne0") => `(tactic| first
  | with_reducible assumption
  | (with_reducible apply Ne.symm; with_reducible assumption))
local macro_rules | `(tactic| walk_at "ne") => `(tactic| first
  | with_reducible assumption
  | (with_reducible apply Ne.symm; with_reducible assumption)
  | ((with_reducible refine' stm_ne ?hh ?nn); (case nn => walk_at "as"); (case hh => walk_at "tr1"))
  | ((with_reducible refine' ne_of_none ?hh ?nn); (case nn => walk_at "as"); (case hh => walk_at "tr1"))
  | ((with_reducible apply Ne.symm); (with_reducible refine' ne_of_none ?hh ?nn); (case nn => walk_at "as"); (case hh => walk_at "tr1")))
local macro_rules | `(tactic| walk_at "v") => `(tactic| first
  | with_reducible refine w_seq ?_
  | ((with_reducible refine' w_var ?vv ?_); (case vv => exact rfl))
  | with_reducible refine w_c ?_
  | with_reducible refine w_op ?_
  | with_reducible refine w_asg ?_
  | with_reducible refine w_gName ?_
  | with_reducible refine w_ret ?_
  | with_reducible refine w_ifS ?_
  | with_reducible refine w_drop ?_
  | with_reducible refine w_next ?_
  | with_reducible refine w_cons ?_
  | with_reducible refine w_nil ?_
  | with_reducible refine w_call ?_
  | with_reducible refine w_cb ?_
  | with_reducible refine w_rI0 ?_
  | with_reducible refine w_addI ?_
  | with_reducible refine w_eqI ?_
  | with_reducible refine w_neI ?_
  | with_reducible refine w_eqS ?_
  | with_reducible refine w_neS ?_
  | with_reducible refine w_eqB ?_
  | with_reducible refine w_neB ?_
  | with_reducible refine w_chain ?_
  | with_reducible refine w_test ?_
  | with_reducible refine w_tB ?_
  | with_reducible refine w_bl ?_
  | ((with_reducible refine' w_mulI ?vv ?_); (case vv => walk_at "side"))
  | ((with_reducible refine' w_rI ?vv ?_); (case vv => walk_at "side"))
  | with_reducible refine w_int1 ?_
  | with_reducible refine w_int1b ?_
  | with_reducible refine w_tup ?_
  | with_reducible refine w_lst ?_
  | with_reducible refine w_un ?_
  | with_reducible refine w_rU ?_
  | with_reducible refine w_not ?_
  | with_reducible refine w_notV ?_
  | with_reducible refine w_ifE ?_
  | with_reducible refine w_nT ?_
  | with_reducible refine w_nF ?_
  | with_reducible refine iteT ?_
  | with_reducible refine iteF ?_
  | ((with_reducible refine' w_ixT ?vv ?ww ?_); (case vv => walk_at "tr"); (case ww => walk_at "ix"))
  | ((with_reducible refine' w_ixL ?vv ?ww ?_); (case vv => walk_at "tr"); (case ww => walk_at "ix"))
  | with_reducible refine w_gSub ?_
  | ((with_reducible refine' w_setL ?vv ?ww ?_); (case vv => walk_at "tr"); (case ww => first | rfl | decide | assumption))
  | ((with_reducible refine' w_lenL ?vv ?_); (case vv => walk_at "tr"))
  | ((with_reducible refine' w_lenT ?vv ?_); (case vv => walk_at "tr"))
  | with_reducible refine w_max2 ?_
  | with_reducible refine w_max3 ?_
  | with_reducible refine w_din ?_
  | with_reducible refine w_dnotin ?_
  | with_reducible refine w_dput ?_
  | with_reducible refine w_min2 ?_
  | with_reducible refine w_bm ?_
  | with_reducible refine w_bm0 ?_
  | ((with_reducible refine' w_tyL ?vv ?_); (case vv => walk_at "tr"))
  | ((with_reducible refine' w_append ?vv ?ww ?_); (case vv => walk_at "tr"); (case ww => walk_at "size"))
  | ((with_reducible refine' w_size ?vv ?_); (case vv => walk_at "size"))
  | with_reducible refine w_forL ?_
  | with_reducible refine w_forT ?_
  | with_reducible refine w_forR1 ?_
  | with_reducible refine w_forR2 ?_
  | with_reducible refine w_lcL ?_
  | with_reducible refine w_lcT ?_
  | with_reducible refine w_lcR1 ?_
  | with_reducible refine w_yes ?_
  | with_reducible refine w_sl ?_
  | with_reducible refine w_noPart ?_
  | with_reducible refine w_part ?_
  | with_reducible refine w_int ?_
  | ((with_reducible refine' w_slL ?vv ?_); (case vv => walk_at "tr"))
  | ((with_reducible refine' w_seqL ?vv ?ww ?_); (case vv => walk_at "tr"); (case ww => rfl))
  | ((with_reducible refine' w_seqT ?vv ?ww ?_); (case vv => walk_at "tr"); (case ww => rfl))
  | with_reducible refine w_gNil ?_
  | with_reducible refine w_gCons ?_
  | with_reducible refine w_forZ ?_
  | with_reducible refine w_forM ?_
  | with_reducible refine w_forE ?_
  | with_reducible refine w_forV ?_
  | with_reducible refine w_lcZ ?_
  | with_reducible refine w_lcE ?_
  | ((with_reducible refine' w_isi (b := true) ?vv ?ww ?_); (case vv => walk_at "ty"); (case ww => decide +kernel))
  | ((with_reducible refine' w_isi (b := false) ?vv ?ww ?_); (case vv => walk_at "ty"); (case ww => decide +kernel))
  | with_reducible refine w_revL ?_
  | with_reducible refine w_pairN ?_
  | with_reducible refine w_pairC ?_
  | with_reducible refine w_dget ?_
  | with_reducible refine w_met ?_
  | ((with_reducible refine' w_metAt ?vv ?ww ?_); (case vv => walk_at "tr"); (case ww => rfl))
  | with_reducible refine w_mkI ?_
  | with_reducible refine w_fld ?_
  | ((with_reducible refine' w_fldAt ?vv ?cc ?nn ?ww ?_); (case vv => walk_at "tr"); (case cc => walk_at "cls"); (case nn => walk_at "na"); (case ww => rfl))
  | with_reducible refine w_sfld ?_
  | ((with_reducible refine' w_sfldAt ?vv ?cc ?nn ?ll ?ee ?_); (case vv => walk_at "tr"); (case cc => walk_at "cls"); (case nn => walk_at "na"); (case ll => simp); (case ee => rfl))
  | ((with_reducible refine' w_tupL ?vv ?_); (case vv => walk_at "tr"))
  | ((with_reducible refine' w_tupT ?vv ?_); (case vv => walk_at "tr"))
  | ((with_reducible refine' w_listL ?vv ?_); (case vv => walk_at "tr"))
  | ((with_reducible refine' w_listT ?vv ?_); (case vv => walk_at "tr"))
  | with_reducible refine w_tyS ?_
  | with_reducible refine w_lcZM ?_
  | with_reducible refine w_js ?_
  | with_reducible refine w_jsN ?_
  | ((with_reducible refine' w_jsP ?vv ?_); (case vv => walk_at "size"))
  | with_reducible refine w_fmt ?_
  | with_reducible refine w_forRR ?_
  | with_reducible refine w_retN ?_
  | with_reducible refine w_break ?_
  | with_reducible refine w_cont ?_)
local macro_rules | `(tactic| walk_at "w") => `(tactic| first
  | walk_at "v"
  | with_reducible refine w_or ?_
  | with_reducible refine w_and ?_
  | with_reducible refine w_andV ?_
  | with_reducible refine w_orV ?_)
local macro_rules | `(tactic| walk_at "wd") => `(tactic| first
  | walk_at "w"
  | ((with_reducible refine' w_decT ?vv ?_); (case vv => decide +kernel))
  | ((with_reducible refine' w_decF ?vv ?_); (case vv => decide +kernel)))
local macro_rules | `(tactic| walk_at "tz") => `(tactic| (intro S z; (repeat walk_at "w"); exact z))
local macro_rules | `(tactic| walk_at "wf") => `(tactic| first
  | walk_at "wd"
  | ((with_reducible refine' w_decF ?vv ?_); (case vv => with_reducible assumption)))
/-! ### codes: is_code -/
open SX
def Sq (K : PySem.W.Frag) (H : Hp) (a : Addr) (xs : List V) : Prop := H a = some (.lst xs) ∨ SqT K H a xs
section
variable {K : PySem.W.Frag} {H H' : Hp} {Q : VK} {a : Addr} {xs : List V}
theorem Sq.sm (h : Sq K H a xs) (e : Same H H') : Sq K H' a xs := h.imp (fun h => e _ _ h) fun h => e.sqT h
theorem Sq.lt (h : Sq K H a xs) : SqL K H a xs ∨ SqT K H a xs := h.imp SqL.of id
theorem w_lenQ (h : Sq K H a xs) (k : Q (.int xs.length) H) : rLenA K [.ref a] H Q := h.elim (fun h => w_lenL (SqL.of h) k) fun h => w_lenT h k
theorem w_ixQ {n : Int} {v : V} (h : Sq K H a xs) (ha : atI xs n = some v) (k : Q v H) : rIx K (.ref a) (.int n) H Q := h.elim (fun h => w_ixL (SqL.of h) ha k) fun h => w_ixT h ha k
theorem w_isQ {tp : Addr} (h : Sq K H a xs) (ht : H tp = some (.tup [.ty "list", .ty "tuple"])) (k : Q (.bl true) H) : rIsiT K [.ref a, .ref tp] H Q :=
  h.elim (fun h => w_isiT ["list", "tuple"] ht (ty_lst h) (by decide +kernel) k) fun h => w_isiT ["list", "tuple"] ht (ty_sqT h) (by decide +kernel) k
/-- isinstance(v, (list, tuple)) of what is neither -/
theorem w_isNo {v : V} {tp : Addr} (h : NoSq H v) (ht : H tp = some (.tup [.ty "list", .ty "tuple"])) (k : Q (.bl false) H) : rIsiT K [v, .ref tp] H Q := by
  cases h with
  | non => exact w_isiT ["list", "tuple"] ht ty_non (by decide +kernel) k
  | bl b => exact w_isiT ["list", "tuple"] ht ty_bl (by decide +kernel) k
  | int i => exact w_isiT ["list", "tuple"] ht ty_int (by decide +kernel) k
  | str l hl => exact w_isiT ["list", "tuple"] ht ty_str (by decide +kernel) k
  | dic h => exact w_isiT ["list", "tuple"] ht (ty_dic h) (by decide +kernel) k
end
inductive CodeAt' (K : PySem.W.Frag) (H : Hp) : V → Option Its → Prop
  | no {v : V} (h : NoSq H v) : CodeAt' K H v none
  | sq {a : Addr} {its : Its} (h : Sq K H a (its.map itV)) (hl : its.length ≤ 100) (hw : ∀ w, some w ∈ its → w.length ≤ 1000) : CodeAt' K H (.ref a) (some its)
theorem CodeAt.q {K : PySem.W.Frag} {H : Hp} {v : V} {o : Option Its} (h : CodeAt K H v o) : CodeAt' K H v o := by
  cases h with
  | no h => exact .no h
  | lst h a b => exact .sq (.inl h) a b
  | tup h a b => exact .sq (.inr h) a b
theorem itAny {K : PySem.W.Frag} {H : Hp} {o : Option (List Nat)} (h : ∀ w, o = some w → w.length ≤ 1000) : AnyAt K H (itV o) := by
  cases o with
  | none => exact .non
  | some w => exact .str w (h w rfl)
def PairsD (ws : List (List Nat)) (i j : Nat) : Prop := ∃ a b, (a < i ∨ (a = i ∧ b < j)) ∧ a < ws.length ∧ b < ws.length ∧ a ≠ b ∧ ws.getD a [] <+: ws.getD b []
theorem pairsD_step {ws : List (List Nat)} {i j : Nat} : PairsD ws i (j + 1) ↔ PairsD ws i j ∨ (i < ws.length ∧ j < ws.length ∧ i ≠ j ∧ ws.getD i [] <+: ws.getD j []) := by
  constructor
  · rintro ⟨a, b, h, r⟩
    by_cases c : a = i ∧ b = j
    · obtain ⟨rfl, rfl⟩ := c
      exact .inr r
    · exact .inl ⟨a, b, by omega, r⟩
  · rintro (⟨a, b, h, r⟩ | h)
    · exact ⟨a, b, by omega, r⟩
    · exact ⟨i, j, by omega, h⟩
theorem pairsD_row {ws : List (List Nat)} {i : Nat} : PairsD ws i ws.length ↔ PairsD ws (i + 1) 0 := by
  constructor
  · rintro ⟨a, b, h, r⟩; exact ⟨a, b, by omega, r⟩
  · rintro ⟨a, b, h, h1, h2, r⟩; exact ⟨a, b, by omega, h1, h2, r⟩
theorem pairsD_all {ws : List (List Nat)} : PairsD ws ws.length 0 ↔ ¬ NoPre ws := by
  constructor
  · rintro ⟨a, b, _, h1, h2, h3, h4⟩ n
    exact n a b h1 h2 h3 h4
  · intro n
    refine Classical.byContradiction fun z => n fun a b h1 h2 h3 h4 => z ⟨a, b, .inl h1, h1, h2, h3, h4⟩
section
variable {P : Program} {w : World} {K : PySem.W.Frag} {mg : Str → Option Value}
theorem ok_is_code [c : Facts K mg] (G_is_bits : XL.Fn P w K mg "is_bits" 1 ["thing"] ((spBits K))) : XL.Fn P w K mg "is_code" 2 ["value"] ((spIsCode K)) := by
  obtain ⟨fd, F⟩ := c.d_is_code
  refine XL.Fn.mk' F c.g_is_code sc_is_code (k := 1) (fun vs H Q E h => ?_) (fun _ _ _ _ _ _ us hl => match us, hl with | [_], _ => rfl) (fun base cdv A outer s H vs Q E hr h => ?_)
  · exact len_is_code h
  · have nd := sc_is_code.nd
    have hu := hu_of hr.r
    have hr_is_bits : XL.Rm 1 _ := hr.mono (by omega)
    refine ⟨_, (PSs.nox (pss_cons (ps_if (PW.pt (pw_or (pt_not (pt_val (pe_callB (call_isiTA (K := K) rfl) (by rfl) c.f_isinstance boot_isinstance (pa_cons (pv 0) (pa_cons (pe_tup (pa_cons (pe_bltn (v := .ty "list") (by rfl) c.f_list boot_list rfl) (pa_cons (pe_bltn (v := .ty "tuple") (by rfl) c.f_tuple boot_tuple rfl) pa_nil))) pa_nil))))) (pw_or1 (pt_not (pt_chain op_le op_le pe_int (pe_callB (call_lenA (K := K) rfl) (by rfl) c.f_len boot_len (pa_cons (pv 0) pa_nil)) (pe_gI (by rfl) c.g_MOST_ITEMS)))))) (pss_one (ps_ret pe_bl)) pss_nil)
      (pss_cons (ps_if (pt_not (pt_val (pe_callB (cr_all rfl) (by rfl) c.f_all boot_all (pa_cons (pe_lc (own := [("word", 2)]) rfl nd (NDX.PI.or (pi_list (pv 0)) (pi_tup (pv 0))) (blkOk_by (N := N_is_code) (sc := defScope s_is_code) (by decide +kernel)) (fun _ _ _ _ _ => (pg_name (i := 2) nd rfl (Or.inl rfl))) (fun _ _ _ _ _ => pts_nil) (fun _ _ _ _ _ => (pe_and (XL.pe_fn G_is_bits hr_is_bits (by rfl) (pa_cons (pv 2) pa_nil)) (pe_one (pe_cmpR op_le (pe_callB (call_lenA (K := K) rfl) (by rfl) c.f_len boot_len (pa_cons (pv 2) pa_nil)) (pe_gI (by rfl) c.g_MOST_LENGTH) (nomark _)))))) pa_nil)))) (pss_one (ps_ret pe_bl)) pss_nil)
      (pss_cons (ps_set (i := 1) nd rfl (Or.inr rfl) (pe_callTy call_rng1 (by rfl) c.f_range boot_range (pa_cons (pe_callB (call_lenA (K := K) rfl) (by rfl) c.f_len boot_len (pa_cons (pv 0) pa_nil)) pa_nil)))
      (pss_one (ps_ret (pe_not (pe_callB (cr_any rfl) (by rfl) c.f_any boot_any (pa_cons (pe_lc2 (own := [("one", 3), ("other", 4)]) (vs1 := [4]) rfl nd (pi_rngV (pv 1)) (blkOk_by (N := N_is_code) (sc := defScope s_is_code) (by decide +kernel)) (by decide) (fun _ _ _ _ _ => (pg_name (i := 3) nd rfl (Or.inl rfl))) (fun _ _ _ _ _ => pts_nil) (fun _ _ _ _ _ => (pi_rngV (pv 1))) (fun _ _ _ _ _ => (pg_name (i := 4) nd rfl (Or.inl rfl))) (fun _ _ _ _ _ => pts_one (pt_cmpR (op_neA (K := K) rfl hr.units) (pv 3) (pv 4) (nomark _))) (fun _ _ _ _ _ => (pe_bmA (K := K) rfl PySem.F.plainAttrs_str PySem.F.slot_str_startswith PySem.F.type_str_startswith mt_startswithA (pe_ix (ix_any (K := K) rfl) (pv 0) (pv 4) (fun _ _ => rfl)) (pa_cons (pe_ix (ix_any (K := K) rfl) (pv 0) (pv 3) (fun _ _ => rfl)) pa_nil)))) pa_nil))))))))), ?_⟩
    try dsimp only [cxOf, Cx.nox, Cx.wish]
    obtain ⟨v, o, rfl, hv, q⟩ := h
    have hz : sizeLine = 16777216 := sizeLine_eq
    cases hv.q with
    | no h =>
      repeat walk_at "w"
      refine w_new fun tp H1 n1 s1 f1 => ?_
      repeat walk_at "w"
      refine w_isNo (h.sm s1) f1 ?_
      repeat walk_at "w"
      exact q H1 s1
    | @sq a its hs hl hw =>
      repeat walk_at "w"
      refine w_new fun tp H1 n1 s1 f1 => ?_
      have hs1 := hs.sm s1
      repeat walk_at "w"
      refine w_isQ hs1 f1 ?_
      repeat walk_at "w"
      refine w_lenQ hs1 ?_
      have hll : (its.map itV).length = its.length := List.length_map _
      rw [hll]
      repeat walk_at "w"
      by_cases c1 : 1 ≤ its.length
      · rw [decide_eq_true (show (1 : Int) ≤ its.length by omega)]
        repeat walk_at "w"
        by_cases c2 : its.length ≤ 40
        · rw [decide_eq_true (show (its.length : Int) ≤ 40 by omega)]
          repeat walk_at "w"
          refine NDX.w_lcLT (its.map itV) (fun R r => by walk_at "w"; exact r) (fun D j ys H' => Same H1 H' ∧ ys = ((its.take j).map okW).map V.bl) hs1.lt (fun D H' hD e f => ⟨e, rfl⟩) (fun D j ys H' h => h.1) (fun D hD j x ys H' hx hll2 hy hp => ?_) (fun D hD ys H' hll2 hy hp => ?_)
          · obtain ⟨e, rfl⟩ := hp
            rw [List.getElem?_map] at hx
            obtain ⟨o, ho, rfl⟩ := Option.map_eq_some_iff.mp hx
            have hjl := (List.getElem?_eq_some_iff.mp ho).1
            have hom := List.mem_of_getElem? ho
            repeat walk_at "w"
            refine ⟨itV o, rfl, itAny fun w e => hw w (e ▸ hom), fun H2 s2 => ?_⟩
            have hy2 := s2 _ _ hy
            have fin : ∀ {H3 : Hp}, Same H2 H3 → LcEnd D (fun j ys H' => Same H1 H' ∧ ys = ((its.take j).map okW).map V.bl) j (.bl (okW o)) H3 := fun s3 =>
              lc_end (s3 _ _ hy2) hll2 (by rw [hz, List.length_map, List.length_map, List.length_take]; omega) fun H5 e5 f5 => ⟨But.new (e.trans (s2.trans s3)) hD e5, by rw [all_take ho, List.map_append]; rfl⟩
            refine ⟨_, rfl, ?_⟩
            cases o with
            | none => exact iteF (fin (Same.refl _))
            | some w =>
              have hb : bitsV (itV (some w)) = bitsL w := rfl
              rw [hb]
              cases hbw : bitsL w with
              | false =>
                refine iteF ?_
                have : okW (some w) = false := by show (bitsL w && _) = false; rw [hbw]; rfl
                rw [← this]; exact fin (Same.refl _)
              | true =>
                refine iteT ?_
                repeat walk_at "w"
                refine w_lenC (by have := hw w hom; rw [hz]; omega) ?_
                repeat walk_at "w"
                have : okW (some w) = decide ((w.length : Int) ≤ 60) := by show (bitsL w && decide (w.length ≤ 60)) = _; rw [hbw, Bool.true_and, decide_eq_decide]; omega
                rw [← this]; exact fin (Same.refl _)
          · obtain ⟨e, rfl⟩ := hp
            rw [hll, show its.take its.length = its from List.take_length] at hy
            have hs2 := hs1.sm e
            repeat walk_at "w"
            refine w_allL (SqL.of hy) ?_
            rw [List.all_map]
            refine ⟨_, rfl, ?_⟩
            show if (!(its.all okW)) = true then _ else _
            cases hok : its.all okW with
            | false =>
              repeat walk_at "w"
              rw [code_false (its := its) fun z => by rw [List.all_eq_true.mpr z.2.1] at hok; cases hok] at q
              exact q H' (s1.trans e)
            | true =>
              have okAll := List.all_eq_true.mp hok
              repeat walk_at "w"
              refine w_lenQ hs2 ?_
              rw [hll]
              refine w_rng1 ?_
              refine w_new fun R H3 n3 s3 f3 => ?_
              have hs3 := hs2.sm s3
              have wlen : (its.map wOf).length = its.length := List.length_map _
              repeat walk_at "w"
              refine w_lc2R (a := R) (n := its.length) (fun i j ys _ => ∃ bs : List Bool, ys = bs.map V.bl ∧ (true ∈ bs ↔ PairsD (its.map wOf) i j)) (fun H' => Same H3 H') (Same.refl _) (by omega) (fun H' sm => sm _ _ f3) (fun R r => by walk_at "w"; exact r) (fun x H R r => by walk_at "w"; exact r) (fun x => by rfl) (fun x y => by rfl) (fun D H H' _ a b => a.trans b)
                (fun D H' hD e f => ⟨[], rfl, by simp [PairsD]⟩) (fun D hD i j ys H' hi hj sm hy hyl hp => ?_) (fun i ys H' hi hp => ?_) (fun D hD ys H' hy sm hp => ?_)
              · obtain ⟨bs, rfl, hb⟩ := hp
                have hs4 := hs3.sm sm
                have oki := okAll its[i] (List.getElem_mem hi)
                have okj := okAll its[j] (List.getElem_mem hj)
                obtain ⟨wi, ei⟩ : ∃ wi, its[i] = some wi := by
                  cases h : its[i] with
                  | none => rw [h] at oki; cases oki
                  | some w => exact ⟨w, rfl⟩
                obtain ⟨wj, ej⟩ : ∃ wj, its[j] = some wj := by
                  cases h : its[j] with
                  | none => rw [h] at okj; cases okj
                  | some w => exact ⟨w, rfl⟩
                have gi : (its.map wOf).getD i [] = wi := by rw [List.getD_eq_getElem?_getD, List.getElem?_map, List.getElem?_eq_getElem hi, ei]; rfl
                have gj : (its.map wOf).getD j [] = wj := by rw [List.getD_eq_getElem?_getD, List.getElem?_map, List.getElem?_eq_getElem hj, ej]; rfl
                have vi : (its.map itV)[i]? = some (.str (S wi)) := by rw [List.getElem?_map, List.getElem?_eq_getElem hi, ei]; rfl
                have vj : (its.map itV)[j]? = some (.str (S wj)) := by rw [List.getElem?_map, List.getElem?_eq_getElem hj, ej]; rfl
                have lenb : bs.length < 16777216 := by
                  rw [List.length_map] at hyl
                  have h1 : i * its.length ≤ 40 * 40 := Nat.mul_le_mul (by omega) c2
                  omega
                repeat walk_at "w"
                by_cases cij : i = j
                · subst cij
                  rw [decide_eq_true rfl]
                  refine iteF ?_
                  refine l2_skip hy hyl sm ⟨bs, rfl, hb.trans ?_⟩
                  rw [pairsD_step]
                  exact ⟨.inl, fun z => z.elim id fun z => (z.2.2.1 rfl).elim⟩
                · rw [decide_eq_false (show ¬ (i : Int) = (j : Int) by omega)]
                  refine iteT ?_
                  repeat walk_at "w"
                  refine w_ixQ hs4 (atI_of (by omega) (by rw [Int.toNat_natCast]; exact vj)) ?_
                  repeat walk_at "w"
                  refine w_ixQ hs4 (atI_of (by omega) (by rw [Int.toNat_natCast]; exact vi)) ?_
                  repeat walk_at "w"
                  refine w_swC ?_
                  refine l2_end hy hyl (by rw [hz, List.length_map]; exact lenb) hD sm fun H5 e5 f5 => ⟨bs ++ [preL wi wj], by rw [List.map_append]; rfl, ?_⟩
                  rw [pairsD_step, List.mem_append, hb, gi, gj]
                  refine or_congr_right ?_
                  rw [List.mem_singleton, eq_comm, preL_iff]
                  exact ⟨fun z => ⟨by omega, by omega, cij, z⟩, fun z => z.2.2.2⟩
              · obtain ⟨bs, rfl, hb⟩ := hp
                exact ⟨bs, rfl, hb.trans (by rw [← wlen]; exact pairsD_row)⟩
              · obtain ⟨bs, rfl, hb⟩ := hp
                repeat walk_at "w"
                refine w_anyL (SqL.of hy) ?_
                refine ⟨_, rfl, ?_⟩
                have e2 : isCodeO (some its) = !(bs.any id) := by
                  rw [Bool.eq_iff_iff, code_iff]
                  have : (!(bs.any id)) = true ↔ ¬ true ∈ bs := by simp
                  rw [this, hb, ← wlen, pairsD_all]
                  constructor
                  · intro z n; exact n z.2.2
                  · intro z; exact ⟨⟨c1, c2⟩, okAll, Classical.byContradiction z⟩
                rw [← e2]
                exact q _ (s1.trans (e.trans (s3.trans sm)))
        · rw [decide_eq_false (show ¬ (its.length : Int) ≤ 40 by omega)]
          repeat walk_at "w"
          rw [code_false (its := its) fun z => c2 z.1.2] at q
          exact q H1 s1
      · rw [decide_eq_false (show ¬ (1 : Int) ≤ its.length by omega)]
        repeat walk_at "w"
        rw [code_false (its := its) fun z => c1 z.1.1] at q
        exact q H1 s1
end

end J
namespace J
open PySem PySem.Spec PyProof.Rows L2

local macro_rules | `(tactic| walk_at "ty") => `(tactic| first
  | with_reducible exact ty_int
  | with_reducible exact ty_bl
  | with_reducible exact ty_str
  | with_reducible exact ty_non
  | ((with_reducible refine' ty_lst ?vv); (case vv => walk_at "tr"))
  | ((with_reducible refine' ty_sqT ?vv); (case vv => walk_at "tr"))
  | ((with_reducible refine' ty_dic ?vv); (case vv => walk_at "tr")))
local macro_rules | `(tactic| walk_at "ix") => `(tactic| first | exact at0 | exact at1 | exact at2 | assumption)
local macro_rules | `(tactic| walk_at "size") => `(tactic| first
  | assumption
  | (show _ < sizeLine; rw [sizeLine_eq]; (try simp only [List.length_cons, List.length_nil, List.length_append, List.length_map]); omega)
  | (show _ ≤ sizeLine; rw [sizeLine_eq]; (try simp only [List.length_cons, List.length_nil, List.length_append, List.length_map]); omega))
local macro_rules | `(tactic| walk_at "side") => `(tactic| first
  | assumption
  | ((with_reducible refine cdw ?_ ?_) <;> omega)
  | omega
  | (exact ⟨by omega, by omega⟩)
  | (exact Or.inl ⟨by omega, by omega⟩)
  | (exact Or.inr ⟨by omega, by omega⟩)
  | decide
  | (simp only [List.length_cons, List.length_nil, List.length_append, List.length_map]; omega)
  | (show _ ≤ _; decide))
local macro_rules | `(tactic| walk_at "as") => `(tactic| with_reducible assumption)
local macro_rules | `(tactic| walk_at "tr") => `(tactic| first
  | with_reducible assumption
  | with_reducible exact upd_same
  | ((with_reducible refine' SqL.of ?hh); (case hh => walk_at "as"))
  | ((with_reducible refine' SqT.of ?hh); (case hh => walk_at "as"))
  | ((with_reducible refine' Same.stm ?ee ?gg); (case ee => walk_at "as"); (case gg => walk_at "tr"))
  | ((with_reducible refine' Same.sqT ?ee ?gg); (case ee => walk_at "as"); (case gg => walk_at "tr"))
  | ((with_reducible refine' Same.sqL ?ee ?gg); (case ee => walk_at "as"); (case gg => walk_at "tr"))
  | ((with_reducible refine' Same.at ?ee ?gg); (case ee => walk_at "as"); (case gg => walk_at "tr"))
  | ((with_reducible refine' But.stm ?ee ?ff ?gg); (case ee => walk_at "as"); (case ff => walk_at "ne"); (case gg => walk_at "tr"))
  | ((with_reducible refine' But.tup ?ee ?ff ?gg); (case ee => walk_at "as"); (case ff => walk_at "tr1"); (case gg => walk_at "tr"))
  | ((with_reducible refine' But.sqT ?ee ?ff ?gg); (case ee => walk_at "as"); (case ff => walk_at "tr1"); (case gg => walk_at "tr"))
  | ((with_reducible refine' But.tupL ?ee ?ff ?gg); (case ee => walk_at "as"); (case ff => walk_at "tr1"); (case gg => walk_at "tr"))
  | ((with_reducible refine' But.sqTL ?ee ?ff ?gg); (case ee => walk_at "as"); (case ff => walk_at "tr1"); (case gg => walk_at "tr"))
  | ((with_reducible refine' But.sqL ?ee ?ff ?gg); (case ee => walk_at "as"); (case ff => walk_at "ne"); (case gg => walk_at "tr"))
  | ((with_reducible refine' But.at ?ee ?ff ?gg); (case ee => walk_at "as"); (case ff => walk_at "ne"); (case gg => walk_at "tr")))
local macro_rules | `(tactic| walk_at "ts") => `(tactic| first
  | with_reducible assumption
  | with_reducible exact TS.refl _
  | ((with_reducible refine' TS.trans ?gg (TS.of ?ee)); (case ee => walk_at "as"); (case gg => walk_at "ts"))
  | ((with_reducible refine' TS.trans ?gg (TS.butS ?ee ?ff)); (case ee => walk_at "as"); (case ff => walk_at "tr1"); (case gg => walk_at "ts"))
  | ((with_reducible refine' TS.trans ?gg (TS.butL ?ee ?ff)); (case ee => walk_at "as"); (case ff => walk_at "tr1"); (case gg => walk_at "ts"))
  | ((with_reducible refine' TS.trans ?gg (TS.butI ?ee ?ff)); (case ee => walk_at "as"); (case ff => walk_at "tr1"); (case gg => walk_at "ts")))
local macro_rules | `(tactic| walk_at "sm") => `(tactic| first
  | with_reducible assumption
  | with_reducible exact Same.refl _
  | ((with_reducible refine' Same.trans ?gg ?ee); (case ee => walk_at "as"); (case gg => walk_at "sm"))
  | ((with_reducible refine' But.new ?gg ?nn ?ee); (case ee => walk_at "as"); (case nn => walk_at "fr"); (case gg => walk_at "sm")))
local macro_rules | `(tactic| walk_at "fr") => `(tactic| first
  | with_reducible assumption
  | ((with_reducible refine' Same.back ?ee ?nn); (case nn => walk_at "as"); (case ee => walk_at "sm"))
  | ((with_reducible refine' But.back ?ee ?ff ?nn); (case nn => walk_at "as"); (case ff => walk_at "ne0"); (case ee => walk_at "bu")))
local macro_rules | `(tactic| walk_at "bu") => `(tactic| first
  | with_reducible assumption
  | with_reducible exact But.refl _ _
  | ((with_reducible refine' But.trans ?gg ?ee); (case ee => walk_at "as"); (case gg => walk_at "bu"))
  | ((with_reducible refine' But.trans ?gg (But.of ?ee)); (case ee => walk_at "as"); (case gg => walk_at "bu"))
  | ((with_reducible refine' But.new2 ?gg ?nn ?ee); (case ee => walk_at "as"); (case nn => walk_at "frB"); (case gg => walk_at "bu")))
local macro_rules | `(tactic| walk_at "frB") => `(tactic| first
  | with_reducible assumption
  | ((with_reducible refine' Same.back ?ee ?nn); (case nn => walk_at "as"); (case ee => walk_at "sm"))
  | ((with_reducible refine' But.back' ?ee ?ff ?nn); (case nn => walk_at "as"); (case ee => walk_at "bu"); (case ff => walk_at "tr1")))
local macro_rules | `(tactic| walk_at "tr1") => `(tactic| first
  | with_reducible assumption
  | ((with_reducible refine' Same.stm ?ee ?gg); (case ee => walk_at "as"); (case gg => walk_at "tr1"))
  | ((with_reducible refine' Same.at ?ee ?gg); (case ee => walk_at "as"); (case gg => walk_at "tr1"))
  | ((with_reducible refine' But.at ?ee ?ff ?gg); (case ee => walk_at "as"); (case ff => walk_at "ne0"); (case gg => walk_at "tr1"))
  | ((with_reducible refine' But.stm ?ee ?ff ?gg); (case ee => walk_at "as"); (case ff => walk_at "ne0"); (case gg => walk_at "tr1")))
local macro_rules | `(tactic| walk_at "ne0") => `(tactic| first
  | with_reducible assumption
  | (with_reducible apply Ne.symm; with_reducible assumption))
local macro_rules | `(tactic| walk_at "ne") => `(tactic| first
  | with_reducible assumption
  | (with_reducible apply Ne.symm; with_reducible assumption)
  | ((with_reducible refine' stm_ne ?hh ?nn); (case nn => walk_at "as"); (case hh => walk_at "tr1"))
  | ((with_reducible refine' ne_of_none ?hh ?nn); (case nn => walk_at "as"); (case hh => walk_at "tr1"))
  | ((with_reducible apply Ne.symm); (with_reducible refine' ne_of_none ?hh ?nn); (case nn => walk_at "as"); (case hh => walk_at "tr1")))
local macro_rules | `(tactic| walk_at "v") => `(tactic| first
  | with_reducible refine w_seq ?_
  | ((with_reducible refine' w_var ?vv ?_); (case vv => exact rfl))
  | with_reducible refine w_c ?_
  | with_reducible refine w_op ?_
  | with_reducible refine w_asg ?_
  | with_reducible refine w_gName ?_
  | with_reducible refine w_ret ?_
  | with_reducible refine w_ifS ?_
  | with_reducible refine w_drop ?_
  | with_reducible refine w_next ?_
  | with_reducible refine w_cons ?_
  | with_reducible refine w_nil ?_
  | with_reducible refine w_call ?_
  | with_reducible refine w_cb ?_
  | with_reducible refine w_rI0 ?_
  | with_reducible refine w_addI ?_
  | with_reducible refine w_eqI ?_
  | with_reducible refine w_neI ?_
  | with_reducible refine w_eqS ?_
  | with_reducible refine w_neS ?_
  | with_reducible refine w_eqB ?_
  | with_reducible refine w_neB ?_
  | with_reducible refine w_chain ?_
  | with_reducible refine w_test ?_
  | with_reducible refine w_tB ?_
  | with_reducible refine w_bl ?_
  | ((with_reducible refine' w_mulI ?vv ?_); (case vv => walk_at "side"))
  | ((with_reducible refine' w_rI ?vv ?_); (case vv => walk_at "side"))
  | with_reducible refine w_int1 ?_
  | with_reducible refine w_int1b ?_
  | with_reducible refine w_tup ?_
  | with_reducible refine w_lst ?_
  | with_reducible refine w_un ?_
  | with_reducible refine w_rU ?_
  | with_reducible refine w_not ?_
  | with_reducible refine w_notV ?_
  | with_reducible refine w_ifE ?_
  | with_reducible refine w_nT ?_
  | with_reducible refine w_nF ?_
  | with_reducible refine iteT ?_
  | with_reducible refine iteF ?_
  | ((with_reducible refine' w_ixT ?vv ?ww ?_); (case vv => walk_at "tr"); (case ww => walk_at "ix"))
  | ((with_reducible refine' w_ixL ?vv ?ww ?_); (case vv => walk_at "tr"); (case ww => walk_at "ix"))
  | with_reducible refine w_gSub ?_
  | ((with_reducible refine' w_setL ?vv ?ww ?_); (case vv => walk_at "tr"); (case ww => first | rfl | decide | assumption))
  | ((with_reducible refine' w_lenL ?vv ?_); (case vv => walk_at "tr"))
  | ((with_reducible refine' w_lenT ?vv ?_); (case vv => walk_at "tr"))
  | with_reducible refine w_max2 ?_
  | with_reducible refine w_max3 ?_
  | with_reducible refine w_din ?_
  | with_reducible refine w_dnotin ?_
  | with_reducible refine w_dput ?_
  | with_reducible refine w_min2 ?_
  | with_reducible refine w_bm ?_
  | with_reducible refine w_bm0 ?_
  | ((with_reducible refine' w_tyL ?vv ?_); (case vv => walk_at "tr"))
  | ((with_reducible refine' w_append ?vv ?ww ?_); (case vv => walk_at "tr"); (case ww => walk_at "size"))
  | ((with_reducible refine' w_size ?vv ?_); (case vv => walk_at "size"))
  | with_reducible refine w_forL ?_
  | with_reducible refine w_forT ?_
  | with_reducible refine w_forR1 ?_
  | with_reducible refine w_forR2 ?_
  | with_reducible refine w_lcL ?_
  | with_reducible refine w_lcT ?_
  | with_reducible refine w_lcR1 ?_
  | with_reducible refine w_yes ?_
  | with_reducible refine w_sl ?_
  | with_reducible refine w_noPart ?_
  | with_reducible refine w_part ?_
  | with_reducible refine w_int ?_
  | ((with_reducible refine' w_slL ?vv ?_); (case vv => walk_at "tr"))
  | ((with_reducible refine' w_seqL ?vv ?ww ?_); (case vv => walk_at "tr"); (case ww => rfl))
  | ((with_reducible refine' w_seqT ?vv ?ww ?_); (case vv => walk_at "tr"); (case ww => rfl))
  | with_reducible refine w_gNil ?_
  | with_reducible refine w_gCons ?_
  | with_reducible refine w_forZ ?_
  | with_reducible refine w_forM ?_
  | with_reducible refine w_forE ?_
  | with_reducible refine w_forV ?_
  | with_reducible refine w_lcZ ?_
  | with_reducible refine w_lcE ?_
  | ((with_reducible refine' w_isi (b := true) ?vv ?ww ?_); (case vv => walk_at "ty"); (case ww => decide +kernel))
  | ((with_reducible refine' w_isi (b := false) ?vv ?ww ?_); (case vv => walk_at "ty"); (case ww => decide +kernel))
  | with_reducible refine w_revL ?_
  | with_reducible refine w_pairN ?_
  | with_reducible refine w_pairC ?_
  | with_reducible refine w_dget ?_
  | with_reducible refine w_met ?_
  | ((with_reducible refine' w_metAt ?vv ?ww ?_); (case vv => walk_at "tr"); (case ww => rfl))
  | with_reducible refine w_mkI ?_
  | with_reducible refine w_fld ?_
  | ((with_reducible refine' w_fldAt ?vv ?cc ?nn ?ww ?_); (case vv => walk_at "tr"); (case cc => walk_at "cls"); (case nn => walk_at "na"); (case ww => rfl))
  | with_reducible refine w_sfld ?_
  | ((with_reducible refine' w_sfldAt ?vv ?cc ?nn ?ll ?ee ?_); (case vv => walk_at "tr"); (case cc => walk_at "cls"); (case nn => walk_at "na"); (case ll => simp); (case ee => rfl))
  | ((with_reducible refine' w_tupL ?vv ?_); (case vv => walk_at "tr"))
  | ((with_reducible refine' w_tupT ?vv ?_); (case vv => walk_at "tr"))
  | ((with_reducible refine' w_listL ?vv ?_); (case vv => walk_at "tr"))
  | ((with_reducible refine' w_listT ?vv ?_); (case vv => walk_at "tr"))
  | with_reducible refine w_tyS ?_
  | with_reducible refine w_lcZM ?_
  | with_reducible refine w_js ?_
  | with_reducible refine w_jsN ?_
  | ((with_reducible refine' w_jsP ?vv ?_); (case vv => walk_at "size"))
  | with_reducible refine w_fmt ?_
  | with_reducible refine w_forRR ?_
  | with_reducible refine w_retN ?_
  | with_reducible refine w_break ?_
  | with_reducible refine w_cont ?_)
local macro_rules | `(tactic| walk_at "w") => `(tactic| first
  | walk_at "v"
  | with_reducible refine w_or ?_
  | with_reducible refine w_and ?_
  | with_reducible refine w_andV ?_
  | with_reducible refine w_orV ?_)
local macro_rules | `(tactic| walk_at "wd") => `(tactic| first
  | walk_at "w"
  | ((with_reducible refine' w_decT ?vv ?_); (case vv => decide +kernel))
  | ((with_reducible refine' w_decF ?vv ?_); (case vv => decide +kernel)))
local macro_rules | `(tactic| walk_at "tz") => `(tactic| (intro S z; (repeat walk_at "w"); exact z))
local macro_rules | `(tactic| walk_at "wf") => `(tactic| first
  | walk_at "wd"
  | ((with_reducible refine' w_decF ?vv ?_); (case vv => with_reducible assumption)))
/-! ### [e for k, x in enumerate(xs) if ..] -/
theorem lc_enum {K : PySem.W.Frag} {σ : L2.St} {H : Hp} {a : Addr} {xs : List V} {te : TE} {tt : TT} {Q : VK} {i0 j0 : Nat} (hij : i0 ≠ j0) (Pv : Addr → Nat → List V → Hp → Prop) (hx : SqL K H a xs) (h0 : ∀ D H', H D = none → Same H H' → H' D = some (.lst []) → Pv D 0 [] H')
    (hG : ∀ D, H D = none → ∀ i zs H', i ≤ xs.length → H' D = some (.lst zs) → Pv D i zs H' → SqL K H' a xs)
    (hs : ∀ D, H D = none → ∀ (i : Nat) x zs H0 H', xs[i]? = some x → zs.length ≤ i → H0 D = some (.lst zs) → Pv D i zs H0 → Same H0 H' → tt (((wipe σ [i0, j0]).set i0 (some (.int (i : Nat)))).set j0 (some x)) H' fun b H3 => if b = true then te (((wipe σ [i0, j0]).set i0 (some (.int (i : Nat)))).set j0 (some x)) H3 fun y H4 => LcEnd D (Pv D) i y H4 else LcSkip D (Pv D) i H3)
    (hd : ∀ D, H D = none → ∀ zs H', zs.length ≤ xs.length → H' D = some (.lst zs) → Pv D xs.length zs H' → Q (.ref D) H') :
    ∃ p us, [V.ref a] = [.ref p] ∧ SqL K H p us ∧ ∀ D, H D = none → WLc (Ite K p) (gSeq K 2 (gCons (gName i0) (gCons (gName j0) gNil))) tt te [i0, j0] σ D H Q :=
  ⟨a, xs, rfl, hx, wlc_it walk_enum Pv h0 hG (fun D hD i v zs H0 H' hi hl e p ⟨T, x, y, ev, nT, e2, h1, h2⟩ => by
    subst ev e2
    obtain rfl : V.int (i : Nat) = x := Option.some.inj h1
    exact w_seqT (SqT.of upd_same) rfl (w_gCons (w_gName (w_gCons (w_gName (w_gNil ⟨wipe2 _ _ _ _ _ hij, hs D hD i y zs H0 _ h2 hl e p (Same.one nT)⟩)))))) hd⟩

end J
namespace J
open PySem PySem.Spec PyProof.Rows L2

local macro_rules | `(tactic| walk_at "ty") => `(tactic| first
  | with_reducible exact ty_int
  | with_reducible exact ty_bl
  | with_reducible exact ty_str
  | with_reducible exact ty_non
  | ((with_reducible refine' ty_lst ?vv); (case vv => walk_at "tr"))
  | ((with_reducible refine' ty_sqT ?vv); (case vv => walk_at "tr"))
  | ((with_reducible refine' ty_dic ?vv); (case vv => walk_at "tr")))
local macro_rules | `(tactic| walk_at "ix") => `(tactic| first | exact at0 | exact at1 | exact at2 | assumption)
local macro_rules | `(tactic| walk_at "size") => `(tactic| first
  | assumption
  | (show _ < sizeLine; rw [sizeLine_eq]; (try simp only [List.length_cons, List.length_nil, List.length_append, List.length_map]); omega)
  | (show _ ≤ sizeLine; rw [sizeLine_eq]; (try simp only [List.length_cons, List.length_nil, List.length_append, List.length_map]); omega))
local macro_rules | `(tactic| walk_at "side") => `(tactic| first
  | assumption
  | ((with_reducible refine cdw ?_ ?_) <;> omega)
  | omega
  | (exact ⟨by omega, by omega⟩)
  | (exact Or.inl ⟨by omega, by omega⟩)
  | (exact Or.inr ⟨by omega, by omega⟩)
  | decide
  | (simp only [List.length_cons, List.length_nil, List.length_append, List.length_map]; omega)
  | (show _ ≤ _; decide))
local macro_rules | `(tactic| walk_at "as") => `(tactic| with_reducible assumption)
local macro_rules | `(tactic| walk_at "tr") => `(tactic| first
  | with_reducible assumption
  | with_reducible exact upd_same
  | ((with_reducible refine' SqL.of ?hh); (case hh => walk_at "as"))
  | ((with_reducible refine' SqT.of ?hh); (case hh => walk_at "as"))
  | ((with_reducible refine' Same.stm ?ee ?gg); (case ee => walk_at "as"); (case gg => walk_at "tr"))
  | ((with_reducible refine' Same.sqT ?ee ?gg); (case ee => walk_at "as"); (case gg => walk_at "tr"))
  | ((with_reducible refine' Same.sqL ?ee ?gg); (case ee => walk_at "as"); (case gg => walk_at "tr"))
  | ((with_reducible refine' Same.at ?ee ?gg); (case ee => walk_at "as"); (case gg => walk_at "tr"))
  | ((with_reducible refine' But.stm ?ee ?ff ?gg); (case ee => walk_at "as"); (case ff => walk_at "ne"); (case gg => walk_at "tr"))
  | ((with_reducible refine' But.tup ?ee ?ff ?gg); (case ee => walk_at "as"); (case ff => walk_at "tr1"); (case gg => walk_at "tr"))
  | ((with_reducible refine' But.sqT ?ee ?ff ?gg); (case ee => walk_at "as"); (case ff => walk_at "tr1"); (case gg => walk_at "tr"))
  | ((with_reducible refine' But.tupL ?ee ?ff ?gg); (case ee => walk_at "as"); (case ff => walk_at "tr1"); (case gg => walk_at "tr"))
  | ((with_reducible refine' But.sqTL ?ee ?ff ?gg); (case ee => walk_at "as"); (case ff => walk_at "tr1"); (case gg => walk_at "tr"))
  | ((with_reducible refine' But.sqL ?ee ?ff ?gg); (case ee => walk_at "as"); (case ff => walk_at "ne"); (case gg => walk_at "tr"))
  | ((with_reducible refine' But.at ?ee ?ff ?gg); (case ee => walk_at "as"); (case ff => walk_at "ne"); (case gg => walk_at "tr")))
local macro_rules | `(tactic| walk_at "ts") => `(tactic| first
  | with_reducible assumption
  | with_reducible exact TS.refl _
  | ((with_reducible refine' TS.trans ?gg (TS.of ?ee)); (case ee => walk_at "as"); (case gg => walk_at "ts"))
  | ((with_reducible refine' TS.trans ?gg (TS.butS ?ee ?ff)); (case ee => walk_at "as"); (case ff => walk_at "tr1"); (case gg => walk_at "ts"))
  | ((with_reducible refine' TS.trans ?gg (TS.butL ?ee ?ff)); (case ee => walk_at "as"); (case ff => walk_at "tr1"); (case gg => walk_at "ts"))
  | ((with_reducible refine' TS.trans ?gg (TS.butI ?ee ?ff)); (case ee => walk_at "as"); (case ff => walk_at "tr1"); (case gg => walk_at "ts")))
local macro_rules | `(tactic| walk_at "sm") => `(tactic| first
  | with_reducible assumption
  | with_reducible exact Same.refl _
  | ((with_reducible refine' Same.trans ?gg ?ee); (case ee => walk_at "as"); (case gg => walk_at "sm"))
  | ((with_reducible refine' But.new ?gg ?nn ?ee); (case ee => walk_at "as"); (case nn => walk_at "fr"); (case gg => walk_at "sm")))
local macro_rules | `(tactic| walk_at "fr") => `(tactic| first
  | with_reducible assumption
  | ((with_reducible refine' Same.back ?ee ?nn); (case nn => walk_at "as"); (case ee => walk_at "sm"))
  | ((with_reducible refine' But.back ?ee ?ff ?nn); (case nn => walk_at "as"); (case ff => walk_at "ne0"); (case ee => walk_at "bu")))
local macro_rules | `(tactic| walk_at "bu") => `(tactic| first
  | with_reducible assumption
  | with_reducible exact But.refl _ _
  | ((with_reducible refine' But.trans ?gg ?ee); (case ee => walk_at "as"); (case gg => walk_at "bu"))
  | ((with_reducible refine' But.trans ?gg (But.of ?ee)); (case ee => walk_at "as"); (case gg => walk_at "bu"))
  | ((with_reducible refine' But.new2 ?gg ?nn ?ee); (case ee => walk_at "as"); (case nn => walk_at "frB"); (case gg => walk_at "bu")))
local macro_rules | `(tactic| walk_at "frB") => `(tactic| first
  | with_reducible assumption
  | ((with_reducible refine' Same.back ?ee ?nn); (case nn => walk_at "as"); (case ee => walk_at "sm"))
  | ((with_reducible refine' But.back' ?ee ?ff ?nn); (case nn => walk_at "as"); (case ee => walk_at "bu"); (case ff => walk_at "tr1")))
local macro_rules | `(tactic| walk_at "tr1") => `(tactic| first
  | with_reducible assumption
  | ((with_reducible refine' Same.stm ?ee ?gg); (case ee => walk_at "as"); (case gg => walk_at "tr1"))
  | ((with_reducible refine' Same.at ?ee ?gg); (case ee => walk_at "as"); (case gg => walk_at "tr1"))
  | ((with_reducible refine' But.at ?ee ?ff ?gg); (case ee => walk_at "as"); (case ff => walk_at "ne0"); (case gg => walk_at "tr1"))
  | ((with_reducible refine' But.stm ?ee ?ff ?gg); (case ee => walk_at "as"); (case ff => walk_at "ne0"); (case gg => walk_at "tr1")))
local macro_rules | `(tactic| walk_at "ne0") => `(tactic| first
  | with_reducible assumption
  | (with_reducible apply Ne.symm; with_reducible assumption))
local macro_rules | `(tactic| walk_at "ne") => `(tactic| first
  | with_reducible assumption
  | (with_reducible apply Ne.symm; with_reducible assumption)
  | ((with_reducible refine' stm_ne ?hh ?nn); (case nn => walk_at "as"); (case hh => walk_at "tr1"))
  | ((with_reducible refine' ne_of_none ?hh ?nn); (case nn => walk_at "as"); (case hh => walk_at "tr1"))
  | ((with_reducible apply Ne.symm); (with_reducible refine' ne_of_none ?hh ?nn); (case nn => walk_at "as"); (case hh => walk_at "tr1")))
local macro_rules | `(tactic| walk_at "v") => `(tactic| first
  | with_reducible refine w_seq ?_
  | ((with_reducible refine' w_var ?vv ?_); (case vv => exact rfl))
  | with_reducible refine w_c ?_
  | with_reducible refine w_op ?_
  | with_reducible refine w_asg ?_
  | with_reducible refine w_gName ?_
  | with_reducible refine w_ret ?_
  | with_reducible refine w_ifS ?_
  | with_reducible refine w_drop ?_
  | with_reducible refine w_next ?_
  | with_reducible refine w_cons ?_
  | with_reducible refine w_nil ?_
  | with_reducible refine w_call ?_
  | with_reducible refine w_cb ?_
  | with_reducible refine w_rI0 ?_
  | with_reducible refine w_addI ?_
  | with_reducible refine w_eqI ?_
  | with_reducible refine w_neI ?_
  | with_reducible refine w_eqS ?_
  | with_reducible refine w_neS ?_
  | with_reducible refine w_eqB ?_
  | with_reducible refine w_neB ?_
  | with_reducible refine w_chain ?_
  | with_reducible refine w_test ?_
  | with_reducible refine w_tB ?_
  | with_reducible refine w_bl ?_
  | ((with_reducible refine' w_mulI ?vv ?_); (case vv => walk_at "side"))
  | ((with_reducible refine' w_rI ?vv ?_); (case vv => walk_at "side"))
  | with_reducible refine w_int1 ?_
  | with_reducible refine w_int1b ?_
  | with_reducible refine w_tup ?_
  | with_reducible refine w_lst ?_
  | with_reducible refine w_un ?_
  | with_reducible refine w_rU ?_
  | with_reducible refine w_not ?_
  | with_reducible refine w_notV ?_
  | with_reducible refine w_ifE ?_
  | with_reducible refine w_nT ?_
  | with_reducible refine w_nF ?_
  | with_reducible refine iteT ?_
  | with_reducible refine iteF ?_
  | ((with_reducible refine' w_ixT ?vv ?ww ?_); (case vv => walk_at "tr"); (case ww => walk_at "ix"))
  | ((with_reducible refine' w_ixL ?vv ?ww ?_); (case vv => walk_at "tr"); (case ww => walk_at "ix"))
  | with_reducible refine w_gSub ?_
  | ((with_reducible refine' w_setL ?vv ?ww ?_); (case vv => walk_at "tr"); (case ww => first | rfl | decide | assumption))
  | ((with_reducible refine' w_lenL ?vv ?_); (case vv => walk_at "tr"))
  | ((with_reducible refine' w_lenT ?vv ?_); (case vv => walk_at "tr"))
  | with_reducible refine w_max2 ?_
  | with_reducible refine w_max3 ?_
  | with_reducible refine w_din ?_
  | with_reducible refine w_dnotin ?_
  | with_reducible refine w_dput ?_
  | with_reducible refine w_min2 ?_
  | with_reducible refine w_bm ?_
  | with_reducible refine w_bm0 ?_
  | ((with_reducible refine' w_tyL ?vv ?_); (case vv => walk_at "tr"))
  | ((with_reducible refine' w_append ?vv ?ww ?_); (case vv => walk_at "tr"); (case ww => walk_at "size"))
  | ((with_reducible refine' w_size ?vv ?_); (case vv => walk_at "size"))
  | with_reducible refine w_forL ?_
  | with_reducible refine w_forT ?_
  | with_reducible refine w_forR1 ?_
  | with_reducible refine w_forR2 ?_
  | with_reducible refine w_lcL ?_
  | with_reducible refine w_lcT ?_
  | with_reducible refine w_lcR1 ?_
  | with_reducible refine w_yes ?_
  | with_reducible refine w_sl ?_
  | with_reducible refine w_noPart ?_
  | with_reducible refine w_part ?_
  | with_reducible refine w_int ?_
  | ((with_reducible refine' w_slL ?vv ?_); (case vv => walk_at "tr"))
  | ((with_reducible refine' w_seqL ?vv ?ww ?_); (case vv => walk_at "tr"); (case ww => rfl))
  | ((with_reducible refine' w_seqT ?vv ?ww ?_); (case vv => walk_at "tr"); (case ww => rfl))
  | with_reducible refine w_gNil ?_
  | with_reducible refine w_gCons ?_
  | with_reducible refine w_forZ ?_
  | with_reducible refine w_forM ?_
  | with_reducible refine w_forE ?_
  | with_reducible refine w_forV ?_
  | with_reducible refine w_lcZ ?_
  | with_reducible refine w_lcE ?_
  | ((with_reducible refine' w_isi (b := true) ?vv ?ww ?_); (case vv => walk_at "ty"); (case ww => decide +kernel))
  | ((with_reducible refine' w_isi (b := false) ?vv ?ww ?_); (case vv => walk_at "ty"); (case ww => decide +kernel))
  | with_reducible refine w_revL ?_
  | with_reducible refine w_pairN ?_
  | with_reducible refine w_pairC ?_
  | with_reducible refine w_dget ?_
  | with_reducible refine w_met ?_
  | ((with_reducible refine' w_metAt ?vv ?ww ?_); (case vv => walk_at "tr"); (case ww => rfl))
  | with_reducible refine w_mkI ?_
  | with_reducible refine w_fld ?_
  | ((with_reducible refine' w_fldAt ?vv ?cc ?nn ?ww ?_); (case vv => walk_at "tr"); (case cc => walk_at "cls"); (case nn => walk_at "na"); (case ww => rfl))
  | with_reducible refine w_sfld ?_
  | ((with_reducible refine' w_sfldAt ?vv ?cc ?nn ?ll ?ee ?_); (case vv => walk_at "tr"); (case cc => walk_at "cls"); (case nn => walk_at "na"); (case ll => simp); (case ee => rfl))
  | ((with_reducible refine' w_tupL ?vv ?_); (case vv => walk_at "tr"))
  | ((with_reducible refine' w_tupT ?vv ?_); (case vv => walk_at "tr"))
  | ((with_reducible refine' w_listL ?vv ?_); (case vv => walk_at "tr"))
  | ((with_reducible refine' w_listT ?vv ?_); (case vv => walk_at "tr"))
  | with_reducible refine w_tyS ?_
  | with_reducible refine w_lcZM ?_
  | with_reducible refine w_js ?_
  | with_reducible refine w_jsN ?_
  | ((with_reducible refine' w_jsP ?vv ?_); (case vv => walk_at "size"))
  | with_reducible refine w_fmt ?_
  | with_reducible refine w_forRR ?_
  | with_reducible refine w_retN ?_
  | with_reducible refine w_break ?_
  | with_reducible refine w_cont ?_)
local macro_rules | `(tactic| walk_at "w") => `(tactic| first
  | walk_at "v"
  | with_reducible refine w_or ?_
  | with_reducible refine w_and ?_
  | with_reducible refine w_andV ?_
  | with_reducible refine w_orV ?_)
local macro_rules | `(tactic| walk_at "wd") => `(tactic| first
  | walk_at "w"
  | ((with_reducible refine' w_decT ?vv ?_); (case vv => decide +kernel))
  | ((with_reducible refine' w_decF ?vv ?_); (case vv => decide +kernel)))
local macro_rules | `(tactic| walk_at "tz") => `(tactic| (intro S z; (repeat walk_at "w"); exact z))
local macro_rules | `(tactic| walk_at "wf") => `(tactic| first
  | walk_at "wd"
  | ((with_reducible refine' w_decF ?vv ?_); (case vv => with_reducible assumption)))
/-! ### codes: bits_of, read_items -/
open SX
/-- a value as items -/
inductive ItemsAt (K : PySem.W.Frag) (H : Hp) : V → Option (List V) → Prop
  | no {v : V} (h : NoSq H v) : ItemsAt K H v none
  | sq {a : Addr} {xs : List V} (h : Sq K H a xs) (hl : xs.length ≤ 1000) (hx : ∀ x ∈ xs, AnyAt K H x) : ItemsAt K H (.ref a) (some xs)
def goodI (n : Nat) : V → Bool
  | .int i => decide (0 ≤ i ∧ i < n)
  | _ => false
def natsV (its : List Nat) : List V := (its.map fun i : Nat => (i : Int)).map V.int
def raised (E : XK) (C : Addr) (v : V) (H : Hp) : Prop := ∀ d H', Same H H' → H d = none → H' d = some (.xd [("given", v)]) → E (.ref C) (some d) H'
def spNeed (K : PySem.W.Frag) : Sp := fun vs H Q E => ∃ v o, vs = [v] ∧ CodeAt K H v o ∧ (isCodeO o = true → ∀ H', Same H H' → Q .non H') ∧ (isCodeO o = false → raised E (He.ga K "NoCode") v H)
theorem len_need_code {K : PySem.W.Frag} {vs H Q E} (h : spNeed K vs H Q E) : vs.length = 1 := by obtain ⟨_, _, rfl, _⟩ := h; rfl
def spBitsOf (K : PySem.W.Frag) : Sp := fun vs H Q E => ∃ c t o p, vs = [c, t] ∧ CodeAt K H c o ∧ (isCodeO o = false → raised E (He.ga K "NoCode") c H) ∧ (isCodeO o = true → ItemsAt K H t p ∧ ∃ ws : List (List Nat), o = some (ws.map some) ∧
  ((p = none ∨ ∃ xs, p = some xs ∧ xs.all (goodI ws.length) = false) → raised E (He.ga K "NoBits") t H) ∧
  ∀ its : List Nat, p = some (natsV its) → (∀ i ∈ its, i < ws.length) → (textOf ws its).length ≤ 1000 ∧ ∀ H', Same H H' → Q (.str (S (textOf ws its))) H')
theorem len_bits_of {K : PySem.W.Frag} {vs H Q E} (h : spBitsOf K vs H Q E) : vs.length = 2 := by obtain ⟨_, _, _, _, rfl, _⟩ := h; rfl
def optV : Option Nat → V
  | none => .non
  | some i => .int (i : Nat)
def spItem (K : PySem.W.Frag) : Sp := fun vs H Q _ => ∃ (c : Addr) (ws : List (List Nat)) (l : List Nat) (k : Nat), vs = [.ref c, .str (S l), .int (k : Nat)] ∧ H c = some (.lst (TV ws)) ∧ ws.length ≤ 100 ∧ (∀ w ∈ ws, w.length ≤ 1000) ∧ l.length ≤ 1000 ∧ ∀ H', Same H H' → Q (optV (firstW ws (l.drop k))) H'
theorem len_item_at {K : PySem.W.Frag} {vs H Q E} (h : spItem K vs H Q E) : vs.length = 3 := by obtain ⟨_, _, _, _, rfl, _⟩ := h; rfl
def spRead (K : PySem.W.Frag) : Sp := fun vs H Q E => ∃ c t o, vs = [c, t] ∧ CodeAt K H c o ∧ (isCodeO o = false → raised E (He.ga K "NoCode") c H) ∧ (isCodeO o = true → AnyAt K H t ∧ ∃ (a : Addr) (ws : List (List Nat)) (n : Nat), c = .ref a ∧ H a = some (.lst (TV ws)) ∧ GC n ws ∧ n ≤ 39 ∧
  ((∀ l, t = .str (S l) → bitsL l = false ∨ readO ws l = none) → raised E (He.ga K "NoBits") t H) ∧
  ∀ l its, t = .str (S l) → bitsL l = true → readO ws l = some its → ∀ R H', H' R = some (.lst (natsV its)) → Same H H' → H R = none → Q (.ref R) H')
theorem len_read_items {K : PySem.W.Frag} {vs H Q E} (h : spRead K vs H Q E) : vs.length = 2 := by obtain ⟨_, _, _, rfl, _⟩ := h; rfl
section
variable {K : PySem.W.Frag} {H : Hp} {Q : VK} {σ : L2.St}
theorem w_callX {sp : Sp} {E : L2.St → XK} {t : TA} (k : t σ H fun vs H1 => sp vs H1 Q (E σ)) : XL.tCallX sp E t σ H Q := k
theorem mono_v {i : Nat} : ∀ {R R' : List V → Hp → Prop}, (∀ a b, R a b → R' a b) → tCons (tVar i) tNil σ H R → tCons (tVar i) tNil σ H R' := fun f ⟨v, e, r⟩ => ⟨v, e, f _ _ r⟩
theorem TV_it (ws : List (List Nat)) : TV ws = (ws.map some).map itV := by unfold TV; rw [List.map_map, List.map_map]; rfl
theorem tk_sn {α : Type} {l : List α} {j : Nat} {y : α} (h : l[j]? = some y) : l.take (j + 1) = l.take j ++ [y] := by
  obtain ⟨hl, rfl⟩ := List.getElem?_eq_some_iff.mp h
  exact List.take_succ_eq_append_getElem hl
theorem good_nats {n : Nat} : ∀ {xs : List V}, (∀ x ∈ xs, goodI n x = true) → ∃ its : List Nat, xs = natsV its ∧ ∀ i ∈ its, i < n
  | [], _ => ⟨[], rfl, fun _ h => nomatch h⟩
  | x :: xs, h => by
    obtain ⟨its, rfl, hi⟩ := good_nats fun y hy => h y (List.mem_cons_of_mem _ hy)
    have hx := h x List.mem_cons_self
    cases x with
    | int i =>
      have hx' : decide (0 ≤ i ∧ i < (n : Int)) = true := hx
      rw [decide_eq_true_eq] at hx'
      refine ⟨i.toNat :: its, ?_, fun k hk => ?_⟩
      · unfold natsV
        rw [List.map_cons, List.map_cons, show ((i.toNat : Nat) : Int) = i by omega]
      · rcases List.mem_cons.mp hk with rfl | hk
        · omega
        · exact hi k hk
    | _ => cases hx
theorem find_filter {α : Type} (p : α → Bool) (l : List α) : (l.filter p).head? = l.find? p := List.head?_filter
end
section
variable {P : Program} {w : World} {K : PySem.W.Frag} {mg : Str → Option Value}
theorem ok_need_code [c : Facts K mg] (G_is_code : XL.Fn P w K mg "is_code" 2 ["value"] ((spIsCode K))) (GM_NoCode___init__ : XL.FnA P w K mg (He.ma K (He.ga K "NoCode") "__init__") 1 ["self", "given"] ((spX1 (He.ga K "NoCode") "given"))) : XL.Fn P w K mg "need_code" 3 ["code"] ((spNeed K)) := by
  obtain ⟨fd, F⟩ := c.d_need_code
  refine XL.Fn.mk' F c.g_need_code sc_need_code (k := 2) (fun vs H Q E h => ?_) (fun _ _ _ _ _ _ us hl => match us, hl with | [_], _ => rfl) (fun base cdv A outer s H vs Q E hr h => ?_)
  · exact len_need_code h
  · have nd := sc_need_code.nd
    have hu := hu_of hr.r
    have hr_is_code : XL.Rm 2 _ := hr.mono (by omega)
    have hrI_NoCode : XL.Rm (1 + 1) _ := hr.mono (by omega)
    refine ⟨_, (pss_one (ps_if (pt_not (pt_val (XL.pe_fn G_is_code hr_is_code (by rfl) (pa_cons (pv 0) pa_nil)))) (pss_one (XL.ps_raiX (takes_of rfl rfl rfl rfl) rfl GM_NoCode___init__ rfl c.x_NoCode c.xi_NoCode c.gc_NoCode hrI_NoCode (by rfl) (pa_cons (pv 0) pa_nil))) pss_nil)), ?_⟩
    try dsimp only [cxOf, Cx.nox, Cx.wish]
    obtain ⟨v, o, rfl, hv, q1, q2⟩ := h
    repeat walk_at "w"
    refine ⟨v, o, rfl, hv, fun H1 s1 => ?_⟩
    cases ho : isCodeO o with
    | true =>
      repeat walk_at "w"
      exact q1 ho H1 s1
    | false =>
      repeat walk_at "w"
      refine w_rai1 ?_ mono_v
      repeat walk_at "w"
      refine ⟨v, rfl, fun d H2 s2 n2 f2 => ?_⟩
      exact q2 ho d H2 (s1.trans s2) (s1.free n2) f2
theorem ok_item_at [c : Facts K mg] : XL.Fn P w K mg "item_at" 1 ["code", "text", "at"] ((spItem K)) := by
  obtain ⟨fd, F⟩ := c.d_item_at
  refine XL.Fn.mk' F c.g_item_at sc_item_at (k := 0) (fun vs H Q E h => ?_) (fun _ _ _ _ _ _ us hl => match us, hl with | [_, _, _], _ => rfl) (fun base cdv A outer s H vs Q E hr h => ?_)
  · exact len_item_at h
  · have nd := sc_item_at.nd
    have hu := hu_of hr.r
    refine ⟨_, (PSs.nox (pss_cons (ps_setLc (i := 3) (own := [("one", 4), ("word", 5)]) rfl nd rfl rfl (sw_true rfl rfl rfl (by decide +kernel)) (pi_enum (by rfl) c.f_enumerate (pa_cons (pv 0) pa_nil)) (blkOk_by (N := N_item_at) (sc := defScope s_item_at) (by decide +kernel)) (fun _ _ _ _ _ => (pg_seq 2 (K := K) rfl rfl (pgs_cons (pg_name (i := 4) nd rfl (Or.inl rfl)) (pgs_cons (pg_name (i := 5) nd rfl (Or.inl rfl)) pgs_nil)))) (fun _ _ _ _ _ => pts_one (pt_cmpR (op_eqA (K := K) rfl hr.units) (pe_slice (sl_any (K := K) rfl) (pv 1) (po_some (pv 2)) (po_some (pe_op (op_addA (K := K) rfl) (pv 2) (pe_callB (call_lenA (K := K) rfl) (by rfl) c.f_len boot_len (pa_cons (pv 5) pa_nil))))) (pv 5) (nomark _))) (fun _ _ _ _ _ => (pv 4)))
      (pss_one (ps_ret (pe_ifExp (pt_cmpR (op_neA (K := K) rfl hr.units) (pv 3) (pe_lst pa_nil) (nomark _)) (pe_ix (ix_any (K := K) rfl) (pv 3) pe_int (fun _ _ => rfl)) pe_non))))), ?_⟩
    try dsimp only [cxOf, Cx.nox, Cx.wish]
    obtain ⟨c, ws, l, k, rfl, hc, hw, hwl, hl, q⟩ := h
    have hz : sizeLine = 16777216 := sizeLine_eq
    repeat walk_at "w"
    refine lc_enum (by decide) (fun D i zs H' => Same H H' ∧ zs = natsV ((List.range i).filter fun i => preL (ws.getD i []) (l.drop k))) (SqL.of hc) (fun D H' hD e f => ⟨e, rfl⟩) (fun D hD i zs H' hi hy hp => SqL.of (hp.1 _ _ hc)) (fun D hD i x zs H0 H' hx hll hy hp s8 => ?_) (fun D hD zs H1 hll hy hp => ?_)
    · obtain ⟨e, rfl⟩ := hp
      unfold TV at hx
      rw [List.getElem?_map, List.getElem?_map] at hx
      obtain ⟨s', hx', rfl⟩ := Option.map_eq_some_iff.mp hx
      obtain ⟨v, hv, rfl⟩ := Option.map_eq_some_iff.mp hx'
      have hvl := hwl v (List.mem_of_getElem? hv)
      have hil := (List.getElem?_eq_some_iff.mp hv).1
      have gv : ws.getD i [] = v := by rw [List.getD_eq_getElem?_getD, hv]; rfl
      have hy' := s8 _ _ hy
      have fl := List.length_filter_le (fun i => preL (ws.getD i []) (l.drop k)) (List.range i)
      rw [List.length_range] at fl
      repeat walk_at "w"
      refine w_lenC (by rw [hz]; omega) ?_
      repeat walk_at "w"
      refine w_slAB (by rw [hz]; omega) (by omega) (by omega) ?_
      repeat walk_at "w"
      have ee : decide (S ((l.drop (k : Int).toNat).take (((k : Int) + (v.length : Nat)).toNat - (k : Int).toNat)) = S v) = preL (ws.getD i []) (l.drop k) := by
        rw [gv]
        unfold preL
        exact decide_eq_decide.mpr (S_inj_iff.trans (by rw [show ((k : Int) + (v.length : Nat)).toNat - (k : Int).toNat = v.length by omega, show (k : Int).toNat = k by omega]))
      rw [ee]
      refine ite2 (fun hk => ?_) (fun hk => ?_)
      · repeat walk_at "w"
        refine lc_end hy' hll (by rw [hz]; unfold natsV; rw [List.length_map, List.length_map]; omega) fun H5 e5 f5 => ⟨But.new (e.trans s8) hD e5, ?_⟩
        rw [List.range_succ, List.filter_append, List.filter_cons, if_pos hk, List.filter_nil]; unfold natsV; rw [List.map_append, List.map_append]; rfl
      · refine lc_skip hy' hll ⟨e.trans s8, ?_⟩
        rw [List.range_succ, List.filter_append, List.filter_cons, if_neg hk, List.filter_nil, List.append_nil]
    · obtain ⟨e, rfl⟩ := hp
      rw [show (TV ws).length = ws.length from TV_len ws] at hy
      have hf : ((List.range ws.length).filter fun i => preL (ws.getD i []) (l.drop k)).head? = firstW ws (l.drop k) := List.head?_filter
      generalize (List.range ws.length).filter (fun i => preL (ws.getD i []) (l.drop k)) = fs at hy hf
      repeat walk_at "w"
      refine w_new fun Z H2 n2 s2 f2 => ?_
      have hy2 := s2 _ _ hy
      refine w_neIL (ns := fs.map fun i : Nat => (i : Int)) (ms := []) (SqL.of hy2) (SqL.of f2) ?_
      cases fs with
      | nil =>
        have hn : firstW ws (l.drop k) = none := hf.symm
        rw [hn] at q
        rw [decide_eq_true (show ([] : List Nat).map (fun i : Nat => (i : Int)) = [] from rfl)]
        repeat walk_at "w"
        exact q _ (e.trans s2)
      | cons x r =>
        have hn : firstW ws (l.drop k) = some x := hf.symm
        rw [hn] at q
        rw [decide_eq_false (show ¬ (x :: r).map (fun i : Nat => (i : Int)) = [] by simp)]
        repeat walk_at "w"
        exact q _ (e.trans s2)
theorem ok_bits_of [c : Facts K mg] (G_is_whole : XL.Fn P w K mg "is_whole" 1 ["thing"] ((spWhole K))) (G_need_code : XL.Fn P w K mg "need_code" 3 ["code"] ((spNeed K))) (GM_NoBits___init__ : XL.FnA P w K mg (He.ma K (He.ga K "NoBits") "__init__") 1 ["self", "given"] ((spX1 (He.ga K "NoBits") "given"))) : XL.Fn P w K mg "bits_of" 4 ["code", "items"] ((spBitsOf K)) := by
  obtain ⟨fd, F⟩ := c.d_bits_of
  refine XL.Fn.mk' F c.g_bits_of sc_bits_of (k := 3) (fun vs H Q E h => ?_) (fun _ _ _ _ _ _ us hl => match us, hl with | [_, _], _ => rfl) (fun base cdv A outer s H vs Q E hr h => ?_)
  · exact len_bits_of h
  · have nd := sc_bits_of.nd
    have hu := hu_of hr.r
    have hr_is_whole : XL.Rm 1 _ := hr.mono (by omega)
    have hr_need_code : XL.Rm 3 _ := hr.mono (by omega)
    have hrI_NoBits : XL.Rm (1 + 1) _ := hr.mono (by omega)
    refine ⟨_, (pss_cons (ps_expr (XL.pe_fnX (takes_of rfl rfl rfl rfl) G_need_code hr_need_code (by rfl) (pa_cons (pv 0) pa_nil)))
      (pss_cons (ps_if (PW.pt (pw_or (pt_not (pt_val (pe_callB (call_isiTA (K := K) rfl) (by rfl) c.f_isinstance boot_isinstance (pa_cons (pv 1) (pa_cons (pe_tup (pa_cons (pe_bltn (v := .ty "list") (by rfl) c.f_list boot_list rfl) (pa_cons (pe_bltn (v := .ty "tuple") (by rfl) c.f_tuple boot_tuple rfl) pa_nil))) pa_nil))))) (pw_or1 (pt_not (pt_val (pe_callB (cr_all rfl) (by rfl) c.f_all boot_all (pa_cons (pe_lc (own := [("one", 2)]) rfl nd (NDX.PI.or (pi_list (pv 1)) (pi_tup (pv 1))) (blkOk_by (N := N_bits_of) (sc := defScope s_bits_of) (by decide +kernel)) (fun _ _ _ _ _ => (pg_name (i := 2) nd rfl (Or.inl rfl))) (fun _ _ _ _ _ => pts_nil) (fun _ _ _ _ _ => (pe_and (XL.pe_fn G_is_whole hr_is_whole (by rfl) (pa_cons (pv 2) pa_nil)) (pe_one (pe_chain op_le op_lt pe_int (pv 2) (pe_callB (call_lenA (K := K) rfl) (by rfl) c.f_len boot_len (pa_cons (pv 0) pa_nil))))))) pa_nil))))))) (pss_one (XL.ps_raiX (takes_of rfl rfl rfl rfl) rfl GM_NoBits___init__ rfl c.x_NoBits c.xi_NoBits c.gc_NoBits hrI_NoBits (by rfl) (pa_cons (pv 1) pa_nil))) pss_nil)
      (pss_one (ps_ret (pe_bm PySem.F.plainAttrs_str PySem.F.slot_str_join PySem.F.type_str_join (mt_joinA (K := K) rfl) pe_str (pa_cons (pe_lc (own := [("one", 2)]) rfl nd (NDX.PI.or (pi_list (pv 1)) (pi_tup (pv 1))) (blkOk_by (N := N_bits_of) (sc := defScope s_bits_of) (by decide +kernel)) (fun _ _ _ _ _ => (pg_name (i := 2) nd rfl (Or.inl rfl))) (fun _ _ _ _ _ => pts_nil) (fun _ _ _ _ _ => (pe_ix (ix_any (K := K) rfl) (pv 0) (pv 2) (fun _ _ => rfl)))) pa_nil)))))), ?_⟩
    try dsimp only [cxOf, Cx.nox, Cx.wish]
    obtain ⟨c, t, o, p, rfl, hc, q1, q2⟩ := h
    have hz : sizeLine = 16777216 := sizeLine_eq
    repeat walk_at "w"
    refine w_callX ?_
    repeat walk_at "w"
    refine ⟨c, o, rfl, hc, fun ho H1 s1 => ?_, fun ho => q1 ho⟩
    obtain ⟨hp, ws, rfl, qa, qb⟩ := q2 ho
    repeat walk_at "w"
    refine w_new fun tp H2 n2 s2 f2 => ?_
    have s02 := s1.trans s2
    have wl : ws.length ≤ 100 := by
      cases hc with
      | lst _ hl _ => rw [List.length_map] at hl; exact hl
      | tup _ hl _ => rw [List.length_map] at hl; exact hl
    obtain ⟨ca, rfl, hcs⟩ : ∃ ca, c = .ref ca ∧ Sq K H ca (TV ws) := by
      rw [TV_it]
      cases hc with
      | lst h _ _ => exact ⟨_, rfl, .inl h⟩
      | tup h _ _ => exact ⟨_, rfl, .inr h⟩
    repeat walk_at "w"
    cases hp with
    | no h =>
      refine w_isNo (h.sm s02) f2 ?_
      repeat walk_at "w"
      refine w_rai1 ?_ mono_v
      repeat walk_at "w"
      exact ⟨t, rfl, fun d H3 s3 n3 f3 => qa (.inl rfl) d H3 (s02.trans s3) (s02.free n3) f3⟩
    | @sq a xs hs hl hx =>
      have hs2 := hs.sm s02
      refine w_isQ hs2 f2 ?_
      repeat walk_at "w"
      refine NDX.w_lcLT xs (fun R r => by walk_at "w"; exact r) (fun D j ys H' => Same H2 H' ∧ ys = ((xs.take j).map (goodI ws.length)).map V.bl) hs2.lt (fun D H' hD e f => ⟨e, rfl⟩) (fun D j ys H' h => h.1) (fun D hD j x ys H' hxj hll hy hp => ?_) (fun D hD ys H3 hll hy hp => ?_)
      · obtain ⟨e, rfl⟩ := hp
        have hjl := (List.getElem?_eq_some_iff.mp hxj).1
        have any := (hx x (List.mem_of_getElem? hxj)).sm (s02.trans e)
        have hcs' := hcs.sm (s02.trans e)
        repeat walk_at "w"
        refine ⟨x, rfl, any, ?_⟩
        have fin : LcEnd D (fun j ys H' => Same H2 H' ∧ ys = ((xs.take j).map (goodI ws.length)).map V.bl) j (.bl (goodI ws.length x)) H' :=
          lc_end hy hll (by rw [hz, List.length_map, List.length_map, List.length_take]; omega) fun H5 e5 f5 => ⟨But.new e hD e5, by rw [all_take hxj, List.map_append]; rfl⟩
        refine ⟨_, rfl, ?_⟩
        cases any with
        | int i =>
          refine iteT ?_
          repeat walk_at "w"
          by_cases c0 : 0 ≤ i
          · rw [decide_eq_true c0]
            repeat walk_at "w"
            refine w_lenQ hcs' ?_
            rw [TV_len]
            repeat walk_at "w"
            have : goodI ws.length (.int i) = decide (i < (ws.length : Int)) := by show decide (0 ≤ i ∧ i < ws.length) = _; rw [decide_eq_decide]; exact ⟨fun z => z.2, fun z => ⟨c0, z⟩⟩
            rw [← this]; exact fin
          · rw [decide_eq_false c0]
            repeat walk_at "w"
            have : goodI ws.length (.int i) = false := decide_eq_false fun z => c0 z.1
            rw [← this]; exact fin
        | _ => exact iteF fin
      · obtain ⟨e, rfl⟩ := hp
        rw [List.take_length] at hy
        have s03 := s02.trans e
        have hs3 := hs.sm s03
        have hcs3 := hcs.sm s03
        repeat walk_at "w"
        refine w_allL (SqL.of hy) ?_
        rw [List.all_map]
        refine ⟨_, rfl, ?_⟩
        show if (!(xs.all (goodI ws.length))) = true then _ else _
        cases hok : xs.all (goodI ws.length) with
        | false =>
          repeat walk_at "w"
          refine w_rai1 ?_ mono_v
          repeat walk_at "w"
          exact ⟨_, rfl, fun d H4 s4 n4 f4 => qa (.inr ⟨xs, rfl, hok⟩) d H4 (s03.trans s4) (s03.free n4) f4⟩
        | true =>
          obtain ⟨its, rfl, hin⟩ := good_nats (List.all_eq_true.mp hok)
          obtain ⟨qz, qq⟩ := qb its rfl hin
          repeat walk_at "w"
          refine NDX.w_lcLT (natsV its) (fun R r => by walk_at "w"; exact r) (fun D j ys H' => Same H3 H' ∧ ys = TV ((its.take j).map fun i => ws.getD i [])) hs3.lt (fun D H' hD e f => ⟨e, rfl⟩) (fun D j ys H' h => h.1) (fun D hD j x ys H' hxj hll hy hp => ?_) (fun D hD ys H4 hll hy hp => ?_)
          · obtain ⟨e', rfl⟩ := hp
            unfold natsV at hxj
            rw [List.getElem?_map] at hxj
            obtain ⟨n, hx', rfl⟩ := Option.map_eq_some_iff.mp hxj
            rw [List.getElem?_map] at hx'
            obtain ⟨i, hi, rfl⟩ := Option.map_eq_some_iff.mp hx'
            have hil := hin i (List.mem_of_getElem? hi)
            have hjl := (List.getElem?_eq_some_iff.mp hi).1
            have hcs' := hcs3.sm e'
            repeat walk_at "w"
            refine w_ixQ (n := ((i : Nat) : Int)) (v := .str (S (ws.getD i []))) hcs' (atI_of (by omega) (by rw [Int.toNat_natCast]; unfold TV; rw [List.getElem?_map, List.getElem?_map, List.getElem?_eq_getElem hil, List.getD_eq_getElem?_getD, List.getElem?_eq_getElem hil]; rfl)) ?_
            have il : its.length ≤ 1000 := by unfold natsV at hl; rw [List.length_map, List.length_map] at hl; exact hl
            refine lc_end hy hll (by rw [hz, TV_len, List.length_map, List.length_take]; omega) fun H5 e5 f5 => ⟨But.new e' hD e5, ?_⟩
            rw [tk_sn hi, List.map_append, TV_app]; rfl
          · obtain ⟨e', rfl⟩ := hp
            have il : (natsV its).length = its.length := by unfold natsV; rw [List.length_map, List.length_map]
            rw [il, List.take_length] at hy
            repeat walk_at "w"
            refine w_joinL (a := []) (SqL.of hy) (by show (textOf ws its).length + _ * 0 ≤ _; omega) ?_
            rw [joinL_nil]
            exact qq _ (s03.trans e')
end

end J
namespace J
open PySem PySem.Spec PyProof.Rows L2

local macro_rules | `(tactic| walk_at "ty") => `(tactic| first
  | with_reducible exact ty_int
  | with_reducible exact ty_bl
  | with_reducible exact ty_str
  | with_reducible exact ty_non
  | ((with_reducible refine' ty_lst ?vv); (case vv => walk_at "tr"))
  | ((with_reducible refine' ty_sqT ?vv); (case vv => walk_at "tr"))
  | ((with_reducible refine' ty_dic ?vv); (case vv => walk_at "tr")))
local macro_rules | `(tactic| walk_at "ix") => `(tactic| first | exact at0 | exact at1 | exact at2 | assumption)
local macro_rules | `(tactic| walk_at "size") => `(tactic| first
  | assumption
  | (show _ < sizeLine; rw [sizeLine_eq]; (try simp only [List.length_cons, List.length_nil, List.length_append, List.length_map]); omega)
  | (show _ ≤ sizeLine; rw [sizeLine_eq]; (try simp only [List.length_cons, List.length_nil, List.length_append, List.length_map]); omega))
local macro_rules | `(tactic| walk_at "side") => `(tactic| first
  | assumption
  | ((with_reducible refine cdw ?_ ?_) <;> omega)
  | omega
  | (exact ⟨by omega, by omega⟩)
  | (exact Or.inl ⟨by omega, by omega⟩)
  | (exact Or.inr ⟨by omega, by omega⟩)
  | decide
  | (simp only [List.length_cons, List.length_nil, List.length_append, List.length_map]; omega)
  | (show _ ≤ _; decide))
local macro_rules | `(tactic| walk_at "as") => `(tactic| with_reducible assumption)
local macro_rules | `(tactic| walk_at "tr") => `(tactic| first
  | with_reducible assumption
  | with_reducible exact upd_same
  | ((with_reducible refine' SqL.of ?hh); (case hh => walk_at "as"))
  | ((with_reducible refine' SqT.of ?hh); (case hh => walk_at "as"))
  | ((with_reducible refine' Same.stm ?ee ?gg); (case ee => walk_at "as"); (case gg => walk_at "tr"))
  | ((with_reducible refine' Same.sqT ?ee ?gg); (case ee => walk_at "as"); (case gg => walk_at "tr"))
  | ((with_reducible refine' Same.sqL ?ee ?gg); (case ee => walk_at "as"); (case gg => walk_at "tr"))
  | ((with_reducible refine' Same.at ?ee ?gg); (case ee => walk_at "as"); (case gg => walk_at "tr"))
  | ((with_reducible refine' But.stm ?ee ?ff ?gg); (case ee => walk_at "as"); (case ff => walk_at "ne"); (case gg => walk_at "tr"))
  | ((with_reducible refine' But.tup ?ee ?ff ?gg); (case ee => walk_at "as"); (case ff => walk_at "tr1"); (case gg => walk_at "tr"))
  | ((with_reducible refine' But.sqT ?ee ?ff ?gg); (case ee => walk_at "as"); (case ff => walk_at "tr1"); (case gg => walk_at "tr"))
  | ((with_reducible refine' But.tupL ?ee ?ff ?gg); (case ee => walk_at "as"); (case ff => walk_at "tr1"); (case gg => walk_at "tr"))
  | ((with_reducible refine' But.sqTL ?ee ?ff ?gg); (case ee => walk_at "as"); (case ff => walk_at "tr1"); (case gg => walk_at "tr"))
  | ((with_reducible refine' But.sqL ?ee ?ff ?gg); (case ee => walk_at "as"); (case ff => walk_at "ne"); (case gg => walk_at "tr"))
  | ((with_reducible refine' But.at ?ee ?ff ?gg); (case ee => walk_at "as"); (case ff => walk_at "ne"); (case gg => walk_at "tr")))
local macro_rules | `(tactic| walk_at "ts") => `(tactic| first
  | with_reducible assumption
  | with_reducible exact TS.refl _
  | ((with_reducible refine' TS.trans ?gg (TS.of ?ee)); (case ee => walk_at "as"); (case gg => walk_at "ts"))
  | ((with_reducible refine' TS.trans ?gg (TS.butS ?ee ?ff)); (case ee => walk_at "as"); (case ff => walk_at "tr1"); (case gg => walk_at "ts"))
  | ((with_reducible refine' TS.trans ?gg (TS.butL ?ee ?ff)); (case ee => walk_at "as"); (case ff => walk_at "tr1"); (case gg => walk_at "ts"))
  | ((with_reducible refine' TS.trans ?gg (TS.butI ?ee ?ff)); (case ee => walk_at "as"); (case ff => walk_at "tr1"); (case gg => walk_at "ts")))
local macro_rules | `(tactic| walk_at "sm") => `(tactic| first
  | with_reducible assumption
  | with_reducible exact Same.refl _
  | ((with_reducible refine' Same.trans ?gg ?ee); (case ee => walk_at "as"); (case gg => walk_at "sm"))
  | ((with_reducible refine' But.new ?gg ?nn ?ee); (case ee => walk_at "as"); (case nn => walk_at "fr"); (case gg => walk_at "sm")))
local macro_rules | `(tactic| walk_at "fr") => `(tactic| first
  | with_reducible assumption
  | ((with_reducible refine' Same.back ?ee ?nn); (case nn => walk_at "as"); (case ee => walk_at "sm"))
  | ((with_reducible refine' But.back ?ee ?ff ?nn); (case nn => walk_at "as"); (case ff => walk_at "ne0"); (case ee => walk_at "bu")))
local macro_rules | `(tactic| walk_at "bu") => `(tactic| first
  | with_reducible assumption
  | with_reducible exact But.refl _ _
  | ((with_reducible refine' But.trans ?gg ?ee); (case ee => walk_at "as"); (case gg => walk_at "bu"))
  | ((with_reducible refine' But.trans ?gg (But.of ?ee)); (case ee => walk_at "as"); (case gg => walk_at "bu"))
  | ((with_reducible refine' But.new2 ?gg ?nn ?ee); (case ee => walk_at "as"); (case nn => walk_at "frB"); (case gg => walk_at "bu")))
local macro_rules | `(tactic| walk_at "frB") => `(tactic| first
  | with_reducible assumption
  | ((with_reducible refine' Same.back ?ee ?nn); (case nn => walk_at "as"); (case ee => walk_at "sm"))
  | ((with_reducible refine' But.back' ?ee ?ff ?nn); (case nn => walk_at "as"); (case ee => walk_at "bu"); (case ff => walk_at "tr1")))
local macro_rules | `(tactic| walk_at "tr1") => `(tactic| first
  | with_reducible assumption
  | ((with_reducible refine' Same.stm ?ee ?gg); (case ee => walk_at "as"); (case gg => walk_at "tr1"))
  | ((with_reducible refine' Same.at ?ee ?gg); (case ee => walk_at "as"); (case gg => walk_at "tr1"))
  | ((with_reducible refine' But.at ?ee ?ff ?gg); (case ee => walk_at "as"); (case ff => walk_at "ne0"); (case gg => walk_at "tr1"))
  | ((with_reducible refine' But.stm ?ee ?ff ?gg); (case ee => walk_at "as"); (case ff => walk_at "ne0"); (case gg => walk_at "tr1")))
local macro_rules | `(tactic| walk_at "ne0") => `(tactic| first
  | with_reducible assumption
  | (with_reducible apply Ne.symm; with_reducible assumption))
local macro_rules | `(tactic| walk_at "ne") => `(tactic| first
  | with_reducible assumption
  | (with_reducible apply Ne.symm; with_reducible assumption)
  | ((with_reducible refine' stm_ne ?hh ?nn); (case nn => walk_at "as"); (case hh => walk_at "tr1"))
  | ((with_reducible refine' ne_of_none ?hh ?nn); (case nn => walk_at "as"); (case hh => walk_at "tr1"))
  | ((with_reducible apply Ne.symm); (with_reducible refine' ne_of_none ?hh ?nn); (case nn => walk_at "as"); (case hh => walk_at "tr1")))
local macro_rules | `(tactic| walk_at "v") => `(tactic| first
  | with_reducible refine w_seq ?_
  | ((with_reducible refine' w_var ?vv ?_); (case vv => exact rfl))
  | with_reducible refine w_c ?_
  | with_reducible refine w_op ?_
  | with_reducible refine w_asg ?_
  | with_reducible refine w_gName ?_
  | with_reducible refine w_ret ?_
  | with_reducible refine w_ifS ?_
  | with_reducible refine w_drop ?_
  | with_reducible refine w_next ?_
  | with_reducible refine w_cons ?_
  | with_reducible refine w_nil ?_
  | with_reducible refine w_call ?_
  | with_reducible refine w_cb ?_
  | with_reducible refine w_rI0 ?_
  | with_reducible refine w_addI ?_
  | with_reducible refine w_eqI ?_
  | with_reducible refine w_neI ?_
  | with_reducible refine w_eqS ?_
  | with_reducible refine w_neS ?_
  | with_reducible refine w_eqB ?_
  | with_reducible refine w_neB ?_
  | with_reducible refine w_chain ?_
  | with_reducible refine w_test ?_
  | with_reducible refine w_tB ?_
  | with_reducible refine w_bl ?_
  | ((with_reducible refine' w_mulI ?vv ?_); (case vv => walk_at "side"))
  | ((with_reducible refine' w_rI ?vv ?_); (case vv => walk_at "side"))
  | with_reducible refine w_int1 ?_
  | with_reducible refine w_int1b ?_
  | with_reducible refine w_tup ?_
  | with_reducible refine w_lst ?_
  | with_reducible refine w_un ?_
  | with_reducible refine w_rU ?_
  | with_reducible refine w_not ?_
  | with_reducible refine w_notV ?_
  | with_reducible refine w_ifE ?_
  | with_reducible refine w_nT ?_
  | with_reducible refine w_nF ?_
  | with_reducible refine iteT ?_
  | with_reducible refine iteF ?_
  | ((with_reducible refine' w_ixT ?vv ?ww ?_); (case vv => walk_at "tr"); (case ww => walk_at "ix"))
  | ((with_reducible refine' w_ixL ?vv ?ww ?_); (case vv => walk_at "tr"); (case ww => walk_at "ix"))
  | with_reducible refine w_gSub ?_
  | ((with_reducible refine' w_setL ?vv ?ww ?_); (case vv => walk_at "tr"); (case ww => first | rfl | decide | assumption))
  | ((with_reducible refine' w_lenL ?vv ?_); (case vv => walk_at "tr"))
  | ((with_reducible refine' w_lenT ?vv ?_); (case vv => walk_at "tr"))
  | with_reducible refine w_max2 ?_
  | with_reducible refine w_max3 ?_
  | with_reducible refine w_din ?_
  | with_reducible refine w_dnotin ?_
  | with_reducible refine w_dput ?_
  | with_reducible refine w_min2 ?_
  | with_reducible refine w_bm ?_
  | with_reducible refine w_bm0 ?_
  | ((with_reducible refine' w_tyL ?vv ?_); (case vv => walk_at "tr"))
  | ((with_reducible refine' w_append ?vv ?ww ?_); (case vv => walk_at "tr"); (case ww => walk_at "size"))
  | ((with_reducible refine' w_size ?vv ?_); (case vv => walk_at "size"))
  | with_reducible refine w_forL ?_
  | with_reducible refine w_forT ?_
  | with_reducible refine w_forR1 ?_
  | with_reducible refine w_forR2 ?_
  | with_reducible refine w_lcL ?_
  | with_reducible refine w_lcT ?_
  | with_reducible refine w_lcR1 ?_
  | with_reducible refine w_yes ?_
  | with_reducible refine w_sl ?_
  | with_reducible refine w_noPart ?_
  | with_reducible refine w_part ?_
  | with_reducible refine w_int ?_
  | ((with_reducible refine' w_slL ?vv ?_); (case vv => walk_at "tr"))
  | ((with_reducible refine' w_seqL ?vv ?ww ?_); (case vv => walk_at "tr"); (case ww => rfl))
  | ((with_reducible refine' w_seqT ?vv ?ww ?_); (case vv => walk_at "tr"); (case ww => rfl))
  | with_reducible refine w_gNil ?_
  | with_reducible refine w_gCons ?_
  | with_reducible refine w_forZ ?_
  | with_reducible refine w_forM ?_
  | with_reducible refine w_forE ?_
  | with_reducible refine w_forV ?_
  | with_reducible refine w_lcZ ?_
  | with_reducible refine w_lcE ?_
  | ((with_reducible refine' w_isi (b := true) ?vv ?ww ?_); (case vv => walk_at "ty"); (case ww => decide +kernel))
  | ((with_reducible refine' w_isi (b := false) ?vv ?ww ?_); (case vv => walk_at "ty"); (case ww => decide +kernel))
  | with_reducible refine w_revL ?_
  | with_reducible refine w_pairN ?_
  | with_reducible refine w_pairC ?_
  | with_reducible refine w_dget ?_
  | with_reducible refine w_met ?_
  | ((with_reducible refine' w_metAt ?vv ?ww ?_); (case vv => walk_at "tr"); (case ww => rfl))
  | with_reducible refine w_mkI ?_
  | with_reducible refine w_fld ?_
  | ((with_reducible refine' w_fldAt ?vv ?cc ?nn ?ww ?_); (case vv => walk_at "tr"); (case cc => walk_at "cls"); (case nn => walk_at "na"); (case ww => rfl))
  | with_reducible refine w_sfld ?_
  | ((with_reducible refine' w_sfldAt ?vv ?cc ?nn ?ll ?ee ?_); (case vv => walk_at "tr"); (case cc => walk_at "cls"); (case nn => walk_at "na"); (case ll => simp); (case ee => rfl))
  | ((with_reducible refine' w_tupL ?vv ?_); (case vv => walk_at "tr"))
  | ((with_reducible refine' w_tupT ?vv ?_); (case vv => walk_at "tr"))
  | ((with_reducible refine' w_listL ?vv ?_); (case vv => walk_at "tr"))
  | ((with_reducible refine' w_listT ?vv ?_); (case vv => walk_at "tr"))
  | with_reducible refine w_tyS ?_
  | with_reducible refine w_lcZM ?_
  | with_reducible refine w_js ?_
  | with_reducible refine w_jsN ?_
  | ((with_reducible refine' w_jsP ?vv ?_); (case vv => walk_at "size"))
  | with_reducible refine w_fmt ?_
  | with_reducible refine w_forRR ?_
  | with_reducible refine w_retN ?_
  | with_reducible refine w_break ?_
  | with_reducible refine w_cont ?_)
local macro_rules | `(tactic| walk_at "w") => `(tactic| first
  | walk_at "v"
  | with_reducible refine w_or ?_
  | with_reducible refine w_and ?_
  | with_reducible refine w_andV ?_
  | with_reducible refine w_orV ?_)
local macro_rules | `(tactic| walk_at "wd") => `(tactic| first
  | walk_at "w"
  | ((with_reducible refine' w_decT ?vv ?_); (case vv => decide +kernel))
  | ((with_reducible refine' w_decF ?vv ?_); (case vv => decide +kernel)))
local macro_rules | `(tactic| walk_at "tz") => `(tactic| (intro S z; (repeat walk_at "w"); exact z))
local macro_rules | `(tactic| walk_at "wf") => `(tactic| first
  | walk_at "wd"
  | ((with_reducible refine' w_decF ?vv ?_); (case vv => with_reducible assumption)))
/-! ### codes: read_items -/
open SX
theorem dec_nil {ws : List (List Nat)} (m : Nat) : decF ws (m + 1) [] = some [] := rfl
theorem dec_cons {ws : List (List Nat)} (m : Nat) {l : List Nat} (h : l ≠ []) : decF ws (m + 1) l = match firstW ws l with
  | none => none
  | some i => (decF ws m (l.drop (ws.getD i []).length)).map (i :: ·) := by
  cases l with
  | nil => exact (h rfl).elim
  | cons c r => rfl
section
variable {P : Program} {w : World} {K : PySem.W.Frag} {mg : Str → Option Value}
theorem ok_read_items [c : Facts K mg] (G_is_bits : XL.Fn P w K mg "is_bits" 1 ["thing"] ((spBits K))) (G_item_at : XL.Fn P w K mg "item_at" 1 ["code", "text", "at"] ((spItem K))) (G_need_code : XL.Fn P w K mg "need_code" 3 ["code"] ((spNeed K))) (GM_NoBits___init__ : XL.FnA P w K mg (He.ma K (He.ga K "NoBits") "__init__") 1 ["self", "given"] ((spX1 (He.ga K "NoBits") "given"))) : XL.Fn P w K mg "read_items" 4 ["code", "text"] ((spRead K)) := by
  obtain ⟨fd, F⟩ := c.d_read_items
  refine XL.Fn.mk' F c.g_read_items sc_read_items (k := 3) (fun vs H Q E h => ?_) (fun _ _ _ _ _ _ us hl => match us, hl with | [_, _], _ => rfl) (fun base cdv A outer s H vs Q E hr h => ?_)
  · exact len_read_items h
  · have nd := sc_read_items.nd
    have hu := hu_of hr.r
    have hr_is_bits : XL.Rm 1 _ := hr.mono (by omega)
    have hr_item_at : XL.Rm 1 _ := hr.mono (by omega)
    have hr_need_code : XL.Rm 3 _ := hr.mono (by omega)
    have hrI_NoBits : XL.Rm (1 + 1) _ := hr.mono (by omega)
    refine ⟨_, (pss_cons (ps_expr (XL.pe_fnX (takes_of rfl rfl rfl rfl) G_need_code hr_need_code (by rfl) (pa_cons (pv 0) pa_nil)))
      (pss_cons (ps_if (PW.pt (pw_or (pt_not (pt_val (XL.pe_fn G_is_bits hr_is_bits (by rfl) (pa_cons (pv 1) pa_nil)))) (pw_or1 (PW.pt (pw_and (pt_cmpR (op_eqA (K := K) rfl hr.units) (pe_ix (ix_any (K := K) rfl) (pv 0) pe_int (fun _ _ => rfl)) pe_str (nomark _)) (pw_and1 (pt_cmpR (op_neA (K := K) rfl hr.units) (pv 1) pe_str (nomark _)))))))) (pss_one (XL.ps_raiX (takes_of rfl rfl rfl rfl) rfl GM_NoBits___init__ rfl c.x_NoBits c.xi_NoBits c.gc_NoBits hrI_NoBits (by rfl) (pa_cons (pv 1) pa_nil))) pss_nil)
      (pss_cons (ps_par (i := 2) (j := 3) (by rfl) nd rfl rfl (by decide) rfl rfl (pa_cons (pe_lst pa_nil) (pa_cons pe_int pa_nil)) (by rfl))
      (pss_cons (ps_while (passes_of rfl) (pt_cmpR op_lt (pv 3) (pe_callB (call_lenA (K := K) rfl) (by rfl) c.f_len boot_len (pa_cons (pv 1) pa_nil)) (nomark _)) (pss_cons (ps_set (i := 4) nd rfl (Or.inl rfl) (XL.pe_fn G_item_at hr_item_at (by rfl) (pa_cons (pv 0) (pa_cons (pv 1) (pa_cons (pv 3) pa_nil)))))
      (pss_cons (ps_if (pt_cmpR op_isN (pv 4) pe_non (nomark _)) (pss_one (XL.ps_raiX (takes_of rfl rfl rfl rfl) rfl GM_NoBits___init__ rfl c.x_NoBits c.xi_NoBits c.gc_NoBits hrI_NoBits (by rfl) (pa_cons (pv 1) pa_nil))) pss_nil)
      (pss_cons (ps_expr (pe_bm PySem.F.plainAttrs_list PySem.F.slot_list_append PySem.F.type_list_append mt_append (pv 2) (pa_cons (pv 4) pa_nil)))
      (pss_one (ps_set (i := 3) nd rfl (Or.inl rfl) (pe_op (op_addA (K := K) rfl) (pv 3) (pe_callB (call_lenA (K := K) rfl) (by rfl) c.f_len boot_len (pa_cons (pe_ix (ix_any (K := K) rfl) (pv 0) (pv 4) (fun _ _ => rfl)) pa_nil)))))))))
      (pss_one (ps_ret (pv 2))))))), ?_⟩
    try dsimp only [cxOf, Cx.nox, Cx.wish]
    obtain ⟨c, t, o, rfl, hc, q1, q2⟩ := h
    have hz : sizeLine = 16777216 := sizeLine_eq
    repeat walk_at "w"
    refine w_callX ?_
    repeat walk_at "w"
    refine ⟨c, o, rfl, hc, fun ho H1 s1 => ?_, fun ho => q1 ho⟩
    obtain ⟨hany, a, ws, n, rfl, ha, gc, hn, qa, qb⟩ := q2 ho
    have any1 := hany.sm s1
    have ha1 := s1 _ _ ha
    have gl := gc.len
    have raiseIt : ∀ {H2 : Hp}, Same H H2 → (∀ l, t = .str (S l) → bitsL l = false ∨ readO ws l = none) → raised E (He.ga K "NoBits") t H2 := fun s2 hl d H3 s3 n3 f3 => qa hl d H3 (s2.trans s3) (s2.free n3) f3
    have notText : (∀ l, t ≠ .str (S l)) → bitsV t = false := fun h => by
      cases hany with
      | str l hl => exact (h l rfl).elim
      | _ => rfl
    have e0 : ∀ w0 : List Nat, decide (S w0 = ("" : Str)) = decide (w0 = []) := fun w0 => decide_eq_decide.mpr ⟨fun h => S_inj (h.trans (show ("" : Str) = S [] from rfl)), fun h => by rw [h]; rfl⟩
    refine w_seqN (fun σ H2 => ∃ l, t = .str (S l) ∧ l.length ≤ 1000 ∧ bitsL l = true ∧ σ = [some (.ref a), some (.str (S l)), none, none, none] ∧ Same H H2 ∧ ((ws = [[]] ∧ l = []) ∨ [] ∉ ws)) (fun KK hK => ?_) (fun σ H2 hp => ?_)
    · repeat walk_at "w"
      refine ⟨t, rfl, any1, fun H2 s2 => ?_⟩
      have s02 := s1.trans s2
      have ha2 := s2 _ _ ha1
      refine ⟨_, rfl, ?_⟩
      cases hb : bitsV t with
      | false =>
        repeat walk_at "w"
        refine w_rai1 ?_ mono_v
        repeat walk_at "w"
        refine ⟨t, rfl, raiseIt s02 fun l e => .inl ?_⟩
        rw [e] at hb
        exact hb
      | true =>
        obtain ⟨l, hl, rfl⟩ : ∃ l, l.length ≤ 1000 ∧ t = .str (S l) := by
          cases hany with
          | str l hl => exact ⟨l, hl, rfl⟩
          | _ => cases hb
        have hbl : bitsL l = true := hb
        obtain ⟨w0, hw0⟩ : ∃ w0, ws[0]? = some w0 := by
          cases h : ws with
          | nil => exact (gc.ne h).elim
          | cons x r => exact ⟨x, rfl⟩
        have v0 : (TV ws)[0]? = some (.str (S w0)) := by unfold TV; rw [List.getElem?_map, List.getElem?_map, hw0]; rfl
        repeat walk_at "w"
        refine w_ixL (SqL.of ha2) (atI_of (by decide) v0) ?_
        repeat walk_at "w"
        rw [e0]
        by_cases c0 : w0 = []
        · have ew : ws = [[]] := gc_empty gc (c0 ▸ List.mem_of_getElem? hw0)
          rw [decide_eq_true c0]
          repeat walk_at "w"
          rw [e0]
          by_cases cl : l = []
          · rw [decide_eq_true cl]
            repeat walk_at "w"
            exact hK _ _ ⟨l, rfl, hl, hbl, rfl, s02, .inl ⟨ew, cl⟩⟩
          · rw [decide_eq_false cl]
            repeat walk_at "w"
            refine w_rai1 ?_ mono_v
            repeat walk_at "w"
            refine ⟨_, rfl, raiseIt s02 fun l' e => .inr ?_⟩
            cases S_inj (by injection e : S l = S l')
            unfold readO
            rw [if_pos ew, if_neg cl]
        · rw [decide_eq_false c0]
          repeat walk_at "w"
          refine hK _ _ ⟨l, rfl, hl, hbl, rfl, s02, .inr fun hm => c0 ?_⟩
          rw [gc_empty gc hm] at hw0
          exact (Option.some.inj hw0).symm
    · obtain ⟨l, rfl, hl, hbl, rfl, s02, hcase⟩ := hp
      have ha2 := s02 _ _ ha
      have rd : readO ws l = (decF ws (l.length + 1) (l.drop 0)).map (([] : List Nat) ++ ·) := by
        rw [List.drop_zero, show (([] : List Nat) ++ ·) = id from rfl, Option.map_id_fun]
        unfold readO
        rcases hcase with ⟨h1, h2⟩ | h
        · rw [if_pos h1, if_pos h2, h2]; rfl
        · rw [if_neg (fun z => h (by rw [z]; exact List.mem_cons_self))]; rfl
      repeat walk_at "w"
      refine w_par ?_
      repeat walk_at "w"
      refine w_new fun F H3 n3 s3 f3 => ?_
      repeat walk_at "w"
      refine ⟨_, _, rfl, ?_⟩
      have nF : H F = none := s02.free n3
      repeat walk_at "w"
      refine w_while (fun m σ H' => ∃ (k : Nat) (its : List Nat) (o4 : Option V), σ = [some (.ref a), some (.str (S l)), some (.ref F), some (.int (k : Nat)), o4] ∧ k ≤ l.length ∧ m = l.length - k ∧ Same H2 H' ∧ H' F = some (.lst (natsV its)) ∧ its.length ≤ k ∧ readO ws l = (decF ws (l.length + 1) (l.drop k)).map (its ++ ·)) l.length
        ⟨0, [], _, rfl, Nat.zero_le _, rfl, s3, f3, Nat.le_refl _, rd⟩ (fun m σ H' hp => ?_)
      obtain ⟨k, its, o4, rfl, hk, rfl, sm, hF, hi, hrd⟩ := hp
      have ha' := sm _ _ ha2
      repeat walk_at "w"
      refine w_lenC (by rw [hz]; omega) ?_
      repeat walk_at "w"
      refine ite2 (fun hlt => ?_) (fun hge => ?_)
      · rw [decide_eq_true_eq] at hlt
        have hkl : k < l.length := by omega
        have hne : l.drop k ≠ [] := fun z => by
          have := congrArg List.length z
          rw [List.length_drop] at this
          simp only [List.length_nil] at this
          omega
        have hnm : [] ∉ ws := hcase.elim (fun h => by rw [h.2] at hkl; simp at hkl) id
        rw [dec_cons _ hne] at hrd
        refine w_whB ?_
        repeat walk_at "w"
        refine ⟨a, ws, l, k, rfl, ha', by omega, fun w hw => by have := (gc.bits w hw).2; omega, hl, fun H4 s4 => ?_⟩
        have hF4 := s4 _ _ hF
        have ha4 := s4 _ _ ha'
        have sm4 := sm.trans s4
        cases hf : firstW ws (l.drop k) with
        | none =>
          rw [hf] at hrd
          show gName 4 (V.non) _ _ _
          repeat walk_at "w"
          refine ⟨rfl, ?_⟩
          repeat walk_at "w"
          refine w_rai1 ?_ mono_v
          repeat walk_at "w"
          refine ⟨_, rfl, raiseIt (s02.trans sm4) fun l' e => .inr ?_⟩
          cases S_inj (by injection e : S l = S l')
          rw [hrd]; rfl
        | some i =>
          rw [hf] at hrd
          obtain ⟨hil, hpre⟩ := firstW_some hf
          have gw : ws[i]? = some (ws.getD i []) := by rw [List.getD_eq_getElem?_getD, List.getElem?_eq_getElem hil]; rfl
          have hwm := List.mem_of_getElem? gw
          have hwl := (gc.bits _ hwm).2
          have hpl := hpre.length_le
          rw [List.length_drop] at hpl
          have hpos : 0 < (ws.getD i []).length := List.length_pos_iff.mpr fun z => hnm (z ▸ hwm)
          show gName 4 (V.int ((i : Nat) : Int)) _ _ _
          repeat walk_at "w"
          refine ⟨rfl, ?_⟩
          repeat walk_at "w"
          rw [decide_eq_false (show ¬ V.int ((i : Nat) : Int) = V.non by intro z; cases z)]
          repeat walk_at "w"
          try refine w_append hF4 (by rw [hz]; unfold natsV; rw [List.length_map, List.length_map]; omega) ?_
          refine w_chg fun H5 e5 f5 => ?_
          have sm5 : Same H2 H5 := But.new sm4 n3 e5
          have ha5 := sm5 _ _ ha2
          repeat walk_at "w"
          refine w_ixL (n := ((i : Nat) : Int)) (v := .str (S (ws.getD i []))) (SqL.of ha5) (atI_of (by omega) (by rw [Int.toNat_natCast]; unfold TV; rw [List.getElem?_map, List.getElem?_map, gw]; rfl)) ?_
          repeat walk_at "w"
          refine w_lenC (by rw [hz]; omega) ?_
          repeat walk_at "w"
          refine ⟨l.length - (k + (ws.getD i []).length), by omega, k + (ws.getD i []).length, its ++ [i], _, rfl, by omega, rfl, sm5, ?_, ?_, ?_⟩
          · rw [f5]; unfold natsV; rw [List.map_append, List.map_append]; rfl
          · rw [List.length_append, List.length_singleton]; omega
          · rw [hrd]
            show ((decF ws l.length ((l.drop k).drop (ws.getD i []).length)).map (i :: ·)).map (its ++ ·) = _
            rw [List.drop_drop]
            have hdl : (l.drop (k + (ws.getD i []).length)).length < l.length := by rw [List.length_drop]; omega
            rw [dec_more hnm l.length (l.length + 1) _ hdl (by omega), Option.map_map]
            congr 1
            funext z
            simp
      · rw [decide_eq_true_eq] at hge
        repeat walk_at "w"
        have hkl : k = l.length := by omega
        rw [hkl, List.drop_length] at hrd
        have : readO ws l = some its := by rw [hrd]; show some (its ++ []) = _; rw [List.append_nil]
        exact qb l its rfl hbl this F H' hF (s02.trans sm) nF
end

end J
namespace J
open PySem PySem.Spec PyProof.Rows L2

local macro_rules | `(tactic| walk_at "ty") => `(tactic| first
  | with_reducible exact ty_int
  | with_reducible exact ty_bl
  | with_reducible exact ty_str
  | with_reducible exact ty_non
  | ((with_reducible refine' ty_lst ?vv); (case vv => walk_at "tr"))
  | ((with_reducible refine' ty_sqT ?vv); (case vv => walk_at "tr"))
  | ((with_reducible refine' ty_dic ?vv); (case vv => walk_at "tr")))
local macro_rules | `(tactic| walk_at "ix") => `(tactic| first | exact at0 | exact at1 | exact at2 | assumption)
local macro_rules | `(tactic| walk_at "size") => `(tactic| first
  | assumption
  | (show _ < sizeLine; rw [sizeLine_eq]; (try simp only [List.length_cons, List.length_nil, List.length_append, List.length_map]); omega)
  | (show _ ≤ sizeLine; rw [sizeLine_eq]; (try simp only [List.length_cons, List.length_nil, List.length_append, List.length_map]); omega))
local macro_rules | `(tactic| walk_at "side") => `(tactic| first
  | assumption
  | ((with_reducible refine cdw ?_ ?_) <;> omega)
  | omega
  | (exact ⟨by omega, by omega⟩)
  | (exact Or.inl ⟨by omega, by omega⟩)
  | (exact Or.inr ⟨by omega, by omega⟩)
  | decide
  | (simp only [List.length_cons, List.length_nil, List.length_append, List.length_map]; omega)
  | (show _ ≤ _; decide))
local macro_rules | `(tactic| walk_at "as") => `(tactic| with_reducible assumption)
local macro_rules | `(tactic| walk_at "tr") => `(tactic| first
  | with_reducible assumption
  | with_reducible exact upd_same
  | ((with_reducible refine' SqL.of ?hh); (case hh => walk_at "as"))
  | ((with_reducible refine' SqT.of ?hh); (case hh => walk_at "as"))
  | ((with_reducible refine' Same.stm ?ee ?gg); (case ee => walk_at "as"); (case gg => walk_at "tr"))
  | ((with_reducible refine' Same.sqT ?ee ?gg); (case ee => walk_at "as"); (case gg => walk_at "tr"))
  | ((with_reducible refine' Same.sqL ?ee ?gg); (case ee => walk_at "as"); (case gg => walk_at "tr"))
  | ((with_reducible refine' Same.at ?ee ?gg); (case ee => walk_at "as"); (case gg => walk_at "tr"))
  | ((with_reducible refine' But.stm ?ee ?ff ?gg); (case ee => walk_at "as"); (case ff => walk_at "ne"); (case gg => walk_at "tr"))
  | ((with_reducible refine' But.tup ?ee ?ff ?gg); (case ee => walk_at "as"); (case ff => walk_at "tr1"); (case gg => walk_at "tr"))
  | ((with_reducible refine' But.sqT ?ee ?ff ?gg); (case ee => walk_at "as"); (case ff => walk_at "tr1"); (case gg => walk_at "tr"))
  | ((with_reducible refine' But.tupL ?ee ?ff ?gg); (case ee => walk_at "as"); (case ff => walk_at "tr1"); (case gg => walk_at "tr"))
  | ((with_reducible refine' But.sqTL ?ee ?ff ?gg); (case ee => walk_at "as"); (case ff => walk_at "tr1"); (case gg => walk_at "tr"))
  | ((with_reducible refine' But.sqL ?ee ?ff ?gg); (case ee => walk_at "as"); (case ff => walk_at "ne"); (case gg => walk_at "tr"))
  | ((with_reducible refine' But.at ?ee ?ff ?gg); (case ee => walk_at "as"); (case ff => walk_at "ne"); (case gg => walk_at "tr")))
local macro_rules | `(tactic| walk_at "ts") => `(tactic| first
  | with_reducible assumption
  | with_reducible exact TS.refl _
  | ((with_reducible refine' TS.trans ?gg (TS.of ?ee)); (case ee => walk_at "as"); (case gg => walk_at "ts"))
  | ((with_reducible refine' TS.trans ?gg (TS.butS ?ee ?ff)); (case ee => walk_at "as"); (case ff => walk_at "tr1"); (case gg => walk_at "ts"))
  | ((with_reducible refine' TS.trans ?gg (TS.butL ?ee ?ff)); (case ee => walk_at "as"); (case ff => walk_at "tr1"); (case gg => walk_at "ts"))
  | ((with_reducible refine' TS.trans ?gg (TS.butI ?ee ?ff)); (case ee => walk_at "as"); (case ff => walk_at "tr1"); (case gg => walk_at "ts")))
local macro_rules | `(tactic| walk_at "sm") => `(tactic| first
  | with_reducible assumption
  | with_reducible exact Same.refl _
  | ((with_reducible refine' Same.trans ?gg ?ee); (case ee => walk_at "as"); (case gg => walk_at "sm"))
  | ((with_reducible refine' But.new ?gg ?nn ?ee); (case ee => walk_at "as"); (case nn => walk_at "fr"); (case gg => walk_at "sm")))
local macro_rules | `(tactic| walk_at "fr") => `(tactic| first
  | with_reducible assumption
  | ((with_reducible refine' Same.back ?ee ?nn); (case nn => walk_at "as"); (case ee => walk_at "sm"))
  | ((with_reducible refine' But.back ?ee ?ff ?nn); (case nn => walk_at "as"); (case ff => walk_at "ne0"); (case ee => walk_at "bu")))
local macro_rules | `(tactic| walk_at "bu") => `(tactic| first
  | with_reducible assumption
  | with_reducible exact But.refl _ _
  | ((with_reducible refine' But.trans ?gg ?ee); (case ee => walk_at "as"); (case gg => walk_at "bu"))
  | ((with_reducible refine' But.trans ?gg (But.of ?ee)); (case ee => walk_at "as"); (case gg => walk_at "bu"))
  | ((with_reducible refine' But.new2 ?gg ?nn ?ee); (case ee => walk_at "as"); (case nn => walk_at "frB"); (case gg => walk_at "bu")))
local macro_rules | `(tactic| walk_at "frB") => `(tactic| first
  | with_reducible assumption
  | ((with_reducible refine' Same.back ?ee ?nn); (case nn => walk_at "as"); (case ee => walk_at "sm"))
  | ((with_reducible refine' But.back' ?ee ?ff ?nn); (case nn => walk_at "as"); (case ee => walk_at "bu"); (case ff => walk_at "tr1")))
local macro_rules | `(tactic| walk_at "tr1") => `(tactic| first
  | with_reducible assumption
  | ((with_reducible refine' Same.stm ?ee ?gg); (case ee => walk_at "as"); (case gg => walk_at "tr1"))
  | ((with_reducible refine' Same.at ?ee ?gg); (case ee => walk_at "as"); (case gg => walk_at "tr1"))
  | ((with_reducible refine' But.at ?ee ?ff ?gg); (case ee => walk_at "as"); (case ff => walk_at "ne0"); (case gg => walk_at "tr1"))
  | ((with_reducible refine' But.stm ?ee ?ff ?gg); (case ee => walk_at "as"); (case ff => walk_at "ne0"); (case gg => walk_at "tr1")))
local macro_rules | `(tactic| walk_at "ne0") => `(tactic| first
  | with_reducible assumption
  | (with_reducible apply Ne.symm; with_reducible assumption))
local macro_rules | `(tactic| walk_at "ne") => `(tactic| first
  | with_reducible assumption
  | (with_reducible apply Ne.symm; with_reducible assumption)
  | ((with_reducible refine' stm_ne ?hh ?nn); (case nn => walk_at "as"); (case hh => walk_at "tr1"))
  | ((with_reducible refine' ne_of_none ?hh ?nn); (case nn => walk_at "as"); (case hh => walk_at "tr1"))
  | ((with_reducible apply Ne.symm); (with_reducible refine' ne_of_none ?hh ?nn); (case nn => walk_at "as"); (case hh => walk_at "tr1")))
local macro_rules | `(tactic| walk_at "v") => `(tactic| first
  | with_reducible refine w_seq ?_
  | ((with_reducible refine' w_var ?vv ?_); (case vv => exact rfl))
  | with_reducible refine w_c ?_
  | with_reducible refine w_op ?_
  | with_reducible refine w_asg ?_
  | with_reducible refine w_gName ?_
  | with_reducible refine w_ret ?_
  | with_reducible refine w_ifS ?_
  | with_reducible refine w_drop ?_
  | with_reducible refine w_next ?_
  | with_reducible refine w_cons ?_
  | with_reducible refine w_nil ?_
  | with_reducible refine w_call ?_
  | with_reducible refine w_cb ?_
  | with_reducible refine w_rI0 ?_
  | with_reducible refine w_addI ?_
  | with_reducible refine w_eqI ?_
  | with_reducible refine w_neI ?_
  | with_reducible refine w_eqS ?_
  | with_reducible refine w_neS ?_
  | with_reducible refine w_eqB ?_
  | with_reducible refine w_neB ?_
  | with_reducible refine w_chain ?_
  | with_reducible refine w_test ?_
  | with_reducible refine w_tB ?_
  | with_reducible refine w_bl ?_
  | ((with_reducible refine' w_mulI ?vv ?_); (case vv => walk_at "side"))
  | ((with_reducible refine' w_rI ?vv ?_); (case vv => walk_at "side"))
  | with_reducible refine w_int1 ?_
  | with_reducible refine w_int1b ?_
  | with_reducible refine w_tup ?_
  | with_reducible refine w_lst ?_
  | with_reducible refine w_un ?_
  | with_reducible refine w_rU ?_
  | with_reducible refine w_not ?_
  | with_reducible refine w_notV ?_
  | with_reducible refine w_ifE ?_
  | with_reducible refine w_nT ?_
  | with_reducible refine w_nF ?_
  | with_reducible refine iteT ?_
  | with_reducible refine iteF ?_
  | ((with_reducible refine' w_ixT ?vv ?ww ?_); (case vv => walk_at "tr"); (case ww => walk_at "ix"))
  | ((with_reducible refine' w_ixL ?vv ?ww ?_); (case vv => walk_at "tr"); (case ww => walk_at "ix"))
  | with_reducible refine w_gSub ?_
  | ((with_reducible refine' w_setL ?vv ?ww ?_); (case vv => walk_at "tr"); (case ww => first | rfl | decide | assumption))
  | ((with_reducible refine' w_lenL ?vv ?_); (case vv => walk_at "tr"))
  | ((with_reducible refine' w_lenT ?vv ?_); (case vv => walk_at "tr"))
  | with_reducible refine w_max2 ?_
  | with_reducible refine w_max3 ?_
  | with_reducible refine w_din ?_
  | with_reducible refine w_dnotin ?_
  | with_reducible refine w_dput ?_
  | with_reducible refine w_min2 ?_
  | with_reducible refine w_bm ?_
  | with_reducible refine w_bm0 ?_
  | ((with_reducible refine' w_tyL ?vv ?_); (case vv => walk_at "tr"))
  | ((with_reducible refine' w_append ?vv ?ww ?_); (case vv => walk_at "tr"); (case ww => walk_at "size"))
  | ((with_reducible refine' w_size ?vv ?_); (case vv => walk_at "size"))
  | with_reducible refine w_forL ?_
  | with_reducible refine w_forT ?_
  | with_reducible refine w_forR1 ?_
  | with_reducible refine w_forR2 ?_
  | with_reducible refine w_lcL ?_
  | with_reducible refine w_lcT ?_
  | with_reducible refine w_lcR1 ?_
  | with_reducible refine w_yes ?_
  | with_reducible refine w_sl ?_
  | with_reducible refine w_noPart ?_
  | with_reducible refine w_part ?_
  | with_reducible refine w_int ?_
  | ((with_reducible refine' w_slL ?vv ?_); (case vv => walk_at "tr"))
  | ((with_reducible refine' w_seqL ?vv ?ww ?_); (case vv => walk_at "tr"); (case ww => rfl))
  | ((with_reducible refine' w_seqT ?vv ?ww ?_); (case vv => walk_at "tr"); (case ww => rfl))
  | with_reducible refine w_gNil ?_
  | with_reducible refine w_gCons ?_
  | with_reducible refine w_forZ ?_
  | with_reducible refine w_forM ?_
  | with_reducible refine w_forE ?_
  | with_reducible refine w_forV ?_
  | with_reducible refine w_lcZ ?_
  | with_reducible refine w_lcE ?_
  | ((with_reducible refine' w_isi (b := true) ?vv ?ww ?_); (case vv => walk_at "ty"); (case ww => decide +kernel))
  | ((with_reducible refine' w_isi (b := false) ?vv ?ww ?_); (case vv => walk_at "ty"); (case ww => decide +kernel))
  | with_reducible refine w_revL ?_
  | with_reducible refine w_pairN ?_
  | with_reducible refine w_pairC ?_
  | with_reducible refine w_dget ?_
  | with_reducible refine w_met ?_
  | ((with_reducible refine' w_metAt ?vv ?ww ?_); (case vv => walk_at "tr"); (case ww => rfl))
  | with_reducible refine w_mkI ?_
  | with_reducible refine w_fld ?_
  | ((with_reducible refine' w_fldAt ?vv ?cc ?nn ?ww ?_); (case vv => walk_at "tr"); (case cc => walk_at "cls"); (case nn => walk_at "na"); (case ww => rfl))
  | with_reducible refine w_sfld ?_
  | ((with_reducible refine' w_sfldAt ?vv ?cc ?nn ?ll ?ee ?_); (case vv => walk_at "tr"); (case cc => walk_at "cls"); (case nn => walk_at "na"); (case ll => simp); (case ee => rfl))
  | ((with_reducible refine' w_tupL ?vv ?_); (case vv => walk_at "tr"))
  | ((with_reducible refine' w_tupT ?vv ?_); (case vv => walk_at "tr"))
  | ((with_reducible refine' w_listL ?vv ?_); (case vv => walk_at "tr"))
  | ((with_reducible refine' w_listT ?vv ?_); (case vv => walk_at "tr"))
  | with_reducible refine w_tyS ?_
  | with_reducible refine w_lcZM ?_
  | with_reducible refine w_js ?_
  | with_reducible refine w_jsN ?_
  | ((with_reducible refine' w_jsP ?vv ?_); (case vv => walk_at "size"))
  | with_reducible refine w_fmt ?_
  | with_reducible refine w_forRR ?_
  | with_reducible refine w_retN ?_
  | with_reducible refine w_break ?_
  | with_reducible refine w_cont ?_)
local macro_rules | `(tactic| walk_at "w") => `(tactic| first
  | walk_at "v"
  | with_reducible refine w_or ?_
  | with_reducible refine w_and ?_
  | with_reducible refine w_andV ?_
  | with_reducible refine w_orV ?_)
local macro_rules | `(tactic| walk_at "wd") => `(tactic| first
  | walk_at "w"
  | ((with_reducible refine' w_decT ?vv ?_); (case vv => decide +kernel))
  | ((with_reducible refine' w_decF ?vv ?_); (case vv => decide +kernel)))
local macro_rules | `(tactic| walk_at "tz") => `(tactic| (intro S z; (repeat walk_at "w"); exact z))
local macro_rules | `(tactic| walk_at "wf") => `(tactic| first
  | walk_at "wd"
  | ((with_reducible refine' w_decF ?vv ?_); (case vv => with_reducible assumption)))
/-! ### codes: the law's own parts -/
open SX
/-- twins: two values alike -/
inductive Tw (H : Hp) : Nat → V → V → Prop
  | non {n : Nat} : Tw H (n + 1) .non .non
  | bl {n : Nat} (b : Bool) : Tw H (n + 1) (.bl b) (.bl b)
  | int {n : Nat} (i : Int) : Tw H (n + 1) (.int i) (.int i)
  | str {n : Nat} (x : Str) : Tw H (n + 1) (.str x) (.str x)
  | lst {n : Nat} {a b : Addr} {xs ys : List V} (h1 : H a = some (.lst xs)) (h2 : H b = some (.lst ys)) (hl : xs.length = ys.length) (hb : xs.length ≤ 100000) (h : ∀ (i : Nat) x y, xs[i]? = some x → ys[i]? = some y → Tw H n x y) : Tw H (n + 1) (.ref a) (.ref b)
theorem Tw.sm {H H' : Hp} (e : Same H H') {n : Nat} {u v : V} (h : Tw H n u v) : Tw H' n u v := by
  induction h with
  | non => exact .non
  | bl b => exact .bl b
  | int i => exact .int i
  | str x => exact .str x
  | lst h1 h2 hl hb _ ih => exact .lst (e _ _ h1) (e _ _ h2) hl hb ih
theorem Tw.ints {H : Hp} {a b : Addr} {ns : List Int} (h1 : H a = some (.lst (ns.map V.int))) (h2 : H b = some (.lst (ns.map V.int))) (hl : ns.length ≤ 100000) (n : Nat) : Tw H (n + 2) (.ref a) (.ref b) :=
  .lst h1 h2 rfl (by rw [List.length_map]; exact hl) fun i x y hx hy => by
    rw [hx] at hy
    cases Option.some.inj hy
    rw [List.getElem?_map] at hx
    obtain ⟨m, _, rfl⟩ := Option.map_eq_some_iff.mp hx
    exact .int m
def spIs (n : Nat) : Sp := fun vs H Q _ => ∃ u v, vs = [u, v] ∧ 1 ≤ n ∧ Tw H n u v ∧ ∀ H', Same H H' → Q (.bl true) H'
theorem len_law_is {n : Nat} {vs H Q E} (h : spIs n vs H Q E) : vs.length = 2 := by obtain ⟨_, _, rfl, _⟩ := h; rfl
theorem no_law_is {vs H Q E} (h : spIs 0 vs H Q E) : False := by obtain ⟨_, _, _, h, _⟩ := h; omega
/-- data that repr tells -/
structure Rp (m k : Nat) (d : PyData) : Prop where
  s : d.showable = true
  l : d.leavesShort 8 = true
  b : d.bulk ≤ m
  k : d.depth ≤ k
theorem Rp.size {m k : Nat} {d : PyData} (h : Rp m k d) (hm : m ≤ 1000000) (hk : k ≤ 60) : d.showable = true ∧ d.depth ≤ 60 ∧ d.shown.length ≤ sizeLine := ⟨h.s, by have := h.k; omega, by
  have h1 := PyData.shown_le_bulk 8 (Nat.le_refl 8) d h.l
  have h2 := h.b
  rw [sizeLine_eq]
  omega⟩
theorem Rp.list {m k : Nat} {ds : List PyData} (h : ∀ d ∈ ds, Rp m k d) : Rp (ds.length * (m + 1)) (k + 1) (.list ds) := by
  have key : PyData.showableAll ds = true ∧ PyData.leavesShortAll 8 ds = true ∧ PyData.bulkAll ds ≤ ds.length * (m + 1) ∧ PyData.depthAll ds ≤ k := by
    induction ds with
    | nil => simp [PyData.showableAll, PyData.leavesShortAll, PyData.bulkAll, PyData.depthAll]
    | cons d ds ih =>
      obtain ⟨a1, a2, a3, a4⟩ := ih fun x hx => h x (List.mem_cons_of_mem _ hx)
      obtain ⟨b1, b2, b3, b4⟩ := h d List.mem_cons_self
      refine ⟨by simp [PyData.showableAll, a1, b1], by simp [PyData.leavesShortAll, a2, b2], ?_, ?_⟩
      · rw [PyData.bulkAll, List.length_cons, Nat.add_mul]; omega
      · rw [PyData.depthAll]; omega
  refine ⟨by rw [PyData.showable]; exact key.1, by rw [PyData.leavesShort]; exact key.2.1, by rw [PyData.bulk]; exact key.2.2.1, by rw [PyData.depth]; omega⟩
/-- the thing that an error holds: it is the given one itself -/
inductive VeryAt (K : PySem.W.Frag) (H : Hp) : V → Prop
  | non : VeryAt K H .non
  | bl (b : Bool) : VeryAt K H (.bl b)
  | int (i : Int) (h : Rp 70 1 (.int i)) : VeryAt K H (.int i)
  | str (l : List Nat) (h : Rp 1000 1 (.str (S l))) : VeryAt K H (.str (S l))
  | lst {a : Addr} {xs : List V} {ds : List PyData} (h : H a = some (.lst xs)) (hd : ∀ H', But a H H' → DpAll K H' xs ds) (hl : xs.length ≤ 100) (r : ∀ d ∈ ds, Rp 1000 10 d) : VeryAt K H (.ref a)
  | tup {a : Addr} {xs : List V} {ds : List PyData} (h : SqT K H a xs) (hd : DpAll K H xs ds) (r : Rp 1000 10 (.tuple ds)) : VeryAt K H (.ref a)
  | dic {a : Addr} (h : H a = some (.dK [])) : VeryAt K H (.ref a)
def spVery (K : PySem.W.Frag) : Sp := fun vs H Q _ => ∃ v, vs = [v, v] ∧ VeryAt K H v ∧ ∀ H', Same H H' → Q (.bl true) H'
theorem len_law_very {K : PySem.W.Frag} {vs H Q E} (h : spVery K vs H Q E) : vs.length = 2 := by obtain ⟨_, rfl, _⟩ := h; rfl
def oddTexts : List (List Nat) := [[97], [48, 32, 49], [48, 49, 120], [48, 10]]
def spOddT : Sp := fun vs H Q _ => ∃ s, vs = [.ref s] ∧ Stm H s ∧ ∀ l H', l ∈ oddTexts → Stm H' s → But s H H' → Q (.str (S l)) H'
theorem len_law_odd_text {vs H Q E} (h : spOddT vs H Q E) : vs.length = 1 := by obtain ⟨_, rfl, _⟩ := h; rfl
theorem w_pop1 {H : Hp} {Q : VK} {l : Addr} {ys : List V} {y : V} (h : H l = some (.lst (ys ++ [y]))) (k : ChgO l (.lst ys) H (Q y)) : rPop (.ref l) [] H Q := by
  refine ⟨l, ys ++ [y], y, rfl, rfl, h, by simp, ?_⟩
  rw [List.dropLast_concat]
  exact k
theorem w_reprR {K : PySem.W.Frag} {H : Hp} {Q : VK} {v : V} {d : PyData} {m k : Nat} (h : Dp K H v d) (r : Rp m k d) (hm : m ≤ 1000000) (hk : k ≤ 60) (q : Q (.str d.shown) H) : XL.rReprA K [v] H Q :=
  have z := r.size hm hk
  w_reprD h z.1 z.2.1 z.2.2 q
theorem rp_none : Rp 0 1 .none := ⟨by simp [PyData.showable], by simp [PyData.leavesShort], by simp [PyData.bulk], by simp [PyData.depth]⟩
theorem rp_bool (b : Bool) : Rp 0 1 (.bool b) := ⟨by simp [PyData.showable], by simp [PyData.leavesShort], by simp [PyData.bulk], by simp [PyData.depth]⟩
theorem rp_str {l : List Nat} (hl : l.length ≤ 1000) (hc : ∀ c ∈ l, c < 256) : Rp l.length 1 (.str (S l)) := ⟨by simp [PyData.showable], by
  rw [PyData.leavesShort, List.all_eq_true]
  intro c hcm
  have := hc c hcm
  exact decide_eq_true (Nat.lt_of_lt_of_le this (by decide)), by rw [PyData.bulk]; exact Nat.le_refl _, by simp [PyData.depth]⟩
theorem rp_mono {m k m' k' : Nat} {d : PyData} (h : Rp m k d) (hm : m ≤ m') (hk : k ≤ k') : Rp m' k' d := ⟨h.s, h.l, Nat.le_trans h.b hm, Nat.le_trans h.k hk⟩
theorem rp_more : Rp 1000 10 (.str "more") := rp_mono (rp_str (l := [109, 111, 114, 101]) (by decide) (by decide)) (by decide) (by decide)
theorem more_ok : (PyData.dict (XL.kvD [(.inr "more", .int 1)])).showable = true ∧ (PyData.dict (XL.kvD [(.inr "more", .int 1)])).depth ≤ 60 ∧ (PyData.dict (XL.kvD [(.inr "more", .int 1)])).shown.length ≤ sizeLine :=
  ⟨by decide +kernel, by decide +kernel, by rw [sizeLine_eq]; decide +kernel⟩
section
variable {P : Program} {w : World} {K : PySem.W.Frag} {mg : Str → Option Value}
theorem ok_law_is [c : Facts K mg] : ∀ n : Nat, XL.Fn P w K mg "_law_is" (n + 1) ["told", "due"] ((spIs n))
  | 0 => by
    obtain ⟨fd, F⟩ := c.d_law_is
    exact XL.Fn.mk' (k := 0) F c.g_law_is sc_law_is (fun vs H Q E h => (no_law_is h).elim) (fun _ _ _ _ _ _ us hl => match us, hl with | [_, _], _ => rfl) (fun base cdv A outer s H vs Q E hr h => (no_law_is h).elim)
  | n + 1 => by
    have G__law_is := ok_law_is n
    obtain ⟨fd, F⟩ := c.d_law_is
    refine XL.Fn.mk' F c.g_law_is sc_law_is (k := n + 1) (fun vs H Q E h => ?_) (fun _ _ _ _ _ _ us hl => match us, hl with | [_, _], _ => rfl) (fun base cdv A outer s H vs Q E hr h => ?_)
    · exact len_law_is h
    · have nd := sc_law_is.nd
      have hu := hu_of hr.r
      have hr__law_is : XL.Rm (n + 1) _ := hr.mono (by omega)
      refine ⟨_, (PSs.nox (pss_cons (ps_if (pt_val (pe_callB (call_isiTA (K := K) rfl) (by rfl) c.f_isinstance boot_isinstance (pa_cons (pv 1) (pa_cons (pe_tup (pa_cons (pe_bltn (v := .ty "list") (by rfl) c.f_list boot_list rfl) (pa_cons (pe_bltn (v := .ty "tuple") (by rfl) c.f_tuple boot_tuple rfl) pa_nil))) pa_nil)))) (pss_cons (ps_if (PW.pt (pw_or (pt_not (pt_val (pe_callB (call_isiTA (K := K) rfl) (by rfl) c.f_isinstance boot_isinstance (pa_cons (pv 0) (pa_cons (pe_tup (pa_cons (pe_bltn (v := .ty "list") (by rfl) c.f_list boot_list rfl) (pa_cons (pe_bltn (v := .ty "tuple") (by rfl) c.f_tuple boot_tuple rfl) pa_nil))) pa_nil))))) (pw_or (pt_cmpR (op_neA (K := K) rfl hr.units) (pe_callB (call_isiA (K := K) rfl) (by rfl) c.f_isinstance boot_isinstance (pa_cons (pv 0) (pa_cons (pe_bltn (v := .ty "list") (by rfl) c.f_list boot_list rfl) pa_nil))) (pe_callB (call_isiA (K := K) rfl) (by rfl) c.f_isinstance boot_isinstance (pa_cons (pv 1) (pa_cons (pe_bltn (v := .ty "list") (by rfl) c.f_list boot_list rfl) pa_nil))) (nomark _)) (pw_or1 (pt_cmpR (op_neA (K := K) rfl hr.units) (pe_callB (call_lenA (K := K) rfl) (by rfl) c.f_len boot_len (pa_cons (pv 0) pa_nil)) (pe_callB (call_lenA (K := K) rfl) (by rfl) c.f_len boot_len (pa_cons (pv 1) pa_nil)) (nomark _)))))) (pss_one (ps_ret pe_bl)) pss_nil)
      (pss_one (ps_ret (pe_cmpR (op_eqA (K := K) rfl hr.units) (pe_lc (own := [("k", 2)]) rfl nd (pi_range1 (by rfl) c.f_range (pa_cons (pe_callB (call_lenA (K := K) rfl) (by rfl) c.f_len boot_len (pa_cons (pv 1) pa_nil)) pa_nil)) (blkOk_by (N := N_law_is) (sc := defScope s_law_is) (by decide +kernel)) (fun _ _ _ _ _ => (pg_name (i := 2) nd rfl (Or.inl rfl))) (fun _ _ _ _ _ => pts_one (pt_not (pt_val (XL.pe_fn G__law_is hr__law_is (by rfl) (pa_cons (pe_ix (ix_any (K := K) rfl) (pv 0) (pv 2) (fun _ _ => rfl)) (pa_cons (pe_ix (ix_any (K := K) rfl) (pv 1) (pv 2) (fun _ _ => rfl)) pa_nil)))))) (fun _ _ _ _ _ => (pv 2))) (pe_lst pa_nil) (nomark _))))) pss_nil)
      (pss_cons (ps_if (pt_cmpR op_isN (pv 1) pe_non (nomark _)) (pss_one (ps_ret (pe_cmpR op_isN (pv 0) pe_non (nomark _)))) pss_nil)
      (pss_cons (ps_if (pt_val (pe_callB (call_isiA (K := K) rfl) (by rfl) c.f_isinstance boot_isinstance (pa_cons (pv 1) (pa_cons (pe_bltn (v := .ty "bool") (by rfl) c.f_bool boot_bool rfl) pa_nil)))) (pss_one (ps_ret (pe_and (pe_callB (call_isiA (K := K) rfl) (by rfl) c.f_isinstance boot_isinstance (pa_cons (pv 0) (pa_cons (pe_bltn (v := .ty "bool") (by rfl) c.f_bool boot_bool rfl) pa_nil))) (pe_one (pe_cmpR (op_eqA (K := K) rfl hr.units) (pv 0) (pv 1) (nomark _)))))) pss_nil)
      (pss_cons (ps_if (pt_val (pe_callB (call_isiA (K := K) rfl) (by rfl) c.f_isinstance boot_isinstance (pa_cons (pv 1) (pa_cons (pe_bltn (v := .ty "str") (by rfl) c.f_str boot_str rfl) pa_nil)))) (pss_one (ps_ret (pe_and (pe_callB (call_isiA (K := K) rfl) (by rfl) c.f_isinstance boot_isinstance (pa_cons (pv 0) (pa_cons (pe_bltn (v := .ty "str") (by rfl) c.f_str boot_str rfl) pa_nil))) (pe_one (pe_cmpR (op_eqA (K := K) rfl hr.units) (pv 0) (pv 1) (nomark _)))))) pss_nil)
      (pss_one (ps_ret (pe_and (pe_callB (call_isiA (K := K) rfl) (by rfl) c.f_isinstance boot_isinstance (pa_cons (pv 0) (pa_cons (pe_bltn (v := .ty "int") (by rfl) c.f_int boot_int rfl) pa_nil))) (pe_and (pe_not (pe_callB (call_isiA (K := K) rfl) (by rfl) c.f_isinstance boot_isinstance (pa_cons (pv 0) (pa_cons (pe_bltn (v := .ty "bool") (by rfl) c.f_bool boot_bool rfl) pa_nil)))) (pe_one (pe_cmpR (op_eqA (K := K) rfl hr.units) (pv 0) (pv 1) (nomark _)))))))))))), ?_⟩
      try dsimp only [cxOf, Cx.nox, Cx.wish]
      obtain ⟨u, v, rfl, hn, ht, q⟩ := h
      have hz : sizeLine = 16777216 := sizeLine_eq
      cases ht with
      | non =>
        repeat walk_at "w"
        refine w_new fun tp H1 n1 s1 f1 => ?_
        repeat walk_at "w"
        refine w_isiT (b := false) ["list", "tuple"] f1 ty_non (by decide +kernel) ?_
        repeat walk_at "w"
        refine ⟨rfl, ?_⟩
        rw [decide_eq_true (show V.non = V.non from rfl)]
        repeat walk_at "w"
        refine ⟨rfl, ?_⟩
        rw [decide_eq_true (show V.non = V.non from rfl)]
        exact q _ s1
      | bl b =>
        repeat walk_at "w"
        refine w_new fun tp H1 n1 s1 f1 => ?_
        repeat walk_at "w"
        refine w_isiT (b := false) ["list", "tuple"] f1 ty_bl (by decide +kernel) ?_
        repeat walk_at "w"
        refine ⟨rfl, ?_⟩
        rw [decide_eq_false (show ¬ V.bl b = V.non by intro z; cases z)]
        repeat walk_at "w"
        rw [show (b == b) = true by simp]
        exact q _ s1
      | int i =>
        repeat walk_at "w"
        refine w_new fun tp H1 n1 s1 f1 => ?_
        repeat walk_at "w"
        refine w_isiT (b := false) ["list", "tuple"] f1 ty_int (by decide +kernel) ?_
        repeat walk_at "w"
        refine ⟨rfl, ?_⟩
        rw [decide_eq_false (show ¬ V.int i = V.non by intro z; cases z)]
        repeat walk_at "w"
        rw [decide_eq_true (show i = i from rfl)]
        exact q _ s1
      | str x =>
        repeat walk_at "w"
        refine w_new fun tp H1 n1 s1 f1 => ?_
        repeat walk_at "w"
        refine w_isiT (b := false) ["list", "tuple"] f1 ty_str (by decide +kernel) ?_
        repeat walk_at "w"
        refine ⟨rfl, ?_⟩
        rw [decide_eq_false (show ¬ V.str x = V.non by intro z; cases z)]
        repeat walk_at "w"
        rw [decide_eq_true (show x = x from rfl)]
        exact q _ s1
      | @lst m a b xs ys h1 h2 hl hb ht =>
        repeat walk_at "w"
        refine w_new fun tp H1 n1 s1 f1 => ?_
        have h11 := s1 _ _ h1
        have h21 := s1 _ _ h2
        repeat walk_at "w"
        refine w_isiT (b := true) ["list", "tuple"] f1 (ty_lst h21) (by decide +kernel) ?_
        repeat walk_at "w"
        refine w_new fun tq H2 n2 s2 f2 => ?_
        have h12 := s2 _ _ h11
        have h22 := s2 _ _ h21
        repeat walk_at "w"
        refine w_isiT (b := true) ["list", "tuple"] f2 (ty_lst h12) (by decide +kernel) ?_
        repeat walk_at "w"
        rw [show (!(true == true)) = false from rfl]
        repeat walk_at "w"
        rw [decide_eq_true (show (xs.length : Int) = ys.length by omega), Bool.not_true]
        repeat walk_at "w"
        refine lc_R1 (fun D j zs H' => Same H2 H' ∧ zs = []) (by omega) (by omega) (fun D H' hD e f => ⟨e, rfl⟩) (fun D hD j zs H' hj hll hy hp => ?_) (fun D hD zs H' hll hy hp => ?_)
        · obtain ⟨e, rfl⟩ := hp
          have h13 := e _ _ h12
          have h23 := e _ _ h22
          obtain ⟨x, hx⟩ : ∃ x, xs[j]? = some x := ⟨_, List.getElem?_eq_getElem (by omega)⟩
          obtain ⟨y, hy'⟩ : ∃ y, ys[j]? = some y := ⟨_, List.getElem?_eq_getElem (by omega)⟩
          repeat walk_at "w"
          refine w_ixL (v := x) (SqL.of h13) (atI_of (by omega) (by rw [Int.toNat_natCast]; exact hx)) ?_
          repeat walk_at "w"
          refine w_ixL (v := y) (SqL.of h23) (atI_of (by omega) (by rw [Int.toNat_natCast]; exact hy')) ?_
          repeat walk_at "w"
          have tw := (ht j x y hx hy').sm ((s1.trans s2).trans e)
          refine ⟨x, y, rfl, by cases tw <;> omega, tw, fun H3 s3 => ?_⟩
          repeat walk_at "w"
          exact lc_skip (s3 _ _ hy) hll ⟨e.trans s3, rfl⟩
        · obtain ⟨e, rfl⟩ := hp
          repeat walk_at "w"
          refine w_new fun Z H3 n3 s3 f3 => ?_
          refine w_eqIL (ns := []) (ms := []) (SqL.of (s3 _ _ hy)) (SqL.of f3) ?_
          exact q _ (((s1.trans s2).trans e).trans s3)
theorem ok_law_odd_text [c : Facts K mg] (G__law_take : XL.Fn P w K mg "_law_take" 1 ["stream", "many"] (spTake)) : XL.Fn P w K mg "_law_odd_text" 4 ["stream"] (spOddT) := by
  obtain ⟨fd, F⟩ := c.d_law_odd_text
  refine XL.Fn.mk' F c.g_law_odd_text sc_law_odd_text (k := 3) (fun vs H Q E h => ?_) (fun _ _ _ _ _ _ us hl => match us, hl with | [_], _ => rfl) (fun base cdv A outer s H vs Q E hr h => ?_)
  · exact len_law_odd_text h
  · have nd := sc_law_odd_text.nd
    have hu := hu_of hr.r
    have hr__law_take : XL.Rm 1 _ := hr.mono (by omega)
    refine ⟨_, (PSs.nox (pss_one (ps_ret (pe_ix (ix_any (K := K) rfl) (pe_lst (pa_cons pe_str (pa_cons pe_str (pa_cons pe_str (pa_cons pe_str pa_nil))))) (XL.pe_fn G__law_take hr__law_take (by rfl) (pa_cons (pv 0) (pa_cons pe_int pa_nil))) (fun _ _ => rfl))))), ?_⟩
    try dsimp only [cxOf, Cx.nox, Cx.wish]
    obtain ⟨s, rfl, hs, q⟩ := h
    repeat walk_at "w"
    refine w_new fun p1 H1 n1 s1 f1 => ?_
    have hs1 : Stm H1 s := s1.stm hs
    repeat walk_at "w"
    refine ⟨s, 4, rfl, hs1, by decide, by decide, fun d H2 d0 d1 hs2 e2 => ?_⟩
    have hp2 : SqL K H2 p1 _ := e2.sqL (stm_ne hs n1) (SqL.of f1)
    have b2 : But s H H2 := (But.of s1).trans e2
    have c : d = 0 ∨ d = 1 ∨ d = 2 ∨ d = 3 := by omega
    rcases c with rfl | rfl | rfl | rfl
    · exact w_ixL hp2 (atI_of (by decide) rfl) (q [97] _ (by simp [oddTexts]) hs2 b2)
    · exact w_ixL hp2 (atI_of (by decide) rfl) (q [48, 32, 49] _ (by simp [oddTexts]) hs2 b2)
    · exact w_ixL hp2 (atI_of (by decide) rfl) (q [48, 49, 120] _ (by simp [oddTexts]) hs2 b2)
    · exact w_ixL hp2 (atI_of (by decide) rfl) (q [48, 10] _ (by simp [oddTexts]) hs2 b2)
theorem ok_law_very [c : Facts K mg] : XL.Fn P w K mg "_law_very" 2 ["given", "thing"] ((spVery K)) := by
  obtain ⟨fd, F⟩ := c.d_law_very
  refine XL.Fn.mk' F c.g_law_very sc_law_very (k := 1) (fun vs H Q E h => ?_) (fun _ _ _ _ _ _ us hl => match us, hl with | [_, _], _ => rfl) (fun base cdv A outer s H vs Q E hr h => ?_)
  · exact len_law_very h
  · have nd := sc_law_very.nd
    have hu := hu_of hr.r
    refine ⟨_, (PSs.nox (pss_cons (ps_if (pt_val (pe_callB (call_isiA (K := K) rfl) (by rfl) c.f_isinstance boot_isinstance (pa_cons (pv 1) (pa_cons (pe_bltn (v := .ty "list") (by rfl) c.f_list boot_list rfl) pa_nil)))) (pss_one (ps_expr (pe_bm PySem.F.plainAttrs_list PySem.F.slot_list_append PySem.F.type_list_append mt_append (pv 1) (pa_cons pe_str pa_nil)))) pss_nil)
      (pss_cons (ps_if (pt_val (pe_callB (call_isiA (K := K) rfl) (by rfl) c.f_isinstance boot_isinstance (pa_cons (pv 1) (pa_cons (pe_bltn (v := .ty "dict") (by rfl) c.f_dict boot_dict rfl) pa_nil)))) (pss_one (ps_dput hu (pv 1) pe_str pe_int rfl)) pss_nil)
      (pss_cons (ps_set (i := 2) nd rfl (Or.inl rfl) (pe_cmpR (op_eqA (K := K) rfl hr.units) (pe_callB (XL.call_reprA (K := K) rfl hr.gd hr.units) (by rfl) c.f_repr boot_repr (pa_cons (pv 0) pa_nil)) (pe_callB (XL.call_reprA (K := K) rfl hr.gd hr.units) (by rfl) c.f_repr boot_repr (pa_cons (pv 1) pa_nil)) (nomark _)))
      (pss_cons (ps_if (pt_val (pe_callB (call_isiA (K := K) rfl) (by rfl) c.f_isinstance boot_isinstance (pa_cons (pv 1) (pa_cons (pe_bltn (v := .ty "list") (by rfl) c.f_list boot_list rfl) pa_nil)))) (pss_one (ps_expr (pe_bm0 PySem.F.plainAttrs_list PySem.F.slot_list_pop PySem.F.type_list_pop mt_pop (pv 1)))) pss_nil)
      (pss_cons (ps_if (pt_val (pe_callB (call_isiA (K := K) rfl) (by rfl) c.f_isinstance boot_isinstance (pa_cons (pv 1) (pa_cons (pe_bltn (v := .ty "dict") (by rfl) c.f_dict boot_dict rfl) pa_nil)))) (pss_one (ps_expr (pe_dpop1 (pv 1) pe_str ⟨by rfl, by rfl, by rfl, by rfl⟩))) pss_nil)
      (pss_one (ps_ret (pv 2))))))))), ?_⟩
    try dsimp only [cxOf, Cx.nox, Cx.wish]
    obtain ⟨v, rfl, hv, q⟩ := h
    have hz : sizeLine = 16777216 := sizeLine_eq
    cases hv with
    | non =>
      repeat walk_at "w"
      refine w_reprR (.non) rp_none (by decide) (by decide) ?_
      repeat walk_at "w"
      refine w_reprR (.non) rp_none (by decide) (by decide) ?_
      repeat walk_at "w"
      rw [decide_eq_true rfl]
      exact q H (Same.refl _)
    | bl b =>
      repeat walk_at "w"
      refine w_reprR (.bl b) (rp_bool b) (by decide) (by decide) ?_
      repeat walk_at "w"
      refine w_reprR (.bl b) (rp_bool b) (by decide) (by decide) ?_
      repeat walk_at "w"
      rw [decide_eq_true rfl]
      exact q H (Same.refl _)
    | int i r =>
      repeat walk_at "w"
      refine w_reprR (.int i) r (by decide) (by decide) ?_
      repeat walk_at "w"
      refine w_reprR (.int i) r (by decide) (by decide) ?_
      repeat walk_at "w"
      rw [decide_eq_true rfl]
      exact q H (Same.refl _)
    | str l r =>
      repeat walk_at "w"
      refine w_reprR (.str (S l)) r (by decide) (by decide) ?_
      repeat walk_at "w"
      refine w_reprR (.str (S l)) r (by decide) (by decide) ?_
      repeat walk_at "w"
      rw [decide_eq_true rfl]
      exact q H (Same.refl _)
    | @lst a xs ds h hd hl r =>
      repeat walk_at "w"
      refine w_chg fun H1 e1 f1 => ?_
      repeat walk_at "w"
      have hdl : ds.length = xs.length := (dpa_len (hd H (But.refl _ _))).symm
      have R : Rp ((ds ++ [PyData.str "more"]).length * 1001) 11 (.list (ds ++ [PyData.str "more"])) := Rp.list (m := 1000) (k := 10) fun d hd => (List.mem_append.mp hd).elim (r d) fun z => by rw [List.mem_singleton.mp z]; exact rp_more
      have Rm : (ds ++ [PyData.str "more"]).length * 1001 ≤ 1000000 := by rw [List.length_append, List.length_singleton]; omega
      have D1 : Dp K H1 (.ref a) (.list (ds ++ [PyData.str "more"])) := .lst (SqL.of f1) (dpa_app (hd H1 e1) (dpa_one (.str _)))
      refine w_reprR D1 R Rm (by decide) ?_
      repeat walk_at "w"
      refine w_reprR D1 R Rm (by decide) ?_
      repeat walk_at "w"
      rw [decide_eq_true rfl]
      repeat walk_at "w"
      refine w_pop1 f1 ?_
      refine w_chg fun H2 e2 f2 => ?_
      repeat walk_at "w"
      refine q H2 fun b o hb => ?_
      by_cases c : b = a
      · subst c; rw [h] at hb; rw [← hb]; exact f2
      · exact e2 _ _ c (e1 _ _ c hb)
    | @tup a xs ds h hd r =>
      repeat walk_at "w"
      refine w_reprR (.tup h hd) r (by decide) (by decide) ?_
      repeat walk_at "w"
      refine w_reprR (.tup h hd) r (by decide) (by decide) ?_
      repeat walk_at "w"
      rw [decide_eq_true rfl]
      exact q H (Same.refl _)
    | @dic a h =>
      repeat walk_at "w"
      refine ⟨a, _, rfl, DPut.k (k := .inr "more") h (by rw [hz]; decide), ?_⟩
      have f1 : upd H a (.dK (putK [] (.inr "more") (.int 1))) a = some (.dK [(.inr "more", .int 1)]) := upd_same
      generalize hH : upd H a (.dK (putK [] (.inr "more") (.int 1))) = H1 at f1
      repeat walk_at "w"
      refine .inr ⟨a, _, rfl, f1, rfl, more_ok.1, more_ok.2.1, more_ok.2.2, ?_⟩
      repeat walk_at "w"
      refine .inr ⟨a, _, rfl, f1, rfl, more_ok.1, more_ok.2.1, more_ok.2.2, ?_⟩
      repeat walk_at "w"
      rw [decide_eq_true rfl]
      repeat walk_at "w"
      show tVar 1 _ H1 fun x H2 => ∃ a', x = .ref a' ∧ IsD H2 a' ∧ tC (V.str (Str.ofString "more")) _ H2 fun y H3 => ∃ kvs k v, H3 a' = some (.dK kvs) ∧ y = kV k ∧ valV kvs k = some v ∧ tRet (tVar 2) _ _ (upd H3 a' (.dK (dropK kvs k)))
      repeat walk_at "w"
      refine ⟨a, rfl, .inl ⟨_, .inl f1⟩, ?_⟩
      repeat walk_at "w"
      refine ⟨_, .inr "more", .int 1, f1, rfl, rfl, ?_⟩
      repeat walk_at "w"
      refine q _ fun b o hb => ?_
      by_cases c : b = a
      · subst c; rw [h] at hb; rw [← hb]; exact upd_same
      · rw [upd_ne c, ← hH, upd_ne c]; exact hb
end

end J
namespace J
open PySem PySem.Spec PyProof.Rows L2

local macro_rules | `(tactic| walk_at "ty") => `(tactic| first
  | with_reducible exact ty_int
  | with_reducible exact ty_bl
  | with_reducible exact ty_str
  | with_reducible exact ty_non
  | ((with_reducible refine' ty_lst ?vv); (case vv => walk_at "tr"))
  | ((with_reducible refine' ty_sqT ?vv); (case vv => walk_at "tr"))
  | ((with_reducible refine' ty_dic ?vv); (case vv => walk_at "tr")))
local macro_rules | `(tactic| walk_at "ix") => `(tactic| first | exact at0 | exact at1 | exact at2 | assumption)
local macro_rules | `(tactic| walk_at "size") => `(tactic| first
  | assumption
  | (show _ < sizeLine; rw [sizeLine_eq]; (try simp only [List.length_cons, List.length_nil, List.length_append, List.length_map]); omega)
  | (show _ ≤ sizeLine; rw [sizeLine_eq]; (try simp only [List.length_cons, List.length_nil, List.length_append, List.length_map]); omega))
local macro_rules | `(tactic| walk_at "side") => `(tactic| first
  | assumption
  | ((with_reducible refine cdw ?_ ?_) <;> omega)
  | omega
  | (exact ⟨by omega, by omega⟩)
  | (exact Or.inl ⟨by omega, by omega⟩)
  | (exact Or.inr ⟨by omega, by omega⟩)
  | decide
  | (simp only [List.length_cons, List.length_nil, List.length_append, List.length_map]; omega)
  | (show _ ≤ _; decide))
local macro_rules | `(tactic| walk_at "as") => `(tactic| with_reducible assumption)
local macro_rules | `(tactic| walk_at "tr") => `(tactic| first
  | with_reducible assumption
  | with_reducible exact upd_same
  | ((with_reducible refine' SqL.of ?hh); (case hh => walk_at "as"))
  | ((with_reducible refine' SqT.of ?hh); (case hh => walk_at "as"))
  | ((with_reducible refine' Same.stm ?ee ?gg); (case ee => walk_at "as"); (case gg => walk_at "tr"))
  | ((with_reducible refine' Same.sqT ?ee ?gg); (case ee => walk_at "as"); (case gg => walk_at "tr"))
  | ((with_reducible refine' Same.sqL ?ee ?gg); (case ee => walk_at "as"); (case gg => walk_at "tr"))
  | ((with_reducible refine' Same.at ?ee ?gg); (case ee => walk_at "as"); (case gg => walk_at "tr"))
  | ((with_reducible refine' But.stm ?ee ?ff ?gg); (case ee => walk_at "as"); (case ff => walk_at "ne"); (case gg => walk_at "tr"))
  | ((with_reducible refine' But.tup ?ee ?ff ?gg); (case ee => walk_at "as"); (case ff => walk_at "tr1"); (case gg => walk_at "tr"))
  | ((with_reducible refine' But.sqT ?ee ?ff ?gg); (case ee => walk_at "as"); (case ff => walk_at "tr1"); (case gg => walk_at "tr"))
  | ((with_reducible refine' But.tupL ?ee ?ff ?gg); (case ee => walk_at "as"); (case ff => walk_at "tr1"); (case gg => walk_at "tr"))
  | ((with_reducible refine' But.sqTL ?ee ?ff ?gg); (case ee => walk_at "as"); (case ff => walk_at "tr1"); (case gg => walk_at "tr"))
  | ((with_reducible refine' But.sqL ?ee ?ff ?gg); (case ee => walk_at "as"); (case ff => walk_at "ne"); (case gg => walk_at "tr"))
  | ((with_reducible refine' But.at ?ee ?ff ?gg); (case ee => walk_at "as"); (case ff => walk_at "ne"); (case gg => walk_at "tr")))
local macro_rules | `(tactic| walk_at "ts") => `(tactic| first
  | with_reducible assumption
  | with_reducible exact TS.refl _
  | ((with_reducible refine' TS.trans ?gg (TS.of ?ee)); (case ee => walk_at "as"); (case gg => walk_at "ts"))
  | ((with_reducible refine' TS.trans ?gg (TS.butS ?ee ?ff)); (case ee => walk_at "as"); (case ff => walk_at "tr1"); (case gg => walk_at "ts"))
  | ((with_reducible refine' TS.trans ?gg (TS.butL ?ee ?ff)); (case ee => walk_at "as"); (case ff => walk_at "tr1"); (case gg => walk_at "ts"))
  | ((with_reducible refine' TS.trans ?gg (TS.butI ?ee ?ff)); (case ee => walk_at "as"); (case ff => walk_at "tr1"); (case gg => walk_at "ts")))
local macro_rules | `(tactic| walk_at "sm") => `(tactic| first
  | with_reducible assumption
  | with_reducible exact Same.refl _
  | ((with_reducible refine' Same.trans ?gg ?ee); (case ee => walk_at "as"); (case gg => walk_at "sm"))
  | ((with_reducible refine' But.new ?gg ?nn ?ee); (case ee => walk_at "as"); (case nn => walk_at "fr"); (case gg => walk_at "sm")))
local macro_rules | `(tactic| walk_at "fr") => `(tactic| first
  | with_reducible assumption
  | ((with_reducible refine' Same.back ?ee ?nn); (case nn => walk_at "as"); (case ee => walk_at "sm"))
  | ((with_reducible refine' But.back ?ee ?ff ?nn); (case nn => walk_at "as"); (case ff => walk_at "ne0"); (case ee => walk_at "bu")))
local macro_rules | `(tactic| walk_at "bu") => `(tactic| first
  | with_reducible assumption
  | with_reducible exact But.refl _ _
  | ((with_reducible refine' But.trans ?gg ?ee); (case ee => walk_at "as"); (case gg => walk_at "bu"))
  | ((with_reducible refine' But.trans ?gg (But.of ?ee)); (case ee => walk_at "as"); (case gg => walk_at "bu"))
  | ((with_reducible refine' But.new2 ?gg ?nn ?ee); (case ee => walk_at "as"); (case nn => walk_at "frB"); (case gg => walk_at "bu")))
local macro_rules | `(tactic| walk_at "frB") => `(tactic| first
  | with_reducible assumption
  | ((with_reducible refine' Same.back ?ee ?nn); (case nn => walk_at "as"); (case ee => walk_at "sm"))
  | ((with_reducible refine' But.back' ?ee ?ff ?nn); (case nn => walk_at "as"); (case ee => walk_at "bu"); (case ff => walk_at "tr1")))
local macro_rules | `(tactic| walk_at "tr1") => `(tactic| first
  | with_reducible assumption
  | ((with_reducible refine' Same.stm ?ee ?gg); (case ee => walk_at "as"); (case gg => walk_at "tr1"))
  | ((with_reducible refine' Same.at ?ee ?gg); (case ee => walk_at "as"); (case gg => walk_at "tr1"))
  | ((with_reducible refine' But.at ?ee ?ff ?gg); (case ee => walk_at "as"); (case ff => walk_at "ne0"); (case gg => walk_at "tr1"))
  | ((with_reducible refine' But.stm ?ee ?ff ?gg); (case ee => walk_at "as"); (case ff => walk_at "ne0"); (case gg => walk_at "tr1")))
local macro_rules | `(tactic| walk_at "ne0") => `(tactic| first
  | with_reducible assumption
  | (with_reducible apply Ne.symm; with_reducible assumption))
local macro_rules | `(tactic| walk_at "ne") => `(tactic| first
  | with_reducible assumption
  | (with_reducible apply Ne.symm; with_reducible assumption)
  | ((with_reducible refine' stm_ne ?hh ?nn); (case nn => walk_at "as"); (case hh => walk_at "tr1"))
  | ((with_reducible refine' ne_of_none ?hh ?nn); (case nn => walk_at "as"); (case hh => walk_at "tr1"))
  | ((with_reducible apply Ne.symm); (with_reducible refine' ne_of_none ?hh ?nn); (case nn => walk_at "as"); (case hh => walk_at "tr1")))
local macro_rules | `(tactic| walk_at "v") => `(tactic| first
  | with_reducible refine w_seq ?_
  | ((with_reducible refine' w_var ?vv ?_); (case vv => exact rfl))
  | with_reducible refine w_c ?_
  | with_reducible refine w_op ?_
  | with_reducible refine w_asg ?_
  | with_reducible refine w_gName ?_
  | with_reducible refine w_ret ?_
  | with_reducible refine w_ifS ?_
  | with_reducible refine w_drop ?_
  | with_reducible refine w_next ?_
  | with_reducible refine w_cons ?_
  | with_reducible refine w_nil ?_
  | with_reducible refine w_call ?_
  | with_reducible refine w_cb ?_
  | with_reducible refine w_rI0 ?_
  | with_reducible refine w_addI ?_
  | with_reducible refine w_eqI ?_
  | with_reducible refine w_neI ?_
  | with_reducible refine w_eqS ?_
  | with_reducible refine w_neS ?_
  | with_reducible refine w_eqB ?_
  | with_reducible refine w_neB ?_
  | with_reducible refine w_chain ?_
  | with_reducible refine w_test ?_
  | with_reducible refine w_tB ?_
  | with_reducible refine w_bl ?_
  | ((with_reducible refine' w_mulI ?vv ?_); (case vv => walk_at "side"))
  | ((with_reducible refine' w_rI ?vv ?_); (case vv => walk_at "side"))
  | with_reducible refine w_int1 ?_
  | with_reducible refine w_int1b ?_
  | with_reducible refine w_tup ?_
  | with_reducible refine w_lst ?_
  | with_reducible refine w_un ?_
  | with_reducible refine w_rU ?_
  | with_reducible refine w_not ?_
  | with_reducible refine w_notV ?_
  | with_reducible refine w_ifE ?_
  | with_reducible refine w_nT ?_
  | with_reducible refine w_nF ?_
  | with_reducible refine iteT ?_
  | with_reducible refine iteF ?_
  | ((with_reducible refine' w_ixT ?vv ?ww ?_); (case vv => walk_at "tr"); (case ww => walk_at "ix"))
  | ((with_reducible refine' w_ixL ?vv ?ww ?_); (case vv => walk_at "tr"); (case ww => walk_at "ix"))
  | with_reducible refine w_gSub ?_
  | ((with_reducible refine' w_setL ?vv ?ww ?_); (case vv => walk_at "tr"); (case ww => first | rfl | decide | assumption))
  | ((with_reducible refine' w_lenL ?vv ?_); (case vv => walk_at "tr"))
  | ((with_reducible refine' w_lenT ?vv ?_); (case vv => walk_at "tr"))
  | with_reducible refine w_max2 ?_
  | with_reducible refine w_max3 ?_
  | with_reducible refine w_din ?_
  | with_reducible refine w_dnotin ?_
  | with_reducible refine w_dput ?_
  | with_reducible refine w_min2 ?_
  | with_reducible refine w_bm ?_
  | with_reducible refine w_bm0 ?_
  | ((with_reducible refine' w_tyL ?vv ?_); (case vv => walk_at "tr"))
  | ((with_reducible refine' w_append ?vv ?ww ?_); (case vv => walk_at "tr"); (case ww => walk_at "size"))
  | ((with_reducible refine' w_size ?vv ?_); (case vv => walk_at "size"))
  | with_reducible refine w_forL ?_
  | with_reducible refine w_forT ?_
  | with_reducible refine w_forR1 ?_
  | with_reducible refine w_forR2 ?_
  | with_reducible refine w_lcL ?_
  | with_reducible refine w_lcT ?_
  | with_reducible refine w_lcR1 ?_
  | with_reducible refine w_yes ?_
  | with_reducible refine w_sl ?_
  | with_reducible refine w_noPart ?_
  | with_reducible refine w_part ?_
  | with_reducible refine w_int ?_
  | ((with_reducible refine' w_slL ?vv ?_); (case vv => walk_at "tr"))
  | ((with_reducible refine' w_seqL ?vv ?ww ?_); (case vv => walk_at "tr"); (case ww => rfl))
  | ((with_reducible refine' w_seqT ?vv ?ww ?_); (case vv => walk_at "tr"); (case ww => rfl))
  | with_reducible refine w_gNil ?_
  | with_reducible refine w_gCons ?_
  | with_reducible refine w_forZ ?_
  | with_reducible refine w_forM ?_
  | with_reducible refine w_forE ?_
  | with_reducible refine w_forV ?_
  | with_reducible refine w_lcZ ?_
  | with_reducible refine w_lcE ?_
  | ((with_reducible refine' w_isi (b := true) ?vv ?ww ?_); (case vv => walk_at "ty"); (case ww => decide +kernel))
  | ((with_reducible refine' w_isi (b := false) ?vv ?ww ?_); (case vv => walk_at "ty"); (case ww => decide +kernel))
  | with_reducible refine w_revL ?_
  | with_reducible refine w_pairN ?_
  | with_reducible refine w_pairC ?_
  | with_reducible refine w_dget ?_
  | with_reducible refine w_met ?_
  | ((with_reducible refine' w_metAt ?vv ?ww ?_); (case vv => walk_at "tr"); (case ww => rfl))
  | with_reducible refine w_mkI ?_
  | with_reducible refine w_fld ?_
  | ((with_reducible refine' w_fldAt ?vv ?cc ?nn ?ww ?_); (case vv => walk_at "tr"); (case cc => walk_at "cls"); (case nn => walk_at "na"); (case ww => rfl))
  | with_reducible refine w_sfld ?_
  | ((with_reducible refine' w_sfldAt ?vv ?cc ?nn ?ll ?ee ?_); (case vv => walk_at "tr"); (case cc => walk_at "cls"); (case nn => walk_at "na"); (case ll => simp); (case ee => rfl))
  | ((with_reducible refine' w_tupL ?vv ?_); (case vv => walk_at "tr"))
  | ((with_reducible refine' w_tupT ?vv ?_); (case vv => walk_at "tr"))
  | ((with_reducible refine' w_listL ?vv ?_); (case vv => walk_at "tr"))
  | ((with_reducible refine' w_listT ?vv ?_); (case vv => walk_at "tr"))
  | with_reducible refine w_tyS ?_
  | with_reducible refine w_lcZM ?_
  | with_reducible refine w_js ?_
  | with_reducible refine w_jsN ?_
  | ((with_reducible refine' w_jsP ?vv ?_); (case vv => walk_at "size"))
  | with_reducible refine w_fmt ?_
  | with_reducible refine w_forRR ?_
  | with_reducible refine w_retN ?_
  | with_reducible refine w_break ?_
  | with_reducible refine w_cont ?_)
local macro_rules | `(tactic| walk_at "w") => `(tactic| first
  | walk_at "v"
  | with_reducible refine w_or ?_
  | with_reducible refine w_and ?_
  | with_reducible refine w_andV ?_
  | with_reducible refine w_orV ?_)
local macro_rules | `(tactic| walk_at "wd") => `(tactic| first
  | walk_at "w"
  | ((with_reducible refine' w_decT ?vv ?_); (case vv => decide +kernel))
  | ((with_reducible refine' w_decF ?vv ?_); (case vv => decide +kernel)))
local macro_rules | `(tactic| walk_at "tz") => `(tactic| (intro S z; (repeat walk_at "w"); exact z))
local macro_rules | `(tactic| walk_at "wf") => `(tactic| first
  | walk_at "wd"
  | ((with_reducible refine' w_decF ?vv ?_); (case vv => with_reducible assumption)))
/-! ### codes: the drawn code -/
open SX
def spDrawn : Sp := fun vs H Q _ => ∃ s, vs = [.ref s] ∧ Stm H s ∧ ∀ C ws H', H' C = some (.lst (TV ws)) → GC 9 ws → Stm H' s → But s H H' → H C = none → Q (.ref C) H'
theorem len_law_drawn {vs H Q E} (h : spDrawn vs H Q E) : vs.length = 1 := by obtain ⟨_, rfl, _⟩ := h; rfl
theorem w_popN {H : Hp} {Q : VK} {l : Addr} {xs : List V} {i : Int} {y : V} (h : H l = some (.lst xs)) (h0 : 0 ≤ i) (h1 : i < xs.length) (h2 : i < 2 ^ 63) (hy : xs[i.toNat]? = some y) (k : ChgO l (.lst (xs.eraseIdx i.toNat)) H (Q y)) : rPopAt (.ref l) [.int i] H Q :=
  ⟨l, xs, i, i.toNat, y, rfl, rfl, h, by omega, h2, by
    unfold seqIndex?
    rw [if_neg (show ¬ i < 0 by omega)]
    exact if_pos (show (decide (0 ≤ i) && decide (i < (xs.length : Int))) = true by rw [Bool.and_eq_true]; exact ⟨decide_eq_true h0, decide_eq_true h1⟩), hy, k⟩
theorem tv_erase (ws : List (List Nat)) (j : Nat) : (TV ws).eraseIdx j = TV (ws.eraseIdx j) := by
  unfold TV
  rw [List.eraseIdx_eq_take_drop_succ, List.eraseIdx_eq_take_drop_succ, List.map_append, List.map_append, List.map_take, List.map_take, List.map_drop, List.map_drop]
theorem tv_at {ws : List (List Nat)} {j : Nat} {w : List Nat} (h : ws[j]? = some w) : (TV ws)[j]? = some (.str (S w)) := by
  unfold TV
  rw [List.getElem?_map, List.getElem?_map, h]; rfl
theorem strOk_bits {w : List Nat} (h : bitsL w = true) : PyData.strOk (S w) = true := by
  show (w.toArray.all _) = true
  rw [List.all_toArray, List.all_eq_true]
  intro c hc
  have := List.all_eq_true.mp h c hc
  unfold bitC at this
  rw [decide_eq_true_eq] at this
  exact decide_eq_true (by omega)
theorem ne_of_none' {H : Hp} {a b : Addr} {o : HO} (h : H b = some o) (n : H a = none) : a ≠ b := fun z => by rw [z, h] at n; cases n
theorem stm_ts {H H' : Hp} {s F : Addr} {xs : List V} (hs : Stm H s) (h : H F = some (.lst xs)) (nF : F ≠ s) (e : But s H H') : H' F = some (.lst xs) := e _ _ nF h
section
variable {P : Program} {w : World} {K : PySem.W.Frag} {mg : Str → Option Value}
theorem ok_law_drawn [c : Facts K mg] (G__law_take : XL.Fn P w K mg "_law_take" 1 ["stream", "many"] (spTake)) : XL.Fn P w K mg "_law_drawn" 4 ["stream"] (spDrawn) := by
  obtain ⟨fd, F⟩ := c.d_law_drawn
  refine XL.Fn.mk' F c.g_law_drawn sc_law_drawn (k := 3) (fun vs H Q E h => ?_) (fun _ _ _ _ _ _ us hl => match us, hl with | [_], _ => rfl) (fun base cdv A outer s H vs Q E hr h => ?_)
  · exact len_law_drawn h
  · have nd := sc_law_drawn.nd
    have hu := hu_of hr.r
    have hr__law_take : XL.Rm 1 _ := hr.mono (by omega)
    refine ⟨_, (PSs.nox (pss_cons (ps_set (i := 1) nd rfl (Or.inl rfl) (pe_lst (pa_cons pe_str pa_nil)))
      (pss_cons (ps_for PassesOwn.never rfl (pi_range1 (by rfl) c.f_range (pa_cons (XL.pe_fn G__law_take hr__law_take (by rfl) (pa_cons (pv 0) (pa_cons pe_int pa_nil))) pa_nil)) (pg_name (i := 2) nd rfl (Or.inl rfl)) (pss_cons (ps_set (i := 3) nd rfl (Or.inl rfl) (pe_bm PySem.F.plainAttrs_list PySem.F.slot_list_pop PySem.F.type_list_pop mt_popAt (pv 1) (pa_cons (XL.pe_fn G__law_take hr__law_take (by rfl) (pa_cons (pv 0) (pa_cons (pe_callB (call_lenA (K := K) rfl) (by rfl) c.f_len boot_len (pa_cons (pv 1) pa_nil)) pa_nil))) pa_nil)))
      (pss_one (ps_set (i := 1) nd rfl (Or.inl rfl) (pe_op (op_addA (K := K) rfl) (pv 1) (pe_lst (pa_cons (pe_op (op_addA (K := K) rfl) (pv 3) pe_str) (pa_cons (pe_op (op_addA (K := K) rfl) (pv 3) pe_str) pa_nil))))))))
      (pss_cons (ps_if (PW.pt (pw_and (pt_cmpR op_gt (pe_callB (call_lenA (K := K) rfl) (by rfl) c.f_len boot_len (pa_cons (pv 1) pa_nil)) pe_int (nomark _)) (pw_and1 (pt_cmpR (op_eqA (K := K) rfl hr.units) (XL.pe_fn G__law_take hr__law_take (by rfl) (pa_cons (pv 0) (pa_cons pe_int pa_nil))) pe_int (nomark _))))) (pss_one (ps_expr (pe_bm PySem.F.plainAttrs_list PySem.F.slot_list_pop PySem.F.type_list_pop mt_popAt (pv 1) (pa_cons (XL.pe_fn G__law_take hr__law_take (by rfl) (pa_cons (pv 0) (pa_cons (pe_callB (call_lenA (K := K) rfl) (by rfl) c.f_len boot_len (pa_cons (pv 1) pa_nil)) pa_nil))) pa_nil)))) pss_nil)
      (pss_cons (ps_par (i := 4) (j := 5) (by rfl) nd rfl rfl (by decide) rfl rfl (pa_cons (pv 1) (pa_cons (pe_lst pa_nil) pa_nil)) (by rfl))
      (pss_cons (ps_while PassesOwn.never (pt_cmpR (op_neA (K := K) rfl hr.units) (pv 4) (pe_lst pa_nil) (nomark _)) (pss_one (ps_expr (pe_bm PySem.F.plainAttrs_list PySem.F.slot_list_append PySem.F.type_list_append mt_append (pv 5) (pa_cons (pe_bm PySem.F.plainAttrs_list PySem.F.slot_list_pop PySem.F.type_list_pop mt_popAt (pv 4) (pa_cons (XL.pe_fn G__law_take hr__law_take (by rfl) (pa_cons (pv 0) (pa_cons (pe_callB (call_lenA (K := K) rfl) (by rfl) c.f_len boot_len (pa_cons (pv 4) pa_nil)) pa_nil))) pa_nil)) pa_nil)))))
      (pss_one (ps_ret (pv 5))))))))), ?_⟩
    try dsimp only [cxOf, Cx.nox, Cx.wish]
    obtain ⟨s, rfl, hs, q⟩ := h
    have hz : sizeLine = 16777216 := sizeLine_eq
    repeat walk_at "w"
    refine w_new fun F H1 n1 s1 f1 => ?_
    have hs1 : Stm H1 s := s1.stm hs
    repeat walk_at "w"
    refine ⟨s, 10, rfl, hs1, by decide, by decide, fun t H2 t0 t1 hs2 e2 => ?_⟩
    have nF : F ≠ s := stm_ne hs n1
    have f2 := e2 _ _ nF f1
    refine fl_rng1 (fun i σ H' => ∃ F ws o2 o3, σ = [some (.ref s), some (.ref F), o2, o3, none, none] ∧ H' F = some (.lst (TV ws)) ∧ GC i ws ∧ Stm H' s ∧ But s H H' ∧ H F = none ∧ F ≠ s) (by omega) (by omega)
      ⟨F, [[]], _, _, rfl, f2, gc_start, hs2, (But.of s1).trans e2, n1, nF⟩ (fun i σ H3 hi hp => ?_) (fun σ H3 hp => ?_)
    · obtain ⟨F, ws, o2, o3, rfl, hF, gc, hs3, b3, nF0, nFs⟩ := hp
      have gl := gc.len
      have gp : 0 < ws.length := List.length_pos_iff.mpr gc.ne
      repeat walk_at "w"
      rw [TV_len]
      refine ⟨s, (ws.length : Nat), rfl, hs3, by omega, by omega, fun j H4 j0 j1 hs4 e4 => ?_⟩
      have hF4 := e4 _ _ nFs hF
      have hjl : j.toNat < ws.length := by omega
      have hw : ws[j.toNat]? = some (ws[j.toNat]) := List.getElem?_eq_getElem hjl
      repeat walk_at "w"
      refine w_popN hF4 j0 (by rw [TV_len]; exact j1) (by omega) (tv_at hw) ?_
      refine w_chg fun H5 e5 f5 => ?_
      rw [tv_erase] at f5
      have hs5 : Stm H5 s := e5.stm nFs.symm hs4
      repeat walk_at "w"
      have wl : (ws[j.toNat]).length ≤ 9 := by have := (gc.bits _ (List.getElem_mem hjl)).2; omega
      refine w_addC (b := [48]) (by rw [hz]; simp only [List.length_singleton]; omega) ?_
      repeat walk_at "w"
      refine w_addC (b := [49]) (by rw [hz]; simp only [List.length_singleton]; omega) ?_
      repeat walk_at "w"
      refine w_new fun G H6 n6 s6 f6 => ?_
      have f56 := s6 _ _ f5
      refine w_addL f56 f6 (by rw [hz, TV_len, List.length_eraseIdx]; simp only [List.length_cons, List.length_nil]; split <;> omega) ?_
      refine w_new fun F' H7 n7 s7 f7 => ?_
      have hs7 : Stm H7 s := s7.stm (s6.stm hs5)
      have b7 : But s H H7 := (But.new2 (b3.trans e4) nF0 e5).trans (But.of (s6.trans s7))
      repeat walk_at "w"
      refine ⟨F', _, _, _, rfl, ?_, gc_grow gc hw, hs7, b7, ?_, ?_⟩
      · rw [f7, TV_app]; rfl
      · exact (But.new2 (b3.trans e4) nF0 e5).back (stm_ne hs5 (s6.free n7)) (s6.free n7)
      · exact stm_ne (s6.stm hs5) n7
    · obtain ⟨F, ws, o2, o3, rfl, hF, gc, hs3, b3, nF0, nFs⟩ := hp
      have gc9 : GC 9 ws := ⟨gc.pf, gc.ne, by have := gc.len; omega, fun w hw => ⟨(gc.bits w hw).1, by have := (gc.bits w hw).2; omega⟩⟩
      have gp : 0 < ws.length := List.length_pos_iff.mpr gc.ne
      refine w_seqN (fun σ H' => ∃ ws o2 o3, σ = [some (.ref s), some (.ref F), o2, o3, none, none] ∧ H' F = some (.lst (TV ws)) ∧ GC 9 ws ∧ Stm H' s ∧ But s H H') (fun KK hK => ?_) (fun σ H4 hp => ?_)
      · repeat walk_at "w"
        rw [TV_len]
        refine ite2 (fun h1 => ?_) (fun h1 => ?_)
        · rw [decide_eq_true_eq] at h1
          repeat walk_at "w"
          refine ⟨s, 2, rfl, hs3, by decide, by decide, fun t H4 t0 t1 hs4 e4 => ?_⟩
          repeat walk_at "w"
          have hF4 := e4 _ _ nFs hF
          refine ite2 (fun h2 => ?_) (fun h2 => ?_)
          · repeat walk_at "w"
            rw [TV_len]
            refine ⟨s, (ws.length : Nat), rfl, hs4, by omega, by have := gc9.len; omega, fun j H5 j0 j1 hs5 e5 => ?_⟩
            have hF5 := e5 _ _ nFs hF4
            have hjl : j.toNat < ws.length := by omega
            repeat walk_at "w"
            refine w_popN hF5 j0 (by rw [TV_len]; exact j1) (by have := gc9.len; omega) (tv_at (List.getElem?_eq_getElem hjl)) ?_
            refine w_chg fun H6 e6 f6 => ?_
            rw [tv_erase] at f6
            repeat walk_at "w"
            exact hK _ _ ⟨_, _, _, rfl, f6, gc_drop gc9 hjl (by omega), e6.stm nFs.symm hs5, But.new2 ((b3.trans e4).trans e5) nF0 e6⟩
          · repeat walk_at "w"
            exact hK _ _ ⟨_, _, _, rfl, hF4, gc9, hs4, b3.trans e4⟩
        · repeat walk_at "w"
          exact hK _ _ ⟨_, _, _, rfl, hF, gc9, hs3, b3⟩
      · obtain ⟨ws, o2, o3, rfl, hF, gc, hs3, b3⟩ := hp
        repeat walk_at "w"
        refine w_par ?_
        repeat walk_at "w"
        refine w_new fun C H5 n5 s5 f5 => ?_
        repeat walk_at "w"
        refine ⟨_, _, rfl, ?_⟩
        have hF5 := s5 _ _ hF
        have hs5 : Stm H5 s := s5.stm hs3
        have nCs : C ≠ s := stm_ne hs3 n5
        have nCF : C ≠ F := ne_of_none' hF n5
        have nC0 : H C = none := b3.back nCs n5
        repeat walk_at "w"
        refine w_while (fun m σ H' => ∃ us vs : List (List Nat), σ = [some (.ref s), some (.ref F), o2, o3, some (.ref F), some (.ref C)] ∧ H' F = some (.lst (TV us)) ∧ H' C = some (.lst (TV vs)) ∧ ws.Perm (vs ++ us) ∧ m = us.length ∧ Stm H' s ∧ But s H H') ws.length
          ⟨ws, [], rfl, hF5, f5, by simp, rfl, hs5, b3.trans (But.of s5)⟩ (fun m σ H' hp => ?_)
        obtain ⟨us, vs, rfl, hF', hC', pm, rfl, hs', b'⟩ := hp
        have pl := pm.length_eq
        have gl := gc.len
        rw [List.length_append] at pl
        have oku : (us.map S).all PyData.strOk = true := by
          rw [List.all_map, List.all_eq_true]
          intro u hu
          exact strOk_bits (gc.bits u (pm.mem_iff.mpr (List.mem_append_right _ hu))).1
        repeat walk_at "w"
        refine w_new fun Z H6 n6 s6 f6 => ?_
        have hF6 := s6 _ _ hF'
        have hC6 := s6 _ _ hC'
        have hs6 : Stm H6 s := s6.stm hs'
        repeat walk_at "w"
        refine w_neSL (ns := us.map S) (ms := []) (SqL.of hF6) (SqL.of f6) oku rfl ?_
        cases hu : us with
        | nil =>
          subst hu
          rw [show decide (([] : List (List Nat)).map S = []) = true from rfl]
          repeat walk_at "w"
          rw [List.append_nil] at pm
          exact q C vs H6 hC6 (gc_perm gc pm) hs6 (b'.trans (But.of s6)) nC0
        | cons u0 ur =>
          rw [← hu]
          have hup : 0 < us.length := by rw [hu]; simp
          rw [decide_eq_false (show ¬ us.map S = [] by rw [hu]; simp)]
          repeat walk_at "w"
          refine w_whB ?_
          repeat walk_at "w"
          rw [TV_len]
          refine ⟨s, (us.length : Nat), rfl, hs6, by omega, by omega, fun j H7 j0 j1 hs7 e7 => ?_⟩
          have hF7 := e7 _ _ nFs hF6
          have hC7 := e7 _ _ nCs hC6
          have hjl : j.toNat < us.length := by omega
          have hw : us[j.toNat]? = some (us[j.toNat]) := List.getElem?_eq_getElem hjl
          repeat walk_at "w"
          refine w_popN hF7 j0 (by rw [TV_len]; exact j1) (by omega) (tv_at hw) ?_
          refine w_chg fun H8 e8 f8 => ?_
          rw [tv_erase] at f8
          have hC8 := e8 _ _ nCF hC7
          have hs8 : Stm H8 s := e8.stm nFs.symm hs7
          repeat walk_at "w"
          try refine w_append hC8 (by rw [hz, TV_len]; omega) ?_
          refine w_chg fun H9 e9 f9 => ?_
          have b9 : But s H H9 := But.new2 (But.new2 ((b'.trans (But.of s6)).trans e7) nF0 e8) nC0 e9
          repeat walk_at "w"
          refine ⟨(us.eraseIdx j.toNat).length, by rw [List.length_eraseIdx, if_pos hjl]; omega, us.eraseIdx j.toNat, vs ++ [us[j.toNat]], rfl, e9 _ _ nCF.symm f8, ?_, ?_, rfl, e9.stm nCs.symm hs8, b9⟩
          · rw [f9, TV_app]; rfl
          · rw [List.append_assoc]
            exact pm.trans (List.Perm.append_left _ (erase_perm hw))
end

end J
namespace J
open PySem PySem.Spec PyProof.Rows L2

local macro_rules | `(tactic| walk_at "ty") => `(tactic| first
  | with_reducible exact ty_int
  | with_reducible exact ty_bl
  | with_reducible exact ty_str
  | with_reducible exact ty_non
  | ((with_reducible refine' ty_lst ?vv); (case vv => walk_at "tr"))
  | ((with_reducible refine' ty_sqT ?vv); (case vv => walk_at "tr"))
  | ((with_reducible refine' ty_dic ?vv); (case vv => walk_at "tr")))
local macro_rules | `(tactic| walk_at "ix") => `(tactic| first | exact at0 | exact at1 | exact at2 | assumption)
local macro_rules | `(tactic| walk_at "size") => `(tactic| first
  | assumption
  | (show _ < sizeLine; rw [sizeLine_eq]; (try simp only [List.length_cons, List.length_nil, List.length_append, List.length_map]); omega)
  | (show _ ≤ sizeLine; rw [sizeLine_eq]; (try simp only [List.length_cons, List.length_nil, List.length_append, List.length_map]); omega))
local macro_rules | `(tactic| walk_at "side") => `(tactic| first
  | assumption
  | ((with_reducible refine cdw ?_ ?_) <;> omega)
  | omega
  | (exact ⟨by omega, by omega⟩)
  | (exact Or.inl ⟨by omega, by omega⟩)
  | (exact Or.inr ⟨by omega, by omega⟩)
  | decide
  | (simp only [List.length_cons, List.length_nil, List.length_append, List.length_map]; omega)
  | (show _ ≤ _; decide))
local macro_rules | `(tactic| walk_at "as") => `(tactic| with_reducible assumption)
local macro_rules | `(tactic| walk_at "tr") => `(tactic| first
  | with_reducible assumption
  | with_reducible exact upd_same
  | ((with_reducible refine' SqL.of ?hh); (case hh => walk_at "as"))
  | ((with_reducible refine' SqT.of ?hh); (case hh => walk_at "as"))
  | ((with_reducible refine' Same.stm ?ee ?gg); (case ee => walk_at "as"); (case gg => walk_at "tr"))
  | ((with_reducible refine' Same.sqT ?ee ?gg); (case ee => walk_at "as"); (case gg => walk_at "tr"))
  | ((with_reducible refine' Same.sqL ?ee ?gg); (case ee => walk_at "as"); (case gg => walk_at "tr"))
  | ((with_reducible refine' Same.at ?ee ?gg); (case ee => walk_at "as"); (case gg => walk_at "tr"))
  | ((with_reducible refine' But.stm ?ee ?ff ?gg); (case ee => walk_at "as"); (case ff => walk_at "ne"); (case gg => walk_at "tr"))
  | ((with_reducible refine' But.tup ?ee ?ff ?gg); (case ee => walk_at "as"); (case ff => walk_at "tr1"); (case gg => walk_at "tr"))
  | ((with_reducible refine' But.sqT ?ee ?ff ?gg); (case ee => walk_at "as"); (case ff => walk_at "tr1"); (case gg => walk_at "tr"))
  | ((with_reducible refine' But.tupL ?ee ?ff ?gg); (case ee => walk_at "as"); (case ff => walk_at "tr1"); (case gg => walk_at "tr"))
  | ((with_reducible refine' But.sqTL ?ee ?ff ?gg); (case ee => walk_at "as"); (case ff => walk_at "tr1"); (case gg => walk_at "tr"))
  | ((with_reducible refine' But.sqL ?ee ?ff ?gg); (case ee => walk_at "as"); (case ff => walk_at "ne"); (case gg => walk_at "tr"))
  | ((with_reducible refine' But.at ?ee ?ff ?gg); (case ee => walk_at "as"); (case ff => walk_at "ne"); (case gg => walk_at "tr")))
local macro_rules | `(tactic| walk_at "ts") => `(tactic| first
  | with_reducible assumption
  | with_reducible exact TS.refl _
  | ((with_reducible refine' TS.trans ?gg (TS.of ?ee)); (case ee => walk_at "as"); (case gg => walk_at "ts"))
  | ((with_reducible refine' TS.trans ?gg (TS.butS ?ee ?ff)); (case ee => walk_at "as"); (case ff => walk_at "tr1"); (case gg => walk_at "ts"))
  | ((with_reducible refine' TS.trans ?gg (TS.butL ?ee ?ff)); (case ee => walk_at "as"); (case ff => walk_at "tr1"); (case gg => walk_at "ts"))
  | ((with_reducible refine' TS.trans ?gg (TS.butI ?ee ?ff)); (case ee => walk_at "as"); (case ff => walk_at "tr1"); (case gg => walk_at "ts")))
local macro_rules | `(tactic| walk_at "sm") => `(tactic| first
  | with_reducible assumption
  | with_reducible exact Same.refl _
  | ((with_reducible refine' Same.trans ?gg ?ee); (case ee => walk_at "as"); (case gg => walk_at "sm"))
  | ((with_reducible refine' But.new ?gg ?nn ?ee); (case ee => walk_at "as"); (case nn => walk_at "fr"); (case gg => walk_at "sm")))
local macro_rules | `(tactic| walk_at "fr") => `(tactic| first
  | with_reducible assumption
  | ((with_reducible refine' Same.back ?ee ?nn); (case nn => walk_at "as"); (case ee => walk_at "sm"))
  | ((with_reducible refine' But.back ?ee ?ff ?nn); (case nn => walk_at "as"); (case ff => walk_at "ne0"); (case ee => walk_at "bu")))
local macro_rules | `(tactic| walk_at "bu") => `(tactic| first
  | with_reducible assumption
  | with_reducible exact But.refl _ _
  | ((with_reducible refine' But.trans ?gg ?ee); (case ee => walk_at "as"); (case gg => walk_at "bu"))
  | ((with_reducible refine' But.trans ?gg (But.of ?ee)); (case ee => walk_at "as"); (case gg => walk_at "bu"))
  | ((with_reducible refine' But.new2 ?gg ?nn ?ee); (case ee => walk_at "as"); (case nn => walk_at "frB"); (case gg => walk_at "bu")))
local macro_rules | `(tactic| walk_at "frB") => `(tactic| first
  | with_reducible assumption
  | ((with_reducible refine' Same.back ?ee ?nn); (case nn => walk_at "as"); (case ee => walk_at "sm"))
  | ((with_reducible refine' But.back' ?ee ?ff ?nn); (case nn => walk_at "as"); (case ee => walk_at "bu"); (case ff => walk_at "tr1")))
local macro_rules | `(tactic| walk_at "tr1") => `(tactic| first
  | with_reducible assumption
  | ((with_reducible refine' Same.stm ?ee ?gg); (case ee => walk_at "as"); (case gg => walk_at "tr1"))
  | ((with_reducible refine' Same.at ?ee ?gg); (case ee => walk_at "as"); (case gg => walk_at "tr1"))
  | ((with_reducible refine' But.at ?ee ?ff ?gg); (case ee => walk_at "as"); (case ff => walk_at "ne0"); (case gg => walk_at "tr1"))
  | ((with_reducible refine' But.stm ?ee ?ff ?gg); (case ee => walk_at "as"); (case ff => walk_at "ne0"); (case gg => walk_at "tr1")))
local macro_rules | `(tactic| walk_at "ne0") => `(tactic| first
  | with_reducible assumption
  | (with_reducible apply Ne.symm; with_reducible assumption))
local macro_rules | `(tactic| walk_at "ne") => `(tactic| first
  | with_reducible assumption
  | (with_reducible apply Ne.symm; with_reducible assumption)
  | ((with_reducible refine' stm_ne ?hh ?nn); (case nn => walk_at "as"); (case hh => walk_at "tr1"))
  | ((with_reducible refine' ne_of_none ?hh ?nn); (case nn => walk_at "as"); (case hh => walk_at "tr1"))
  | ((with_reducible apply Ne.symm); (with_reducible refine' ne_of_none ?hh ?nn); (case nn => walk_at "as"); (case hh => walk_at "tr1")))
local macro_rules | `(tactic| walk_at "v") => `(tactic| first
  | with_reducible refine w_seq ?_
  | ((with_reducible refine' w_var ?vv ?_); (case vv => exact rfl))
  | with_reducible refine w_c ?_
  | with_reducible refine w_op ?_
  | with_reducible refine w_asg ?_
  | with_reducible refine w_gName ?_
  | with_reducible refine w_ret ?_
  | with_reducible refine w_ifS ?_
  | with_reducible refine w_drop ?_
  | with_reducible refine w_next ?_
  | with_reducible refine w_cons ?_
  | with_reducible refine w_nil ?_
  | with_reducible refine w_call ?_
  | with_reducible refine w_cb ?_
  | with_reducible refine w_rI0 ?_
  | with_reducible refine w_addI ?_
  | with_reducible refine w_eqI ?_
  | with_reducible refine w_neI ?_
  | with_reducible refine w_eqS ?_
  | with_reducible refine w_neS ?_
  | with_reducible refine w_eqB ?_
  | with_reducible refine w_neB ?_
  | with_reducible refine w_chain ?_
  | with_reducible refine w_test ?_
  | with_reducible refine w_tB ?_
  | with_reducible refine w_bl ?_
  | ((with_reducible refine' w_mulI ?vv ?_); (case vv => walk_at "side"))
  | ((with_reducible refine' w_rI ?vv ?_); (case vv => walk_at "side"))
  | with_reducible refine w_int1 ?_
  | with_reducible refine w_int1b ?_
  | with_reducible refine w_tup ?_
  | with_reducible refine w_lst ?_
  | with_reducible refine w_un ?_
  | with_reducible refine w_rU ?_
  | with_reducible refine w_not ?_
  | with_reducible refine w_notV ?_
  | with_reducible refine w_ifE ?_
  | with_reducible refine w_nT ?_
  | with_reducible refine w_nF ?_
  | with_reducible refine iteT ?_
  | with_reducible refine iteF ?_
  | ((with_reducible refine' w_ixT ?vv ?ww ?_); (case vv => walk_at "tr"); (case ww => walk_at "ix"))
  | ((with_reducible refine' w_ixL ?vv ?ww ?_); (case vv => walk_at "tr"); (case ww => walk_at "ix"))
  | with_reducible refine w_gSub ?_
  | ((with_reducible refine' w_setL ?vv ?ww ?_); (case vv => walk_at "tr"); (case ww => first | rfl | decide | assumption))
  | ((with_reducible refine' w_lenL ?vv ?_); (case vv => walk_at "tr"))
  | ((with_reducible refine' w_lenT ?vv ?_); (case vv => walk_at "tr"))
  | with_reducible refine w_max2 ?_
  | with_reducible refine w_max3 ?_
  | with_reducible refine w_din ?_
  | with_reducible refine w_dnotin ?_
  | with_reducible refine w_dput ?_
  | with_reducible refine w_min2 ?_
  | with_reducible refine w_bm ?_
  | with_reducible refine w_bm0 ?_
  | ((with_reducible refine' w_tyL ?vv ?_); (case vv => walk_at "tr"))
  | ((with_reducible refine' w_append ?vv ?ww ?_); (case vv => walk_at "tr"); (case ww => walk_at "size"))
  | ((with_reducible refine' w_size ?vv ?_); (case vv => walk_at "size"))
  | with_reducible refine w_forL ?_
  | with_reducible refine w_forT ?_
  | with_reducible refine w_forR1 ?_
  | with_reducible refine w_forR2 ?_
  | with_reducible refine w_lcL ?_
  | with_reducible refine w_lcT ?_
  | with_reducible refine w_lcR1 ?_
  | with_reducible refine w_yes ?_
  | with_reducible refine w_sl ?_
  | with_reducible refine w_noPart ?_
  | with_reducible refine w_part ?_
  | with_reducible refine w_int ?_
  | ((with_reducible refine' w_slL ?vv ?_); (case vv => walk_at "tr"))
  | ((with_reducible refine' w_seqL ?vv ?ww ?_); (case vv => walk_at "tr"); (case ww => rfl))
  | ((with_reducible refine' w_seqT ?vv ?ww ?_); (case vv => walk_at "tr"); (case ww => rfl))
  | with_reducible refine w_gNil ?_
  | with_reducible refine w_gCons ?_
  | with_reducible refine w_forZ ?_
  | with_reducible refine w_forM ?_
  | with_reducible refine w_forE ?_
  | with_reducible refine w_forV ?_
  | with_reducible refine w_lcZ ?_
  | with_reducible refine w_lcE ?_
  | ((with_reducible refine' w_isi (b := true) ?vv ?ww ?_); (case vv => walk_at "ty"); (case ww => decide +kernel))
  | ((with_reducible refine' w_isi (b := false) ?vv ?ww ?_); (case vv => walk_at "ty"); (case ww => decide +kernel))
  | with_reducible refine w_revL ?_
  | with_reducible refine w_pairN ?_
  | with_reducible refine w_pairC ?_
  | with_reducible refine w_dget ?_
  | with_reducible refine w_met ?_
  | ((with_reducible refine' w_metAt ?vv ?ww ?_); (case vv => walk_at "tr"); (case ww => rfl))
  | with_reducible refine w_mkI ?_
  | with_reducible refine w_fld ?_
  | ((with_reducible refine' w_fldAt ?vv ?cc ?nn ?ww ?_); (case vv => walk_at "tr"); (case cc => walk_at "cls"); (case nn => walk_at "na"); (case ww => rfl))
  | with_reducible refine w_sfld ?_
  | ((with_reducible refine' w_sfldAt ?vv ?cc ?nn ?ll ?ee ?_); (case vv => walk_at "tr"); (case cc => walk_at "cls"); (case nn => walk_at "na"); (case ll => simp); (case ee => rfl))
  | ((with_reducible refine' w_tupL ?vv ?_); (case vv => walk_at "tr"))
  | ((with_reducible refine' w_tupT ?vv ?_); (case vv => walk_at "tr"))
  | ((with_reducible refine' w_listL ?vv ?_); (case vv => walk_at "tr"))
  | ((with_reducible refine' w_listT ?vv ?_); (case vv => walk_at "tr"))
  | with_reducible refine w_tyS ?_
  | with_reducible refine w_lcZM ?_
  | with_reducible refine w_js ?_
  | with_reducible refine w_jsN ?_
  | ((with_reducible refine' w_jsP ?vv ?_); (case vv => walk_at "size"))
  | with_reducible refine w_fmt ?_
  | with_reducible refine w_forRR ?_
  | with_reducible refine w_retN ?_
  | with_reducible refine w_break ?_
  | with_reducible refine w_cont ?_)
local macro_rules | `(tactic| walk_at "w") => `(tactic| first
  | walk_at "v"
  | with_reducible refine w_or ?_
  | with_reducible refine w_and ?_
  | with_reducible refine w_andV ?_
  | with_reducible refine w_orV ?_)
local macro_rules | `(tactic| walk_at "wd") => `(tactic| first
  | walk_at "w"
  | ((with_reducible refine' w_decT ?vv ?_); (case vv => decide +kernel))
  | ((with_reducible refine' w_decF ?vv ?_); (case vv => decide +kernel)))
local macro_rules | `(tactic| walk_at "tz") => `(tactic| (intro S z; (repeat walk_at "w"); exact z))
local macro_rules | `(tactic| walk_at "wf") => `(tactic| first
  | walk_at "wd"
  | ((with_reducible refine' w_decF ?vv ?_); (case vv => with_reducible assumption)))
/-! ### codes: the law's own is_code -/
open SX
/-- a value as a code: no tuple -/
inductive LCode (K : PySem.W.Frag) (H : Hp) : V → Option Its → Prop
  | no {v : V} (h : NoSq H v) : LCode K H v none
  | lst {a : Addr} {its : Its} (h : H a = some (.lst (its.map itV))) (hl : its.length ≤ 100) (hw : ∀ w, some w ∈ its → w.length ≤ 1000 ∧ ∀ c ∈ w, c < 256) : LCode K H (.ref a) (some its)
def spLCode (K : PySem.W.Frag) : Sp := fun vs H Q _ => ∃ v o, vs = [v] ∧ LCode K H v o ∧ ∀ H', Same H H' → Q (.bl (isCodeO o)) H'
theorem len_law_is_code {K : PySem.W.Frag} {vs H Q E} (h : spLCode K vs H Q E) : vs.length = 1 := by obtain ⟨_, _, rfl, _⟩ := h; rfl
def itD : Option (List Nat) → PyData
  | none => .none
  | some w => .str (S w)
theorem itD_dp {K : PySem.W.Frag} {H : Hp} : ∀ its : Its, DpAll K H (its.map itV) (its.map itD)
  | [] => .nil
  | none :: r => .cons .non (itD_dp r)
  | some w :: r => .cons (.str _) (itD_dp r)
theorem strOk_small {w : List Nat} (h : ∀ c ∈ w, c < 256) : PyData.strOk (S w) = true := by
  show (w.toArray.all _) = true
  rw [List.all_toArray, List.all_eq_true]
  intro c hc
  have := h c hc
  exact decide_eq_true (by omega)
theorem its_cmp : ∀ {its : Its}, (∀ w, some w ∈ its → ∀ c ∈ w, c < 256) → cleanAll (its.map itD) = true ∧ PyData.depthAll (its.map itD) ≤ 1
  | [], _ => ⟨by simp [cleanAll], by simp [PyData.depthAll]⟩
  | none :: r, h => by
    obtain ⟨a, b⟩ := its_cmp fun w hw => h w (List.mem_cons_of_mem _ hw)
    exact ⟨by rw [List.map_cons, cleanAll, a]; simp [itD, clean], by rw [List.map_cons, PyData.depthAll]; simp [itD, PyData.depth]; exact b⟩
  | some w :: r, h => by
    obtain ⟨a, b⟩ := its_cmp fun w hw => h w (List.mem_cons_of_mem _ hw)
    exact ⟨by rw [List.map_cons, cleanAll, a]; simp [itD, clean, strOk_small (h w List.mem_cons_self)], by rw [List.map_cons, PyData.depthAll]; simp [itD, PyData.depth]; exact b⟩
section
variable {P : Program} {w : World} {K : PySem.W.Frag} {mg : Str → Option Value}
theorem ok_law_is_code [c : Facts K mg] : XL.Fn P w K mg "_law_is_code" 1 ["value"] ((spLCode K)) := by
  obtain ⟨fd, F⟩ := c.d_law_is_code
  refine XL.Fn.mk' F c.g_law_is_code sc_law_is_code (k := 0) (fun vs H Q E h => ?_) (fun _ _ _ _ _ _ us hl => match us, hl with | [_], _ => rfl) (fun base cdv A outer s H vs Q E hr h => ?_)
  · exact len_law_is_code h
  · have nd := sc_law_is_code.nd
    have hu := hu_of hr.r
    refine ⟨_, (PSs.nox (pss_cons (ps_if (PW.pt (pw_or (pt_not (pt_val (pe_callB (call_isiTA (K := K) rfl) (by rfl) c.f_isinstance boot_isinstance (pa_cons (pv 0) (pa_cons (pe_tup (pa_cons (pe_bltn (v := .ty "list") (by rfl) c.f_list boot_list rfl) (pa_cons (pe_bltn (v := .ty "tuple") (by rfl) c.f_tuple boot_tuple rfl) pa_nil))) pa_nil))))) (pw_or1 (pt_not (pt_chain op_le op_le pe_int (pe_callB (call_lenA (K := K) rfl) (by rfl) c.f_len boot_len (pa_cons (pv 0) pa_nil)) pe_int))))) (pss_one (ps_ret pe_bl)) pss_nil)
      (pss_cons (ps_if (pt_cmpR (op_neA (K := K) rfl hr.units) (pe_lc (own := [("word", 2)]) rfl nd (pi_list (pv 0)) (blkOk_by (N := N_law_is_code) (sc := defScope s_law_is_code) (by decide +kernel)) (fun _ _ _ _ _ => (pg_name (i := 2) nd rfl (Or.inl rfl))) (fun _ _ _ _ _ => pts_one (PW.pt (pw_or (pt_not (pt_val (pe_callB (call_isiA (K := K) rfl) (by rfl) c.f_isinstance boot_isinstance (pa_cons (pv 2) (pa_cons (pe_bltn (v := .ty "str") (by rfl) c.f_str boot_str rfl) pa_nil))))) (pw_or (pt_cmpR op_gt (pe_callB (call_lenA (K := K) rfl) (by rfl) c.f_len boot_len (pa_cons (pv 2) pa_nil)) pe_int (nomark _)) (pw_or1 (pt_cmpR (op_neA (K := K) rfl hr.units) (pe_lc (own := [("sign", 3)]) rfl nd (pi_str (pv 2)) (blkOk_rel (N := N_law_is_code) (by decide +kernel)) (fun _ _ _ _ _ => (pg_name (i := 3) nd rfl (Or.inl rfl))) (fun _ _ _ _ _ => pts_one (pt_cmpR (op_notInA (K := K) rfl) (pv 3) pe_str (by rfl))) (fun _ _ _ _ _ => (pv 3))) (pe_lst pa_nil) (nomark _))))))) (fun _ _ _ _ _ => (pv 2))) (pe_lst pa_nil) (nomark _)) (pss_one (ps_ret pe_bl)) pss_nil)
      (pss_cons (ps_for PassesOwn.never rfl (pi_enum (by rfl) c.f_enumerate (pa_cons (pv 0) pa_nil)) (pg_seq 2 (K := K) rfl rfl (pgs_cons (pg_name (i := 1) nd rfl (Or.inr rfl)) (pgs_cons (pg_name (i := 2) nd rfl (Or.inr rfl)) pgs_nil))) (pss_one (ps_if (pt_cmpR (op_neA (K := K) rfl hr.units) (pe_lc (own := [("m", 4)]) rfl nd (pi_range1 (by rfl) c.f_range (pa_cons (pe_callB (call_lenA (K := K) rfl) (by rfl) c.f_len boot_len (pa_cons (pv 0) pa_nil)) pa_nil)) (blkOk_by (N := N_law_is_code) (sc := defScope s_law_is_code) (by decide +kernel)) (fun _ _ _ _ _ => (pg_name (i := 4) nd rfl (Or.inl rfl))) (fun _ _ _ _ _ => pts_one (PW.pt (pw_and (pt_cmpR (op_neA (K := K) rfl hr.units) (pv 4) (pv 1) (nomark _)) (pw_and1 (pt_cmpR (op_eqA (K := K) rfl hr.units) (pe_slice (sl_any (K := K) rfl) (pe_ix (ix_any (K := K) rfl) (pv 0) (pv 4) (fun _ _ => rfl)) po_none (po_some (pe_callB (call_lenA (K := K) rfl) (by rfl) c.f_len boot_len (pa_cons (pv 2) pa_nil)))) (pv 2) (nomark _)))))) (fun _ _ _ _ _ => (pv 4))) (pe_lst pa_nil) (nomark _)) (pss_one (ps_ret pe_bl)) pss_nil)))
      (pss_one (ps_ret pe_bl)))))), ?_⟩
    try dsimp only [cxOf, Cx.nox, Cx.wish]
    obtain ⟨v, o, rfl, hv, q⟩ := h
    have hz : sizeLine = 16777216 := sizeLine_eq
    cases hv with
    | no h =>
      repeat walk_at "w"
      refine w_new fun tp H1 n1 s1 f1 => ?_
      repeat walk_at "w"
      refine w_isNo (h.sm s1) f1 ?_
      repeat walk_at "w"
      exact q H1 s1
    | @lst a its h hl hw =>
      repeat walk_at "w"
      refine w_new fun tp H1 n1 s1 f1 => ?_
      have h1 := s1 _ _ h
      have hll : (its.map itV).length = its.length := List.length_map _
      repeat walk_at "w"
      refine w_isiT (b := true) ["list", "tuple"] f1 (ty_lst h1) (by decide +kernel) ?_
      repeat walk_at "w"
      rw [hll]
      by_cases c1 : 1 ≤ its.length
      · rw [decide_eq_true (show (1 : Int) ≤ its.length by omega)]
        repeat walk_at "w"
        by_cases c2 : its.length ≤ 40
        · rw [decide_eq_true (show (its.length : Int) ≤ 40 by omega)]
          repeat walk_at "w"
          refine lc_L (its.map itV) (fun D j ys H' => Same H1 H' ∧ ys = ((its.take j).filter fun o => !okW o).map itV) (SqL.of h1) (fun D H' hD e f => ⟨e, rfl⟩) (fun D hD j ys H' hy hll2 hp => SqL.of (hp.1 _ _ h1)) (fun D hD j x ys H' hx hll2 hy hp => ?_) (fun D hD ys H' hll2 hy hp => ?_)
          · obtain ⟨e, rfl⟩ := hp
            rw [List.getElem?_map] at hx
            obtain ⟨o, ho, rfl⟩ := Option.map_eq_some_iff.mp hx
            have hjl := (List.getElem?_eq_some_iff.mp ho).1
            have hom := List.mem_of_getElem? ho
            have fl := List.length_filter_le (fun o => !okW o) (its.take j)
            rw [List.length_take] at fl
            have bad : okW o = false → ∀ {H3 : Hp}, Same H' H3 → LcEnd D (fun j ys H' => Same H1 H' ∧ ys = ((its.take j).filter fun o => !okW o).map itV) j (itV o) H3 := fun hk H3 s3 =>
              lc_end (s3 _ _ hy) hll2 (by rw [hz, List.length_map]; omega) fun H5 e5 f5 => ⟨But.new (e.trans s3) hD e5, by rw [tk_sn ho, List.filter_append, List.filter_cons, if_pos (by rw [hk]; rfl), List.filter_nil, List.map_append]; rfl⟩
            have good : okW o = true → ∀ {H3 : Hp}, Same H' H3 → LcSkip D (fun j ys H' => Same H1 H' ∧ ys = ((its.take j).filter fun o => !okW o).map itV) j H3 := fun hk H3 s3 =>
              lc_skip (s3 _ _ hy) hll2 ⟨e.trans s3, by rw [tk_sn ho, List.filter_append, List.filter_cons, if_neg (by rw [hk]; decide), List.filter_nil, List.append_nil]⟩
            cases o with
            | none =>
              rw [show itV none = V.non from rfl]
              repeat walk_at "w"
              exact bad rfl (Same.refl _)
            | some w =>
              obtain ⟨hwl, hwc⟩ := hw w hom
              rw [show itV (some w) = V.str (S w) from rfl]
              repeat walk_at "w"
              refine w_lenC (by rw [hz]; omega) ?_
              repeat walk_at "w"
              by_cases c3 : 60 < w.length
              · rw [decide_eq_true (show (60 : Int) < w.length by omega)]
                repeat walk_at "w"
                refine bad ?_ (Same.refl _)
                show (bitsL w && decide (w.length ≤ 60)) = false
                rw [show decide (w.length ≤ 60) = false from decide_eq_false (by omega), Bool.and_false]
              · rw [decide_eq_false (show ¬ (60 : Int) < w.length by omega)]
                repeat walk_at "w"
                refine w_lcS ?_
                repeat walk_at "w"
                refine lc_S w (fun E j zs H2 => Same H' H2 ∧ zs = (((w.take j).filter fun c => !bitC c).map fun c => S [c]).map V.str) (fun D H' hD e f => ⟨e, by rw [List.take_zero]; rfl⟩) (fun E hE i c zs H2 hc hlz hz2 hp => ?_) (fun E hE zs H2 hlz hz2 hp => ?_)
                · obtain ⟨e2, rfl⟩ := hp
                  have fz := List.length_filter_le (fun c => !bitC c) (w.take i)
                  rw [List.length_take] at fz
                  repeat walk_at "w"
                  refine w_ni1 ?_
                  rw [bit_in]
                  repeat walk_at "w"
                  refine ite2 (fun hk => ?_) (fun hk => ?_)
                  · repeat walk_at "w"
                    refine lc_end hz2 hlz (by rw [hz, List.length_map, List.length_map]; omega) fun H5 e5 f5 => ⟨But.new e2 hE e5, ?_⟩
                    rw [tk_sn hc, List.filter_append, List.filter_cons, if_pos hk, List.filter_nil, List.map_append, List.map_append]; rfl
                  · refine lc_skip hz2 hlz ⟨e2, ?_⟩
                    rw [tk_sn hc, List.filter_append, List.filter_cons, if_neg hk, List.filter_nil, List.append_nil]
                · obtain ⟨e2, rfl⟩ := hp
                  rw [List.take_length] at hz2
                  repeat walk_at "w"
                  refine w_new fun Z H3 n3 s3 f3 => ?_
                  have oks : (((w.filter fun c => !bitC c).map fun c => S [c]).all PyData.strOk) = true := by
                    rw [List.all_map, List.all_eq_true]
                    intro c hc
                    refine strOk_small fun d hd => ?_
                    rw [List.mem_singleton.mp hd]
                    exact hwc c (List.mem_filter.mp hc).1
                  refine w_neSL (ns := (w.filter fun c => !bitC c).map fun c => S [c]) (ms := []) (SqL.of (s3 _ _ hz2)) (SqL.of f3) oks rfl ?_
                  have eb : (!decide ((w.filter fun c => !bitC c).map (fun c => S [c]) = [])) = !bitsL w := by
                    congr 1
                    rw [Bool.eq_iff_iff, decide_eq_true_eq, List.map_eq_nil_iff, List.filter_eq_nil_iff]
                    unfold bitsL
                    rw [List.all_eq_true]
                    exact forall_congr' fun c => forall_congr' fun _ => by cases bitC c <;> simp
                  rw [eb]
                  have ok : okW (some w) = bitsL w := by
                    show (bitsL w && decide (w.length ≤ 60)) = _
                    rw [show decide (w.length ≤ 60) = true from decide_eq_true (by omega), Bool.and_true]
                  cases hb : bitsL w with
                  | true =>
                    repeat walk_at "w"
                    exact good (ok.trans hb) (e2.trans s3)
                  | false =>
                    repeat walk_at "w"
                    exact bad (ok.trans hb) (e2.trans s3)
          · obtain ⟨e, rfl⟩ := hp
            rw [hll, show its.take its.length = its from List.take_length] at hy
            repeat walk_at "w"
            refine w_new fun Z H3 n3 s3 f3 => ?_
            have cm : Cmp (.list ((its.filter fun o => !okW o).map itD)) := by
              obtain ⟨x1, x2⟩ := its_cmp (its := its.filter fun o => !okW o) fun w hm => (hw w (List.mem_filter.mp hm).1).2
              exact ⟨by rw [clean]; exact x1, by rw [PyData.depth]; omega⟩
            refine w_neP (.lst (SqL.of (s3 _ _ hy)) (itD_dp _)) (.lst (SqL.of f3) .nil) cm ⟨by rw [clean, cleanAll], by rw [PyData.depth, PyData.depthAll]; decide⟩ fun b hb => ?_
            have eb : b = !(its.all okW) := by
              rw [Bool.eq_iff_iff, hb]
              simp only [ne_eq, PyData.list.injEq, List.map_eq_nil_iff, List.filter_eq_nil_iff, Bool.not_eq_true', List.all_eq_false]
              simp
            rw [eb]
            cases hok : its.all okW with
            | false =>
              repeat walk_at "w"
              rw [code_false (its := its) fun z => by rw [List.all_eq_true.mpr z.2.1] at hok; cases hok] at q
              exact q _ ((s1.trans e).trans s3)
            | true =>
              have okAll := List.all_eq_true.mp hok
              have g1 := (e.trans s3) _ _ h1
              have wl : (its.map wOf).length = its.length := List.length_map _
              have at_ : ∀ i, i < its.length → its[i]? = some (some ((its.map wOf).getD i [])) := fun i hi => by
                have oki := okAll its[i] (List.getElem_mem hi)
                rw [List.getD_eq_getElem?_getD, List.getElem?_map, List.getElem?_eq_getElem hi]
                cases hx : its[i] with
                | none => rw [hx] at oki; cases oki
                | some w => rfl
              repeat walk_at "w"
              refine fl_enum (fun i σ H' => ∃ o1 o2 o3 o4, σ = [some (.ref a), o1, o2, o3, o4] ∧ Same H1 H' ∧ ∀ a' b', a' < i → b' < its.length → a' ≠ b' → ¬ ((its.map wOf).getD a' [] <+: (its.map wOf).getD b' [])) (SqL.of g1) ⟨_, _, _, _, rfl, e.trans s3, fun _ _ h => by omega⟩ (fun i σ H' hi hp => ?_) (fun i x T σ H5 H6 hx hp nT s56 fT => ?_) (fun σ H5 hp => ?_)
              · obtain ⟨_, _, _, _, _, e5, _⟩ := hp
                exact SqL.of (e5 _ _ h1)
              · obtain ⟨o1, o2, o3, o4, rfl, e5, no⟩ := hp
                have hil : i < its.length := by have := (List.getElem?_eq_some_iff.mp hx).1; omega
                rw [List.getElem?_map, at_ i hil] at hx
                obtain rfl : V.str (S ((its.map wOf).getD i [])) = x := Option.some.inj hx
                generalize hwi : (its.map wOf).getD i [] = wi at *
                have g6 := (e5.trans s56) _ _ h1
                have hwl : wi.length ≤ 1000 := (hw wi (by have := List.mem_of_getElem? (at_ i hil); rw [hwi] at this; exact this)).1
                repeat walk_at "w"
                rw [hll]
                refine lc_R1 (fun D j ys H' => Same H6 H' ∧ ∃ ns : List Int, ys = ns.map V.int ∧ (ns = [] ↔ ∀ b', b' < j → i ≠ b' → ¬ (wi <+: (its.map wOf).getD b' []))) (by omega) (by omega) (fun D H' hD e f => ⟨e, [], rfl, by simp⟩) (fun D hD j ys H' hj hlj hy hp => ?_) (fun D hD ys H' hlj hy hp => ?_)
                · obtain ⟨e7, ns, rfl, hns⟩ := hp
                  have hjl : j < its.length := by omega
                  have g7 := e7 _ _ g6
                  have vj : (its.map itV)[j]? = some (.str (S ((its.map wOf).getD j []))) := by rw [List.getElem?_map, at_ j hjl]; rfl
                  have hjw : ((its.map wOf).getD j []).length ≤ 1000 := (hw _ (List.mem_of_getElem? (at_ j hjl))).1
                  have skip : ¬ (i ≠ j ∧ wi <+: (its.map wOf).getD j []) → LcSkip D (fun j ys H' => Same H6 H' ∧ ∃ ns : List Int, ys = ns.map V.int ∧ (ns = [] ↔ ∀ b', b' < j → i ≠ b' → ¬ (wi <+: (its.map wOf).getD b' []))) j H' := fun hno =>
                    lc_skip hy hlj ⟨e7, ns, rfl, hns.trans ⟨fun z b' hb' hn' hp' => by
                      by_cases c : b' = j
                      · subst c; exact hno ⟨hn', hp'⟩
                      · exact z b' (by omega) hn' hp', fun z b' hb' => z b' (by omega)⟩⟩
                  repeat walk_at "w"
                  by_cases cij : j = i
                  · subst cij
                    rw [show (!decide ((j : Int) = (j : Int))) = false by simp]
                    repeat walk_at "w"
                    exact skip fun z => z.1 rfl
                  · rw [decide_eq_false (show ¬ (j : Int) = (i : Int) by omega)]
                    repeat walk_at "w"
                    refine w_ixL (SqL.of g7) (atI_of (by omega) (by rw [Int.toNat_natCast]; exact vj)) ?_
                    repeat walk_at "w"
                    refine w_lenC (by rw [hz]; omega) ?_
                    repeat walk_at "w"
                    refine w_slB (by rw [hz]; omega) (by omega) ?_
                    repeat walk_at "w"
                    have eb : decide (S (((its.map wOf).getD j []).take (wi.length : Int).toNat) = S wi) = preL wi ((its.map wOf).getD j []) := by
                      rw [Int.toNat_natCast]
                      exact decide_eq_decide.mpr S_inj_iff
                    rw [eb]
                    refine ite2 (fun hk => ?_) (fun hk => ?_)
                    · repeat walk_at "w"
                      refine lc_end hy hlj (by rw [hz, List.length_map] at *; omega) fun H8 e8 f8 => ⟨But.new e7 hD e8, ns ++ [(j : Int)], by rw [List.map_append]; rfl, ?_⟩
                      constructor
                      · intro z; simp at z
                      · intro z; exact (z j (by omega) (fun z => cij z.symm) (preL_iff.mp hk)).elim
                    · exact skip fun z => hk (preL_iff.mpr z.2)
                · obtain ⟨e7, ns, rfl, hns⟩ := hp
                  rw [Int.toNat_natCast] at hns
                  repeat walk_at "w"
                  refine w_new fun Z H7 n7 s7 f7 => ?_
                  refine w_neIL (ns := ns) (ms := []) (SqL.of (s7 _ _ hy)) (SqL.of f7) ?_
                  by_cases cn : ns = []
                  · rw [decide_eq_true cn]
                    repeat walk_at "w"
                    refine ⟨_, _, _, _, rfl, ((e5.trans s56).trans e7).trans s7, fun a' b' ha' hb' hn' => ?_⟩
                    by_cases c : a' = i
                    · subst c; rw [hwi]; exact hns.mp cn b' hb' hn'
                    · exact no a' b' (by omega) hb' hn'
                  · rw [decide_eq_false cn]
                    repeat walk_at "w"
                    rw [code_false (its := its) fun z => cn (hns.mpr fun b' hb' hn' => by rw [← hwi]; exact z.2.2 i b' (by omega) (by omega) hn')] at q
                    exact q _ (s1.trans (((e5.trans s56).trans e7).trans s7))
              · obtain ⟨o1, o2, o3, o4, rfl, e5, no⟩ := hp
                repeat walk_at "w"
                rw [hll] at no
                rw [code_true (its := its) ⟨⟨c1, c2⟩, okAll, fun a' b' ha' hb' => no a' b' (by omega) (by omega)⟩] at q
                exact q _ (s1.trans e5)
        · rw [decide_eq_false (show ¬ (its.length : Int) ≤ 40 by omega)]
          repeat walk_at "w"
          rw [code_false (its := its) fun z => c2 z.1.2] at q
          exact q H1 s1
      · rw [decide_eq_false (show ¬ (1 : Int) ≤ its.length by omega)]
        repeat walk_at "w"
        rw [code_false (its := its) fun z => c1 z.1.1] at q
        exact q H1 s1
end

end J
namespace J
open PySem PySem.Spec PyProof.Rows L2

local macro_rules | `(tactic| walk_at "ty") => `(tactic| first
  | with_reducible exact ty_int
  | with_reducible exact ty_bl
  | with_reducible exact ty_str
  | with_reducible exact ty_non
  | ((with_reducible refine' ty_lst ?vv); (case vv => walk_at "tr"))
  | ((with_reducible refine' ty_sqT ?vv); (case vv => walk_at "tr"))
  | ((with_reducible refine' ty_dic ?vv); (case vv => walk_at "tr")))
local macro_rules | `(tactic| walk_at "ix") => `(tactic| first | exact at0 | exact at1 | exact at2 | assumption)
local macro_rules | `(tactic| walk_at "size") => `(tactic| first
  | assumption
  | (show _ < sizeLine; rw [sizeLine_eq]; (try simp only [List.length_cons, List.length_nil, List.length_append, List.length_map]); omega)
  | (show _ ≤ sizeLine; rw [sizeLine_eq]; (try simp only [List.length_cons, List.length_nil, List.length_append, List.length_map]); omega))
local macro_rules | `(tactic| walk_at "side") => `(tactic| first
  | assumption
  | ((with_reducible refine cdw ?_ ?_) <;> omega)
  | omega
  | (exact ⟨by omega, by omega⟩)
  | (exact Or.inl ⟨by omega, by omega⟩)
  | (exact Or.inr ⟨by omega, by omega⟩)
  | decide
  | (simp only [List.length_cons, List.length_nil, List.length_append, List.length_map]; omega)
  | (show _ ≤ _; decide))
local macro_rules | `(tactic| walk_at "as") => `(tactic| with_reducible assumption)
local macro_rules | `(tactic| walk_at "tr") => `(tactic| first
  | with_reducible assumption
  | with_reducible exact upd_same
  | ((with_reducible refine' SqL.of ?hh); (case hh => walk_at "as"))
  | ((with_reducible refine' SqT.of ?hh); (case hh => walk_at "as"))
  | ((with_reducible refine' Same.stm ?ee ?gg); (case ee => walk_at "as"); (case gg => walk_at "tr"))
  | ((with_reducible refine' Same.sqT ?ee ?gg); (case ee => walk_at "as"); (case gg => walk_at "tr"))
  | ((with_reducible refine' Same.sqL ?ee ?gg); (case ee => walk_at "as"); (case gg => walk_at "tr"))
  | ((with_reducible refine' Same.at ?ee ?gg); (case ee => walk_at "as"); (case gg => walk_at "tr"))
  | ((with_reducible refine' But.stm ?ee ?ff ?gg); (case ee => walk_at "as"); (case ff => walk_at "ne"); (case gg => walk_at "tr"))
  | ((with_reducible refine' But.tup ?ee ?ff ?gg); (case ee => walk_at "as"); (case ff => walk_at "tr1"); (case gg => walk_at "tr"))
  | ((with_reducible refine' But.sqT ?ee ?ff ?gg); (case ee => walk_at "as"); (case ff => walk_at "tr1"); (case gg => walk_at "tr"))
  | ((with_reducible refine' But.tupL ?ee ?ff ?gg); (case ee => walk_at "as"); (case ff => walk_at "tr1"); (case gg => walk_at "tr"))
  | ((with_reducible refine' But.sqTL ?ee ?ff ?gg); (case ee => walk_at "as"); (case ff => walk_at "tr1"); (case gg => walk_at "tr"))
  | ((with_reducible refine' But.sqL ?ee ?ff ?gg); (case ee => walk_at "as"); (case ff => walk_at "ne"); (case gg => walk_at "tr"))
  | ((with_reducible refine' But.at ?ee ?ff ?gg); (case ee => walk_at "as"); (case ff => walk_at "ne"); (case gg => walk_at "tr")))
local macro_rules | `(tactic| walk_at "ts") => `(tactic| first
  | with_reducible assumption
  | with_reducible exact TS.refl _
  | ((with_reducible refine' TS.trans ?gg (TS.of ?ee)); (case ee => walk_at "as"); (case gg => walk_at "ts"))
  | ((with_reducible refine' TS.trans ?gg (TS.butS ?ee ?ff)); (case ee => walk_at "as"); (case ff => walk_at "tr1"); (case gg => walk_at "ts"))
  | ((with_reducible refine' TS.trans ?gg (TS.butL ?ee ?ff)); (case ee => walk_at "as"); (case ff => walk_at "tr1"); (case gg => walk_at "ts"))
  | ((with_reducible refine' TS.trans ?gg (TS.butI ?ee ?ff)); (case ee => walk_at "as"); (case ff => walk_at "tr1"); (case gg => walk_at "ts")))
local macro_rules | `(tactic| walk_at "sm") => `(tactic| first
  | with_reducible assumption
  | with_reducible exact Same.refl _
  | ((with_reducible refine' Same.trans ?gg ?ee); (case ee => walk_at "as"); (case gg => walk_at "sm"))
  | ((with_reducible refine' But.new ?gg ?nn ?ee); (case ee => walk_at "as"); (case nn => walk_at "fr"); (case gg => walk_at "sm")))
local macro_rules | `(tactic| walk_at "fr") => `(tactic| first
  | with_reducible assumption
  | ((with_reducible refine' Same.back ?ee ?nn); (case nn => walk_at "as"); (case ee => walk_at "sm"))
  | ((with_reducible refine' But.back ?ee ?ff ?nn); (case nn => walk_at "as"); (case ff => walk_at "ne0"); (case ee => walk_at "bu")))
local macro_rules | `(tactic| walk_at "bu") => `(tactic| first
  | with_reducible assumption
  | with_reducible exact But.refl _ _
  | ((with_reducible refine' But.trans ?gg ?ee); (case ee => walk_at "as"); (case gg => walk_at "bu"))
  | ((with_reducible refine' But.trans ?gg (But.of ?ee)); (case ee => walk_at "as"); (case gg => walk_at "bu"))
  | ((with_reducible refine' But.new2 ?gg ?nn ?ee); (case ee => walk_at "as"); (case nn => walk_at "frB"); (case gg => walk_at "bu")))
local macro_rules | `(tactic| walk_at "frB") => `(tactic| first
  | with_reducible assumption
  | ((with_reducible refine' Same.back ?ee ?nn); (case nn => walk_at "as"); (case ee => walk_at "sm"))
  | ((with_reducible refine' But.back' ?ee ?ff ?nn); (case nn => walk_at "as"); (case ee => walk_at "bu"); (case ff => walk_at "tr1")))
local macro_rules | `(tactic| walk_at "tr1") => `(tactic| first
  | with_reducible assumption
  | ((with_reducible refine' Same.stm ?ee ?gg); (case ee => walk_at "as"); (case gg => walk_at "tr1"))
  | ((with_reducible refine' Same.at ?ee ?gg); (case ee => walk_at "as"); (case gg => walk_at "tr1"))
  | ((with_reducible refine' But.at ?ee ?ff ?gg); (case ee => walk_at "as"); (case ff => walk_at "ne0"); (case gg => walk_at "tr1"))
  | ((with_reducible refine' But.stm ?ee ?ff ?gg); (case ee => walk_at "as"); (case ff => walk_at "ne0"); (case gg => walk_at "tr1")))
local macro_rules | `(tactic| walk_at "ne0") => `(tactic| first
  | with_reducible assumption
  | (with_reducible apply Ne.symm; with_reducible assumption))
local macro_rules | `(tactic| walk_at "ne") => `(tactic| first
  | with_reducible assumption
  | (with_reducible apply Ne.symm; with_reducible assumption)
  | ((with_reducible refine' stm_ne ?hh ?nn); (case nn => walk_at "as"); (case hh => walk_at "tr1"))
  | ((with_reducible refine' ne_of_none ?hh ?nn); (case nn => walk_at "as"); (case hh => walk_at "tr1"))
  | ((with_reducible apply Ne.symm); (with_reducible refine' ne_of_none ?hh ?nn); (case nn => walk_at "as"); (case hh => walk_at "tr1")))
local macro_rules | `(tactic| walk_at "v") => `(tactic| first
  | with_reducible refine w_seq ?_
  | ((with_reducible refine' w_var ?vv ?_); (case vv => exact rfl))
  | with_reducible refine w_c ?_
  | with_reducible refine w_op ?_
  | with_reducible refine w_asg ?_
  | with_reducible refine w_gName ?_
  | with_reducible refine w_ret ?_
  | with_reducible refine w_ifS ?_
  | with_reducible refine w_drop ?_
  | with_reducible refine w_next ?_
  | with_reducible refine w_cons ?_
  | with_reducible refine w_nil ?_
  | with_reducible refine w_call ?_
  | with_reducible refine w_cb ?_
  | with_reducible refine w_rI0 ?_
  | with_reducible refine w_addI ?_
  | with_reducible refine w_eqI ?_
  | with_reducible refine w_neI ?_
  | with_reducible refine w_eqS ?_
  | with_reducible refine w_neS ?_
  | with_reducible refine w_eqB ?_
  | with_reducible refine w_neB ?_
  | with_reducible refine w_chain ?_
  | with_reducible refine w_test ?_
  | with_reducible refine w_tB ?_
  | with_reducible refine w_bl ?_
  | ((with_reducible refine' w_mulI ?vv ?_); (case vv => walk_at "side"))
  | ((with_reducible refine' w_rI ?vv ?_); (case vv => walk_at "side"))
  | with_reducible refine w_int1 ?_
  | with_reducible refine w_int1b ?_
  | with_reducible refine w_tup ?_
  | with_reducible refine w_lst ?_
  | with_reducible refine w_un ?_
  | with_reducible refine w_rU ?_
  | with_reducible refine w_not ?_
  | with_reducible refine w_notV ?_
  | with_reducible refine w_ifE ?_
  | with_reducible refine w_nT ?_
  | with_reducible refine w_nF ?_
  | with_reducible refine iteT ?_
  | with_reducible refine iteF ?_
  | ((with_reducible refine' w_ixT ?vv ?ww ?_); (case vv => walk_at "tr"); (case ww => walk_at "ix"))
  | ((with_reducible refine' w_ixL ?vv ?ww ?_); (case vv => walk_at "tr"); (case ww => walk_at "ix"))
  | with_reducible refine w_gSub ?_
  | ((with_reducible refine' w_setL ?vv ?ww ?_); (case vv => walk_at "tr"); (case ww => first | rfl | decide | assumption))
  | ((with_reducible refine' w_lenL ?vv ?_); (case vv => walk_at "tr"))
  | ((with_reducible refine' w_lenT ?vv ?_); (case vv => walk_at "tr"))
  | with_reducible refine w_max2 ?_
  | with_reducible refine w_max3 ?_
  | with_reducible refine w_din ?_
  | with_reducible refine w_dnotin ?_
  | with_reducible refine w_dput ?_
  | with_reducible refine w_min2 ?_
  | with_reducible refine w_bm ?_
  | with_reducible refine w_bm0 ?_
  | ((with_reducible refine' w_tyL ?vv ?_); (case vv => walk_at "tr"))
  | ((with_reducible refine' w_append ?vv ?ww ?_); (case vv => walk_at "tr"); (case ww => walk_at "size"))
  | ((with_reducible refine' w_size ?vv ?_); (case vv => walk_at "size"))
  | with_reducible refine w_forL ?_
  | with_reducible refine w_forT ?_
  | with_reducible refine w_forR1 ?_
  | with_reducible refine w_forR2 ?_
  | with_reducible refine w_lcL ?_
  | with_reducible refine w_lcT ?_
  | with_reducible refine w_lcR1 ?_
  | with_reducible refine w_yes ?_
  | with_reducible refine w_sl ?_
  | with_reducible refine w_noPart ?_
  | with_reducible refine w_part ?_
  | with_reducible refine w_int ?_
  | ((with_reducible refine' w_slL ?vv ?_); (case vv => walk_at "tr"))
  | ((with_reducible refine' w_seqL ?vv ?ww ?_); (case vv => walk_at "tr"); (case ww => rfl))
  | ((with_reducible refine' w_seqT ?vv ?ww ?_); (case vv => walk_at "tr"); (case ww => rfl))
  | with_reducible refine w_gNil ?_
  | with_reducible refine w_gCons ?_
  | with_reducible refine w_forZ ?_
  | with_reducible refine w_forM ?_
  | with_reducible refine w_forE ?_
  | with_reducible refine w_forV ?_
  | with_reducible refine w_lcZ ?_
  | with_reducible refine w_lcE ?_
  | ((with_reducible refine' w_isi (b := true) ?vv ?ww ?_); (case vv => walk_at "ty"); (case ww => decide +kernel))
  | ((with_reducible refine' w_isi (b := false) ?vv ?ww ?_); (case vv => walk_at "ty"); (case ww => decide +kernel))
  | with_reducible refine w_revL ?_
  | with_reducible refine w_pairN ?_
  | with_reducible refine w_pairC ?_
  | with_reducible refine w_dget ?_
  | with_reducible refine w_met ?_
  | ((with_reducible refine' w_metAt ?vv ?ww ?_); (case vv => walk_at "tr"); (case ww => rfl))
  | with_reducible refine w_mkI ?_
  | with_reducible refine w_fld ?_
  | ((with_reducible refine' w_fldAt ?vv ?cc ?nn ?ww ?_); (case vv => walk_at "tr"); (case cc => walk_at "cls"); (case nn => walk_at "na"); (case ww => rfl))
  | with_reducible refine w_sfld ?_
  | ((with_reducible refine' w_sfldAt ?vv ?cc ?nn ?ll ?ee ?_); (case vv => walk_at "tr"); (case cc => walk_at "cls"); (case nn => walk_at "na"); (case ll => simp); (case ee => rfl))
  | ((with_reducible refine' w_tupL ?vv ?_); (case vv => walk_at "tr"))
  | ((with_reducible refine' w_tupT ?vv ?_); (case vv => walk_at "tr"))
  | ((with_reducible refine' w_listL ?vv ?_); (case vv => walk_at "tr"))
  | ((with_reducible refine' w_listT ?vv ?_); (case vv => walk_at "tr"))
  | with_reducible refine w_tyS ?_
  | with_reducible refine w_lcZM ?_
  | with_reducible refine w_js ?_
  | with_reducible refine w_jsN ?_
  | ((with_reducible refine' w_jsP ?vv ?_); (case vv => walk_at "size"))
  | with_reducible refine w_fmt ?_
  | with_reducible refine w_forRR ?_
  | with_reducible refine w_retN ?_
  | with_reducible refine w_break ?_
  | with_reducible refine w_cont ?_)
local macro_rules | `(tactic| walk_at "w") => `(tactic| first
  | walk_at "v"
  | with_reducible refine w_or ?_
  | with_reducible refine w_and ?_
  | with_reducible refine w_andV ?_
  | with_reducible refine w_orV ?_)
local macro_rules | `(tactic| walk_at "wd") => `(tactic| first
  | walk_at "w"
  | ((with_reducible refine' w_decT ?vv ?_); (case vv => decide +kernel))
  | ((with_reducible refine' w_decF ?vv ?_); (case vv => decide +kernel)))
local macro_rules | `(tactic| walk_at "tz") => `(tactic| (intro S z; (repeat walk_at "w"); exact z))
local macro_rules | `(tactic| walk_at "wf") => `(tactic| first
  | walk_at "wd"
  | ((with_reducible refine' w_decF ?vv ?_); (case vv => with_reducible assumption)))
/-! ### a try in a def that lets nothing out -/
theorem takes0 {X : Cx} : Takes X (fun _ _ _ _ => False) := fun _ _ ⟨_, _, _, _, _, _, _, _, _, _, _, _, _, _, _, _, w⟩ => w.elim
section
variable {σ : L2.St} {H : Hp} {Q : VK}
theorem w_xf {a C : Addr} {cls : Value} {d : Option Addr} {f : Str} {te : TE} (k : te σ H fun x H1 => x = .ref a ∧ cls = .ref C ∧ ∃ (dd : Addr) (fs : List (Str × V)) (v : V), d = some dd ∧ H1 dd = some (.xd fs) ∧ fs.lookup f = some v ∧ Q v H1) : tXf a cls d C f te σ H Q := k
end

end J
namespace J
open PySem PySem.Spec PyProof.Rows L2

local macro_rules | `(tactic| walk_at "ty") => `(tactic| first
  | with_reducible exact ty_int
  | with_reducible exact ty_bl
  | with_reducible exact ty_str
  | with_reducible exact ty_non
  | ((with_reducible refine' ty_lst ?vv); (case vv => walk_at "tr"))
  | ((with_reducible refine' ty_sqT ?vv); (case vv => walk_at "tr"))
  | ((with_reducible refine' ty_dic ?vv); (case vv => walk_at "tr")))
local macro_rules | `(tactic| walk_at "ix") => `(tactic| first | exact at0 | exact at1 | exact at2 | assumption)
local macro_rules | `(tactic| walk_at "size") => `(tactic| first
  | assumption
  | (show _ < sizeLine; rw [sizeLine_eq]; (try simp only [List.length_cons, List.length_nil, List.length_append, List.length_map]); omega)
  | (show _ ≤ sizeLine; rw [sizeLine_eq]; (try simp only [List.length_cons, List.length_nil, List.length_append, List.length_map]); omega))
local macro_rules | `(tactic| walk_at "side") => `(tactic| first
  | assumption
  | ((with_reducible refine cdw ?_ ?_) <;> omega)
  | omega
  | (exact ⟨by omega, by omega⟩)
  | (exact Or.inl ⟨by omega, by omega⟩)
  | (exact Or.inr ⟨by omega, by omega⟩)
  | decide
  | (simp only [List.length_cons, List.length_nil, List.length_append, List.length_map]; omega)
  | (show _ ≤ _; decide))
local macro_rules | `(tactic| walk_at "as") => `(tactic| with_reducible assumption)
local macro_rules | `(tactic| walk_at "tr") => `(tactic| first
  | with_reducible assumption
  | with_reducible exact upd_same
  | ((with_reducible refine' SqL.of ?hh); (case hh => walk_at "as"))
  | ((with_reducible refine' SqT.of ?hh); (case hh => walk_at "as"))
  | ((with_reducible refine' Same.stm ?ee ?gg); (case ee => walk_at "as"); (case gg => walk_at "tr"))
  | ((with_reducible refine' Same.sqT ?ee ?gg); (case ee => walk_at "as"); (case gg => walk_at "tr"))
  | ((with_reducible refine' Same.sqL ?ee ?gg); (case ee => walk_at "as"); (case gg => walk_at "tr"))
  | ((with_reducible refine' Same.at ?ee ?gg); (case ee => walk_at "as"); (case gg => walk_at "tr"))
  | ((with_reducible refine' But.stm ?ee ?ff ?gg); (case ee => walk_at "as"); (case ff => walk_at "ne"); (case gg => walk_at "tr"))
  | ((with_reducible refine' But.tup ?ee ?ff ?gg); (case ee => walk_at "as"); (case ff => walk_at "tr1"); (case gg => walk_at "tr"))
  | ((with_reducible refine' But.sqT ?ee ?ff ?gg); (case ee => walk_at "as"); (case ff => walk_at "tr1"); (case gg => walk_at "tr"))
  | ((with_reducible refine' But.tupL ?ee ?ff ?gg); (case ee => walk_at "as"); (case ff => walk_at "tr1"); (case gg => walk_at "tr"))
  | ((with_reducible refine' But.sqTL ?ee ?ff ?gg); (case ee => walk_at "as"); (case ff => walk_at "tr1"); (case gg => walk_at "tr"))
  | ((with_reducible refine' But.sqL ?ee ?ff ?gg); (case ee => walk_at "as"); (case ff => walk_at "ne"); (case gg => walk_at "tr"))
  | ((with_reducible refine' But.at ?ee ?ff ?gg); (case ee => walk_at "as"); (case ff => walk_at "ne"); (case gg => walk_at "tr")))
local macro_rules | `(tactic| walk_at "ts") => `(tactic| first
  | with_reducible assumption
  | with_reducible exact TS.refl _
  | ((with_reducible refine' TS.trans ?gg (TS.of ?ee)); (case ee => walk_at "as"); (case gg => walk_at "ts"))
  | ((with_reducible refine' TS.trans ?gg (TS.butS ?ee ?ff)); (case ee => walk_at "as"); (case ff => walk_at "tr1"); (case gg => walk_at "ts"))
  | ((with_reducible refine' TS.trans ?gg (TS.butL ?ee ?ff)); (case ee => walk_at "as"); (case ff => walk_at "tr1"); (case gg => walk_at "ts"))
  | ((with_reducible refine' TS.trans ?gg (TS.butI ?ee ?ff)); (case ee => walk_at "as"); (case ff => walk_at "tr1"); (case gg => walk_at "ts")))
local macro_rules | `(tactic| walk_at "sm") => `(tactic| first
  | with_reducible assumption
  | with_reducible exact Same.refl _
  | ((with_reducible refine' Same.trans ?gg ?ee); (case ee => walk_at "as"); (case gg => walk_at "sm"))
  | ((with_reducible refine' But.new ?gg ?nn ?ee); (case ee => walk_at "as"); (case nn => walk_at "fr"); (case gg => walk_at "sm")))
local macro_rules | `(tactic| walk_at "fr") => `(tactic| first
  | with_reducible assumption
  | ((with_reducible refine' Same.back ?ee ?nn); (case nn => walk_at "as"); (case ee => walk_at "sm"))
  | ((with_reducible refine' But.back ?ee ?ff ?nn); (case nn => walk_at "as"); (case ff => walk_at "ne0"); (case ee => walk_at "bu")))
local macro_rules | `(tactic| walk_at "bu") => `(tactic| first
  | with_reducible assumption
  | with_reducible exact But.refl _ _
  | ((with_reducible refine' But.trans ?gg ?ee); (case ee => walk_at "as"); (case gg => walk_at "bu"))
  | ((with_reducible refine' But.trans ?gg (But.of ?ee)); (case ee => walk_at "as"); (case gg => walk_at "bu"))
  | ((with_reducible refine' But.new2 ?gg ?nn ?ee); (case ee => walk_at "as"); (case nn => walk_at "frB"); (case gg => walk_at "bu")))
local macro_rules | `(tactic| walk_at "frB") => `(tactic| first
  | with_reducible assumption
  | ((with_reducible refine' Same.back ?ee ?nn); (case nn => walk_at "as"); (case ee => walk_at "sm"))
  | ((with_reducible refine' But.back' ?ee ?ff ?nn); (case nn => walk_at "as"); (case ee => walk_at "bu"); (case ff => walk_at "tr1")))
local macro_rules | `(tactic| walk_at "tr1") => `(tactic| first
  | with_reducible assumption
  | ((with_reducible refine' Same.stm ?ee ?gg); (case ee => walk_at "as"); (case gg => walk_at "tr1"))
  | ((with_reducible refine' Same.at ?ee ?gg); (case ee => walk_at "as"); (case gg => walk_at "tr1"))
  | ((with_reducible refine' But.at ?ee ?ff ?gg); (case ee => walk_at "as"); (case ff => walk_at "ne0"); (case gg => walk_at "tr1"))
  | ((with_reducible refine' But.stm ?ee ?ff ?gg); (case ee => walk_at "as"); (case ff => walk_at "ne0"); (case gg => walk_at "tr1")))
local macro_rules | `(tactic| walk_at "ne0") => `(tactic| first
  | with_reducible assumption
  | (with_reducible apply Ne.symm; with_reducible assumption))
local macro_rules | `(tactic| walk_at "ne") => `(tactic| first
  | with_reducible assumption
  | (with_reducible apply Ne.symm; with_reducible assumption)
  | ((with_reducible refine' stm_ne ?hh ?nn); (case nn => walk_at "as"); (case hh => walk_at "tr1"))
  | ((with_reducible refine' ne_of_none ?hh ?nn); (case nn => walk_at "as"); (case hh => walk_at "tr1"))
  | ((with_reducible apply Ne.symm); (with_reducible refine' ne_of_none ?hh ?nn); (case nn => walk_at "as"); (case hh => walk_at "tr1")))
local macro_rules | `(tactic| walk_at "v") => `(tactic| first
  | with_reducible refine w_seq ?_
  | ((with_reducible refine' w_var ?vv ?_); (case vv => exact rfl))
  | with_reducible refine w_c ?_
  | with_reducible refine w_op ?_
  | with_reducible refine w_asg ?_
  | with_reducible refine w_gName ?_
  | with_reducible refine w_ret ?_
  | with_reducible refine w_ifS ?_
  | with_reducible refine w_drop ?_
  | with_reducible refine w_next ?_
  | with_reducible refine w_cons ?_
  | with_reducible refine w_nil ?_
  | with_reducible refine w_call ?_
  | with_reducible refine w_cb ?_
  | with_reducible refine w_rI0 ?_
  | with_reducible refine w_addI ?_
  | with_reducible refine w_eqI ?_
  | with_reducible refine w_neI ?_
  | with_reducible refine w_eqS ?_
  | with_reducible refine w_neS ?_
  | with_reducible refine w_eqB ?_
  | with_reducible refine w_neB ?_
  | with_reducible refine w_chain ?_
  | with_reducible refine w_test ?_
  | with_reducible refine w_tB ?_
  | with_reducible refine w_bl ?_
  | ((with_reducible refine' w_mulI ?vv ?_); (case vv => walk_at "side"))
  | ((with_reducible refine' w_rI ?vv ?_); (case vv => walk_at "side"))
  | with_reducible refine w_int1 ?_
  | with_reducible refine w_int1b ?_
  | with_reducible refine w_tup ?_
  | with_reducible refine w_lst ?_
  | with_reducible refine w_un ?_
  | with_reducible refine w_rU ?_
  | with_reducible refine w_not ?_
  | with_reducible refine w_notV ?_
  | with_reducible refine w_ifE ?_
  | with_reducible refine w_nT ?_
  | with_reducible refine w_nF ?_
  | with_reducible refine iteT ?_
  | with_reducible refine iteF ?_
  | ((with_reducible refine' w_ixT ?vv ?ww ?_); (case vv => walk_at "tr"); (case ww => walk_at "ix"))
  | ((with_reducible refine' w_ixL ?vv ?ww ?_); (case vv => walk_at "tr"); (case ww => walk_at "ix"))
  | with_reducible refine w_gSub ?_
  | ((with_reducible refine' w_setL ?vv ?ww ?_); (case vv => walk_at "tr"); (case ww => first | rfl | decide | assumption))
  | ((with_reducible refine' w_lenL ?vv ?_); (case vv => walk_at "tr"))
  | ((with_reducible refine' w_lenT ?vv ?_); (case vv => walk_at "tr"))
  | with_reducible refine w_max2 ?_
  | with_reducible refine w_max3 ?_
  | with_reducible refine w_din ?_
  | with_reducible refine w_dnotin ?_
  | with_reducible refine w_dput ?_
  | with_reducible refine w_min2 ?_
  | with_reducible refine w_bm ?_
  | with_reducible refine w_bm0 ?_
  | ((with_reducible refine' w_tyL ?vv ?_); (case vv => walk_at "tr"))
  | ((with_reducible refine' w_append ?vv ?ww ?_); (case vv => walk_at "tr"); (case ww => walk_at "size"))
  | ((with_reducible refine' w_size ?vv ?_); (case vv => walk_at "size"))
  | with_reducible refine w_forL ?_
  | with_reducible refine w_forT ?_
  | with_reducible refine w_forR1 ?_
  | with_reducible refine w_forR2 ?_
  | with_reducible refine w_lcL ?_
  | with_reducible refine w_lcT ?_
  | with_reducible refine w_lcR1 ?_
  | with_reducible refine w_yes ?_
  | with_reducible refine w_sl ?_
  | with_reducible refine w_noPart ?_
  | with_reducible refine w_part ?_
  | with_reducible refine w_int ?_
  | ((with_reducible refine' w_slL ?vv ?_); (case vv => walk_at "tr"))
  | ((with_reducible refine' w_seqL ?vv ?ww ?_); (case vv => walk_at "tr"); (case ww => rfl))
  | ((with_reducible refine' w_seqT ?vv ?ww ?_); (case vv => walk_at "tr"); (case ww => rfl))
  | with_reducible refine w_gNil ?_
  | with_reducible refine w_gCons ?_
  | with_reducible refine w_forZ ?_
  | with_reducible refine w_forM ?_
  | with_reducible refine w_forE ?_
  | with_reducible refine w_forV ?_
  | with_reducible refine w_lcZ ?_
  | with_reducible refine w_lcE ?_
  | ((with_reducible refine' w_isi (b := true) ?vv ?ww ?_); (case vv => walk_at "ty"); (case ww => decide +kernel))
  | ((with_reducible refine' w_isi (b := false) ?vv ?ww ?_); (case vv => walk_at "ty"); (case ww => decide +kernel))
  | with_reducible refine w_revL ?_
  | with_reducible refine w_pairN ?_
  | with_reducible refine w_pairC ?_
  | with_reducible refine w_dget ?_
  | with_reducible refine w_met ?_
  | ((with_reducible refine' w_metAt ?vv ?ww ?_); (case vv => walk_at "tr"); (case ww => rfl))
  | with_reducible refine w_mkI ?_
  | with_reducible refine w_fld ?_
  | ((with_reducible refine' w_fldAt ?vv ?cc ?nn ?ww ?_); (case vv => walk_at "tr"); (case cc => walk_at "cls"); (case nn => walk_at "na"); (case ww => rfl))
  | with_reducible refine w_sfld ?_
  | ((with_reducible refine' w_sfldAt ?vv ?cc ?nn ?ll ?ee ?_); (case vv => walk_at "tr"); (case cc => walk_at "cls"); (case nn => walk_at "na"); (case ll => simp); (case ee => rfl))
  | ((with_reducible refine' w_tupL ?vv ?_); (case vv => walk_at "tr"))
  | ((with_reducible refine' w_tupT ?vv ?_); (case vv => walk_at "tr"))
  | ((with_reducible refine' w_listL ?vv ?_); (case vv => walk_at "tr"))
  | ((with_reducible refine' w_listT ?vv ?_); (case vv => walk_at "tr"))
  | with_reducible refine w_tyS ?_
  | with_reducible refine w_lcZM ?_
  | with_reducible refine w_js ?_
  | with_reducible refine w_jsN ?_
  | ((with_reducible refine' w_jsP ?vv ?_); (case vv => walk_at "size"))
  | with_reducible refine w_fmt ?_
  | with_reducible refine w_forRR ?_
  | with_reducible refine w_retN ?_
  | with_reducible refine w_break ?_
  | with_reducible refine w_cont ?_)
local macro_rules | `(tactic| walk_at "w") => `(tactic| first
  | walk_at "v"
  | with_reducible refine w_or ?_
  | with_reducible refine w_and ?_
  | with_reducible refine w_andV ?_
  | with_reducible refine w_orV ?_)
local macro_rules | `(tactic| walk_at "wd") => `(tactic| first
  | walk_at "w"
  | ((with_reducible refine' w_decT ?vv ?_); (case vv => decide +kernel))
  | ((with_reducible refine' w_decF ?vv ?_); (case vv => decide +kernel)))
local macro_rules | `(tactic| walk_at "tz") => `(tactic| (intro S z; (repeat walk_at "w"); exact z))
local macro_rules | `(tactic| walk_at "wf") => `(tactic| first
  | walk_at "wd"
  | ((with_reducible refine' w_decF ?vv ?_); (case vv => with_reducible assumption)))
/-! ### codes: the law's reader, what is asked -/
open SX
def finV (Q : VK) (H : Hp) (word : Str) (v : V) : Prop := ∀ P H', H' P = some (.lst [.str word, v]) → Same H H' → H P = none → Q (.ref P) H'
def spLRead : Sp := fun vs H Q _ => ∃ (c : Addr) (ws : List (List Nat)) (l : List Nat) (n : Nat), vs = [.ref c, .str (S l)] ∧ H c = some (.lst (TV ws)) ∧ GC n ws ∧ n ≤ 39 ∧ l.length ≤ 1000 ∧ (readO ws l = none → ∀ H', Same H H' → Q .non H') ∧
  ∀ its, readO ws l = some its → ∀ R H', H' R = some (.lst (natsV its)) → Same H H' → H R = none → Q (.ref R) H'
theorem len_law_read {vs H Q E} (h : spLRead vs H Q E) : vs.length = 2 := by obtain ⟨_, _, _, _, rfl, _⟩ := h; rfl
def spAsked (K : PySem.W.Frag) : Sp := fun vs H Q _ => ∃ (way : Int) (c t : V) (o : Option Its), vs = [.int way, c, t] ∧ CodeAt K H c o ∧ (isCodeO o = false → finV Q H "code" c) ∧
  (isCodeO o = true → (way = 0 → ∃ p, ItemsAt K H t p ∧ ∃ ws : List (List Nat), o = some (ws.map some) ∧ (p = none ∨ ∃ xs, p = some xs ∧ xs.all (goodI ws.length) = false) ∧ finV Q H "bits" t) ∧
    (way ≠ 0 → AnyAt K H t ∧ ∃ (a : Addr) (ws : List (List Nat)) (n : Nat), c = .ref a ∧ H a = some (.lst (TV ws)) ∧ GC n ws ∧ n ≤ 39 ∧ ((∀ l, t = .str (S l) → bitsL l = false ∨ readO ws l = none) → finV Q H "bits" t) ∧
      ∀ l its, t = .str (S l) → bitsL l = true → readO ws l = some its → ∀ P R H', H' P = some (.lst [.str "told", .ref R]) → H' R = some (.lst (natsV its)) → Same H H' → H P = none → H R = none → Q (.ref P) H'))
theorem len_law_asked {K : PySem.W.Frag} {vs H Q E} (h : spAsked K vs H Q E) : vs.length = 3 := by obtain ⟨_, _, _, _, rfl, _⟩ := h; rfl
theorem cut_a {l : List Nat} {a : Int} (ha : 0 ≤ a) : cutS (S l) (some a) none = S (l.drop a.toNat) := by
  unfold cutS
  have e : HT.sIx (S l).length 0 (some a) = min a.toNat l.length := by
    show (if a < 0 then (a + ((S l).length : Int)).toNat else min a.toNat (S l).length) = _
    rw [if_neg (by omega), S_len]
  rw [e, show HT.sIx (S l).length (S l).length none = l.length from S_len l]
  congr 1
  show ((l.drop _).take _).toArray = _
  congr 1
  by_cases h : a.toNat ≤ l.length
  · rw [Nat.min_eq_left h, List.take_of_length_le (by rw [List.length_drop]; omega)]
  · rw [Nat.min_eq_right (by omega), List.drop_length, List.take_nil, List.drop_of_length_le (by omega)]
theorem w_slA {K : PySem.W.Frag} {H : Hp} {Q : VK} {l : List Nat} {a : Int} (h : l.length ≤ sizeLine) (ha : 0 ≤ a) (k : Q (.str (S (l.drop a.toNat))) H) : rSlAny K (.str (S l)) (some a) none H Q :=
  w_slS (by rw [S_len]; exact h) (by rw [cut_a ha]; exact k)
section
variable {P : Program} {w : World} {K : PySem.W.Frag} {mg : Str → Option Value}
theorem ok_law_asked [c : Facts K mg] (G_bits_of : XL.Fn P w K mg "bits_of" 4 ["code", "items"] ((spBitsOf K))) (G_read_items : XL.Fn P w K mg "read_items" 4 ["code", "text"] ((spRead K))) : XL.Fn P w K mg "_law_asked" 6 ["way", "code", "thing"] ((spAsked K)) := by
  obtain ⟨fd, F⟩ := c.d_law_asked
  refine XL.Fn.mk' F c.g_law_asked sc_law_asked (k := 5) (fun vs H Q E h => ?_) (fun _ _ _ _ _ _ us hl => match us, hl with | [_, _, _], _ => rfl) (fun base cdv A outer s H vs Q E hr h => ?_)
  · exact len_law_asked h
  · have nd := sc_law_asked.nd
    have hu := hu_of hr.r
    have hr_bits_of : XL.Rm 4 _ := hr.mono (by omega)
    have hr_read_items : XL.Rm 4 _ := hr.mono (by omega)
    refine ⟨_, (PSs.nox (pss_one (XL.ps_tryX rfl rfl takes0 (fun _ _ _ tk po => (pss_one (ps_ret (pe_lst (pa_cons pe_str (pa_cons (pe_ifExp (pt_cmpR (op_eqA (K := K) rfl hr.units) (pv 0) pe_int (nomark _)) (XL.pe_fnX tk G_bits_of hr_bits_of (by rfl) (pa_cons (pv 1) (pa_cons (pv 2) pa_nil))) (XL.pe_fnX tk G_read_items hr_read_items (by rfl) (pa_cons (pv 1) (pa_cons (pv 2) pa_nil)))) pa_nil)))))) (XL.HdX.named (i := 3) nd rfl rfl ⟨by rfl, by decide, .inl c.gc_NoCode⟩ (fun _ _ _ _ _ hz hf => (pss_one (ps_ret (pe_lst (pa_cons pe_str (pa_cons (pe_xf c.x_NoCode.x c.xn_NoCode_given hz hf (pv 3)) pa_nil)))))) (XL.HdX.named (i := 3) nd rfl rfl ⟨by rfl, by decide, .inl c.gc_NoBits⟩ (fun _ _ _ _ _ hz hf => (pss_one (ps_ret (pe_lst (pa_cons pe_str (pa_cons (pe_xf c.x_NoBits.x c.xn_NoBits_given hz hf (pv 3)) pa_nil)))))) (XL.HdX.bare ⟨by rfl, by decide, .inl c.gc_RowsError⟩ (fun _ _ _ _ _ hz hf => (pss_one (ps_ret (pe_lst (pa_cons pe_str (pa_cons pe_non pa_nil)))))) XL.HdX.nil)))))), ?_⟩
    try dsimp only [cxOf, Cx.nox, Cx.wish]
    obtain ⟨way, cc, t, o, rfl, hc, q1, q2⟩ := h
    have hz : sizeLine = 16777216 := sizeLine_eq
    repeat walk_at "w"
    refine ite2 (fun hk => ?_) (fun hk => ?_)
    · rw [decide_eq_true_eq] at hk
      refine w_callX ?_
      repeat walk_at "w"
      have up : ∀ {o : Option Its} {f : Its → Prop}, True := trivial
      cases ho : isCodeO o with
      | false =>
        refine ⟨cc, t, o, none, rfl, hc, fun _ d H' s n f => ?_, fun z => by rw [ho] at z; cases z⟩
        refine ⟨true, Facts.xm (mg := mg) "NoCode" (by decide) "NoCode" (by decide), fun _ a ha => ?_, fun z => nomatch z⟩
        unfold XL.tAsX
        repeat walk_at "w"
        refine w_xf ?_
        repeat walk_at "w"
        refine ⟨rfl, rfl, d, _, cc, rfl, f, rfl, ?_⟩
        repeat walk_at "w"
        refine w_new fun P1 H2 n2 s2 f2 => ?_
        exact q1 ho P1 H2 f2 (s.trans s2) (s.free n2)
      | true =>
        obtain ⟨p, hp, ws, hws, hbad, qf⟩ := (q2 ho).1 hk
        refine ⟨cc, t, o, p, rfl, hc, (fun z => by rw [ho] at z; cases z), fun _ => ⟨hp, ws, hws, fun _ d H' s n f => ?_, fun its hi hin => ?_⟩⟩
        · refine ⟨false, Facts.xm (mg := mg) "NoBits" (by decide) "NoCode" (by decide), (fun z => nomatch z), fun _ => ⟨true, Facts.xm (mg := mg) "NoBits" (by decide) "NoBits" (by decide), fun _ a ha => ?_, fun z => nomatch z⟩⟩
          unfold XL.tAsX
          repeat walk_at "w"
          refine w_xf ?_
          repeat walk_at "w"
          refine ⟨rfl, rfl, d, _, t, rfl, f, rfl, ?_⟩
          repeat walk_at "w"
          refine w_new fun P1 H2 n2 s2 f2 => ?_
          exact qf P1 H2 f2 (s.trans s2) (s.free n2)
        · exfalso
          rcases hbad with h | ⟨xs, h, hx⟩
          · rw [h] at hi; cases hi
          · rw [h] at hi
            cases Option.some.inj hi
            rw [List.all_eq_false] at hx
            obtain ⟨x, hm, hx⟩ := hx
            unfold natsV at hm
            obtain ⟨y, hy, rfl⟩ := List.mem_map.mp hm
            obtain ⟨i, hi', rfl⟩ := List.mem_map.mp hy
            refine hx (decide_eq_true ⟨by omega, ?_⟩)
            have := hin i hi'
            omega
    · rw [decide_eq_true_eq] at hk
      refine w_callX ?_
      repeat walk_at "w"
      cases ho : isCodeO o with
      | false =>
        refine ⟨cc, t, o, rfl, hc, fun _ d H' s n f => ?_, fun z => by rw [ho] at z; cases z⟩
        refine ⟨true, Facts.xm (mg := mg) "NoCode" (by decide) "NoCode" (by decide), fun _ a ha => ?_, fun z => nomatch z⟩
        unfold XL.tAsX
        repeat walk_at "w"
        refine w_xf ?_
        repeat walk_at "w"
        refine ⟨rfl, rfl, d, _, cc, rfl, f, rfl, ?_⟩
        repeat walk_at "w"
        refine w_new fun P1 H2 n2 s2 f2 => ?_
        exact q1 ho P1 H2 f2 (s.trans s2) (s.free n2)
      | true =>
        obtain ⟨any, a, ws, n, rfl, ha, gc, hn, qf, qt⟩ := (q2 ho).2 hk
        refine ⟨_, t, o, rfl, hc, (fun z => by rw [ho] at z; cases z), fun _ => ⟨any, a, ws, n, rfl, ha, gc, hn, fun hb d H' s n f => ?_, fun l its e hb hr R H' hR s nR => ?_⟩⟩
        · refine ⟨false, Facts.xm (mg := mg) "NoBits" (by decide) "NoCode" (by decide), (fun z => nomatch z), fun _ => ⟨true, Facts.xm (mg := mg) "NoBits" (by decide) "NoBits" (by decide), fun _ a ha => ?_, fun z => nomatch z⟩⟩
          unfold XL.tAsX
          repeat walk_at "w"
          refine w_xf ?_
          repeat walk_at "w"
          refine ⟨rfl, rfl, d, _, t, rfl, f, rfl, ?_⟩
          repeat walk_at "w"
          refine w_new fun P1 H2 n2 s2 f2 => ?_
          exact qf hb P1 H2 f2 (s.trans s2) (s.free n2)
        · repeat walk_at "w"
          refine w_new fun P1 H2 n2 s2 f2 => ?_
          exact qt l its e hb hr P1 R H2 f2 (s2 _ _ hR) (s.trans s2) (s.free n2) nR
theorem ok_law_read [c : Facts K mg] : XL.Fn P w K mg "_law_read" 1 ["code", "text"] (spLRead) := by
  obtain ⟨fd, F⟩ := c.d_law_read
  refine XL.Fn.mk' F c.g_law_read sc_law_read (k := 0) (fun vs H Q E h => ?_) (fun _ _ _ _ _ _ us hl => match us, hl with | [_, _], _ => rfl) (fun base cdv A outer s H vs Q E hr h => ?_)
  · exact len_law_read h
  · have nd := sc_law_read.nd
    have hu := hu_of hr.r
    refine ⟨_, (PSs.nox (pss_cons (ps_if (pt_cmpR (op_eqA (K := K) rfl hr.units) (pv 0) (pe_lst (pa_cons pe_str pa_nil)) (nomark _)) (pss_one (ps_ret (pe_ifExp (pt_cmpR (op_eqA (K := K) rfl hr.units) (pv 1) pe_str (nomark _)) (pe_lst pa_nil) pe_non))) pss_nil)
      (pss_cons (ps_asg (pe_tup (pa_cons (pe_lst pa_nil) (pa_cons (pv 1) pa_nil))) (pg_seq 2 (K := K) rfl rfl (pgs_cons (pg_name (i := 2) nd rfl (Or.inl rfl)) (pgs_cons (pg_name (i := 3) nd rfl (Or.inr rfl)) pgs_nil))))
      (pss_cons (ps_while PassesOwn.never (pt_cmpR (op_neA (K := K) rfl hr.units) (pv 3) pe_str (nomark _)) (pss_cons (ps_setLc (i := 4) (own := [("k", 5), ("word", 6)]) rfl nd rfl rfl (sw_true rfl rfl rfl (by decide +kernel)) (pi_enum (by rfl) c.f_enumerate (pa_cons (pv 0) pa_nil)) (blkOk_by (N := N_law_read) (sc := defScope s_law_read) (by decide +kernel)) (fun _ _ _ _ _ => (pg_seq 2 (K := K) rfl rfl (pgs_cons (pg_name (i := 5) nd rfl (Or.inl rfl)) (pgs_cons (pg_name (i := 6) nd rfl (Or.inl rfl)) pgs_nil)))) (fun _ _ _ _ _ => pts_one (pt_cmpR (op_eqA (K := K) rfl hr.units) (pe_slice (sl_any (K := K) rfl) (pv 3) po_none (po_some (pe_callB (call_lenA (K := K) rfl) (by rfl) c.f_len boot_len (pa_cons (pv 6) pa_nil)))) (pv 6) (nomark _))) (fun _ _ _ _ _ => (pv 5)))
      (pss_cons (ps_if (pt_cmpR (op_eqA (K := K) rfl hr.units) (pv 4) (pe_lst pa_nil) (nomark _)) (pss_one (ps_ret pe_non)) pss_nil)
      (pss_cons (ps_expr (pe_bm PySem.F.plainAttrs_list PySem.F.slot_list_append PySem.F.type_list_append mt_append (pv 2) (pa_cons (pe_ix (ix_any (K := K) rfl) (pv 4) pe_int (fun _ _ => rfl)) pa_nil)))
      (pss_one (ps_set (i := 3) nd rfl (Or.inr rfl) (pe_slice (sl_any (K := K) rfl) (pv 3) (po_some (pe_callB (call_lenA (K := K) rfl) (by rfl) c.f_len boot_len (pa_cons (pe_ix (ix_any (K := K) rfl) (pv 0) (pe_ix (ix_any (K := K) rfl) (pv 4) pe_int (fun _ _ => rfl)) (fun _ _ => rfl)) pa_nil))) po_none)))))))
      (pss_one (ps_ret (pv 2))))))), ?_⟩
    try dsimp only [cxOf, Cx.nox, Cx.wish]
    obtain ⟨cc, ws, l, n, rfl, hc, gc, hn, hl, q1, q2⟩ := h
    have hz : sizeLine = 16777216 := sizeLine_eq
    have gl := gc.len
    have e0 : ∀ w0 : List Nat, decide (S w0 = ("" : Str)) = decide (w0 = []) := fun w0 => decide_eq_decide.mpr ⟨fun h => S_inj (h.trans (show ("" : Str) = S [] from rfl)), fun h => by rw [h]; rfl⟩
    repeat walk_at "w"
    refine w_new fun Z H1 n1 s1 f1 => ?_
    have oks : (ws.map S).all PyData.strOk = true := by
      rw [List.all_map, List.all_eq_true]
      intro u hu
      exact strOk_bits (gc.bits u hu).1
    refine w_eqSL (ns := ws.map S) (ms := [S []]) (SqL.of (s1 _ _ hc)) (SqL.of f1) oks (by rw [List.all_cons, List.all_nil, Bool.and_true]; exact strOk_bits rfl) ?_
    have eb : decide (ws.map S = [S []]) = decide (ws = [[]]) := decide_eq_decide.mpr ⟨fun h => by
      cases ws with
      | nil => cases h
      | cons a r =>
        rw [List.map_cons] at h
        injection h with h1 h2
        rw [S_inj h1, List.map_eq_nil_iff.mp h2], fun h => by rw [h]; rfl⟩
    rw [eb]
    repeat walk_at "w"
    by_cases cw : ws = [[]]
    · rw [decide_eq_true cw]
      repeat walk_at "w"
      rw [e0]
      by_cases cl : l = []
      · rw [decide_eq_true cl]
        repeat walk_at "w"
        refine w_new fun R H2 n2 s2 f2 => ?_
        exact q2 [] (by unfold readO; rw [if_pos cw, if_pos cl]) R H2 f2 (s1.trans s2) (s1.free n2)
      · rw [decide_eq_false cl]
        repeat walk_at "w"
        exact q1 (by unfold readO; rw [if_pos cw, if_neg cl]) H1 s1
    · rw [decide_eq_false cw]
      have hnm : [] ∉ ws := fun z => cw (gc_empty gc z)
      have rd : readO ws l = (decF ws (l.length + 1) l).map (([] : List Nat) ++ ·) := by
        rw [show (([] : List Nat) ++ ·) = id from rfl, Option.map_id_fun]
        unfold readO
        rw [if_neg cw]; rfl
      repeat walk_at "w"
      refine w_new fun F H2 n2 s2 f2 => ?_
      repeat walk_at "w"
      refine w_new fun T H3 n3 s3 f3 => ?_
      have s13 := (s1.trans s2).trans s3
      have hF3 := s3 _ _ f2
      have nF : H F = none := s1.free n2
      repeat walk_at "w"
      refine w_while (fun m σ H' => ∃ (k : Nat) (its : List Nat) (o4 o5 o6 : Option V), σ = [some (.ref cc), some (.str (S l)), some (.ref F), some (.str (S (l.drop k))), o4, o5, o6] ∧ k ≤ l.length ∧ m = l.length - k ∧ Same H H' ∧ H' F = some (.lst (natsV its)) ∧ its.length ≤ k ∧ readO ws l = (decF ws (l.length + 1) (l.drop k)).map (its ++ ·)) l.length
        ⟨0, [], _, _, _, rfl, Nat.zero_le _, rfl, s13, hF3, Nat.le_refl _, by rw [List.drop_zero]; exact rd⟩ (fun m σ H' hp => ?_)
      obtain ⟨k, its, o4, o5, o6, rfl, hk, rfl, sm, hF, hi, hrd⟩ := hp
      have hc' := sm _ _ hc
      repeat walk_at "w"
      rw [e0]
      by_cases hne : l.drop k = []
      · rw [decide_eq_true hne]
        repeat walk_at "w"
        rw [hne, dec_nil] at hrd
        exact q2 its (by rw [hrd]; show some (its ++ []) = _; rw [List.append_nil]) F H' hF sm nF
      · rw [decide_eq_false hne]
        have hkl : k < l.length := by
          rcases Nat.lt_or_ge k l.length with h | h
          · exact h
          · exact (hne (List.drop_eq_nil_of_le h)).elim
        have hdl : (l.drop k).length ≤ 1000 := by rw [List.length_drop]; omega
        rw [dec_cons _ hne] at hrd
        repeat walk_at "w"
        refine w_whB ?_
        repeat walk_at "w"
        refine lc_enum (by decide) (fun D i zs H2 => Same H' H2 ∧ zs = natsV ((List.range i).filter fun i => preL (ws.getD i []) (l.drop k))) (SqL.of hc') (fun D H' hD e f => ⟨e, rfl⟩) (fun D hD i zs H' hi hy hp => SqL.of (hp.1 _ _ hc')) (fun D hD i x zs H0 H4 hx hll hy hp s8 => ?_) (fun D hD zs H4 hll hy hp => ?_)
        · obtain ⟨e, rfl⟩ := hp
          unfold TV at hx
          rw [List.getElem?_map, List.getElem?_map] at hx
          obtain ⟨s', hx', rfl⟩ := Option.map_eq_some_iff.mp hx
          obtain ⟨v, hv, rfl⟩ := Option.map_eq_some_iff.mp hx'
          have hvl := (gc.bits v (List.mem_of_getElem? hv)).2
          have hil := (List.getElem?_eq_some_iff.mp hv).1
          have gv : ws.getD i [] = v := by rw [List.getD_eq_getElem?_getD, hv]; rfl
          have hy' := s8 _ _ hy
          have fl := List.length_filter_le (fun i => preL (ws.getD i []) (l.drop k)) (List.range i)
          rw [List.length_range] at fl
          repeat walk_at "w"
          refine w_lenC (by rw [hz]; omega) ?_
          repeat walk_at "w"
          refine w_slB (by rw [hz]; omega) (by omega) ?_
          repeat walk_at "w"
          have ee : decide (S ((l.drop k).take (v.length : Int).toNat) = S v) = preL (ws.getD i []) (l.drop k) := by
            rw [gv, Int.toNat_natCast]
            exact decide_eq_decide.mpr S_inj_iff
          rw [ee]
          refine ite2 (fun hk => ?_) (fun hk => ?_)
          · repeat walk_at "w"
            refine lc_end hy' hll (by rw [hz]; unfold natsV; rw [List.length_map, List.length_map]; omega) fun H5 e5 f5 => ⟨But.new (e.trans s8) hD e5, ?_⟩
            rw [List.range_succ, List.filter_append, List.filter_cons, if_pos hk, List.filter_nil]; unfold natsV; rw [List.map_append, List.map_append]; rfl
          · refine lc_skip hy' hll ⟨e.trans s8, ?_⟩
            rw [List.range_succ, List.filter_append, List.filter_cons, if_neg hk, List.filter_nil, List.append_nil]
        · obtain ⟨e, rfl⟩ := hp
          rw [show (TV ws).length = ws.length from TV_len ws] at hy
          have hf : ((List.range ws.length).filter fun i => preL (ws.getD i []) (l.drop k)).head? = firstW ws (l.drop k) := List.head?_filter
          generalize (List.range ws.length).filter (fun i => preL (ws.getD i []) (l.drop k)) = fs at hy hf
          repeat walk_at "w"
          refine w_new fun Z H5 n5 s5 f5 => ?_
          have hy5 := s5 _ _ hy
          have sm5 := (sm.trans e).trans s5
          refine w_eqIL (ns := fs.map fun i : Nat => (i : Int)) (ms := []) (SqL.of hy5) (SqL.of f5) ?_
          cases fs with
          | nil =>
            have hn : firstW ws (l.drop k) = none := hf.symm
            rw [hn] at hrd
            rw [decide_eq_true (show ([] : List Nat).map (fun i : Nat => (i : Int)) = [] from rfl)]
            repeat walk_at "w"
            exact q1 hrd _ sm5
          | cons i r =>
            have hn : firstW ws (l.drop k) = some i := hf.symm
            rw [hn] at hrd
            rw [decide_eq_false (show ¬ (i :: r).map (fun i : Nat => (i : Int)) = [] by simp)]
            obtain ⟨hil, hpre⟩ := firstW_some hn
            have gw : ws[i]? = some (ws.getD i []) := by rw [List.getD_eq_getElem?_getD, List.getElem?_eq_getElem hil]; rfl
            have hwm := List.mem_of_getElem? gw
            have hwl := (gc.bits _ hwm).2
            have hpl := hpre.length_le
            rw [List.length_drop] at hpl
            have hpos : 0 < (ws.getD i []).length := List.length_pos_iff.mpr fun z => hnm (z ▸ hwm)
            have hF5 := (e.trans s5) _ _ hF
            repeat walk_at "w"
            refine w_append hF5 (by rw [hz]; unfold natsV; rw [List.length_map, List.length_map]; omega) ?_
            refine w_chg fun H6 e6 f6 => ?_
            have sm6 : Same H H6 := But.new sm5 nF e6
            have nDF : D ≠ F := fun z => by
              have := hF
              rw [← z, hD] at this; cases this
            have hy6 := e6 _ _ nDF hy5
            have hc6 := sm6 _ _ hc
            repeat walk_at "w"
            refine w_ixL (n := ((i : Nat) : Int)) (v := .str (S (ws.getD i []))) (SqL.of hc6) (atI_of (by omega) (by rw [Int.toNat_natCast]; exact tv_at gw)) ?_
            repeat walk_at "w"
            refine w_lenC (by rw [hz]; omega) ?_
            repeat walk_at "w"
            refine w_slA (by rw [hz]; omega) (by omega) ?_
            repeat walk_at "w"
            refine ⟨l.length - (k + (ws.getD i []).length), by omega, k + (ws.getD i []).length, its ++ [i], some (.ref D), o5, o6, ?_, by omega, rfl, sm6, ?_, ?_, ?_⟩
            · rw [Int.toNat_natCast, List.drop_drop]; rfl
            · rw [f6]; unfold natsV; rw [List.map_append, List.map_append]; rfl
            · rw [List.length_append, List.length_singleton]; omega
            · rw [hrd]
              show ((decF ws l.length ((l.drop k).drop (ws.getD i []).length)).map (i :: ·)).map (its ++ ·) = _
              rw [List.drop_drop]
              have hdl : (l.drop (k + (ws.getD i []).length)).length < l.length := by rw [List.length_drop]; omega
              rw [dec_more hnm l.length (l.length + 1) _ hdl (by omega), Option.map_map]
              congr 1
              funext z
              simp
end

end J
namespace J
open PySem PySem.Spec PyProof.Rows L2

local macro_rules | `(tactic| walk_at "ty") => `(tactic| first
  | with_reducible exact ty_int
  | with_reducible exact ty_bl
  | with_reducible exact ty_str
  | with_reducible exact ty_non
  | ((with_reducible refine' ty_lst ?vv); (case vv => walk_at "tr"))
  | ((with_reducible refine' ty_sqT ?vv); (case vv => walk_at "tr"))
  | ((with_reducible refine' ty_dic ?vv); (case vv => walk_at "tr")))
local macro_rules | `(tactic| walk_at "ix") => `(tactic| first | exact at0 | exact at1 | exact at2 | assumption)
local macro_rules | `(tactic| walk_at "size") => `(tactic| first
  | assumption
  | (show _ < sizeLine; rw [sizeLine_eq]; (try simp only [List.length_cons, List.length_nil, List.length_append, List.length_map]); omega)
  | (show _ ≤ sizeLine; rw [sizeLine_eq]; (try simp only [List.length_cons, List.length_nil, List.length_append, List.length_map]); omega))
local macro_rules | `(tactic| walk_at "side") => `(tactic| first
  | assumption
  | ((with_reducible refine cdw ?_ ?_) <;> omega)
  | omega
  | (exact ⟨by omega, by omega⟩)
  | (exact Or.inl ⟨by omega, by omega⟩)
  | (exact Or.inr ⟨by omega, by omega⟩)
  | decide
  | (simp only [List.length_cons, List.length_nil, List.length_append, List.length_map]; omega)
  | (show _ ≤ _; decide))
local macro_rules | `(tactic| walk_at "as") => `(tactic| with_reducible assumption)
local macro_rules | `(tactic| walk_at "tr") => `(tactic| first
  | with_reducible assumption
  | with_reducible exact upd_same
  | ((with_reducible refine' SqL.of ?hh); (case hh => walk_at "as"))
  | ((with_reducible refine' SqT.of ?hh); (case hh => walk_at "as"))
  | ((with_reducible refine' Same.stm ?ee ?gg); (case ee => walk_at "as"); (case gg => walk_at "tr"))
  | ((with_reducible refine' Same.sqT ?ee ?gg); (case ee => walk_at "as"); (case gg => walk_at "tr"))
  | ((with_reducible refine' Same.sqL ?ee ?gg); (case ee => walk_at "as"); (case gg => walk_at "tr"))
  | ((with_reducible refine' Same.at ?ee ?gg); (case ee => walk_at "as"); (case gg => walk_at "tr"))
  | ((with_reducible refine' But.stm ?ee ?ff ?gg); (case ee => walk_at "as"); (case ff => walk_at "ne"); (case gg => walk_at "tr"))
  | ((with_reducible refine' But.tup ?ee ?ff ?gg); (case ee => walk_at "as"); (case ff => walk_at "tr1"); (case gg => walk_at "tr"))
  | ((with_reducible refine' But.sqT ?ee ?ff ?gg); (case ee => walk_at "as"); (case ff => walk_at "tr1"); (case gg => walk_at "tr"))
  | ((with_reducible refine' But.tupL ?ee ?ff ?gg); (case ee => walk_at "as"); (case ff => walk_at "tr1"); (case gg => walk_at "tr"))
  | ((with_reducible refine' But.sqTL ?ee ?ff ?gg); (case ee => walk_at "as"); (case ff => walk_at "tr1"); (case gg => walk_at "tr"))
  | ((with_reducible refine' But.sqL ?ee ?ff ?gg); (case ee => walk_at "as"); (case ff => walk_at "ne"); (case gg => walk_at "tr"))
  | ((with_reducible refine' But.at ?ee ?ff ?gg); (case ee => walk_at "as"); (case ff => walk_at "ne"); (case gg => walk_at "tr")))
local macro_rules | `(tactic| walk_at "ts") => `(tactic| first
  | with_reducible assumption
  | with_reducible exact TS.refl _
  | ((with_reducible refine' TS.trans ?gg (TS.of ?ee)); (case ee => walk_at "as"); (case gg => walk_at "ts"))
  | ((with_reducible refine' TS.trans ?gg (TS.butS ?ee ?ff)); (case ee => walk_at "as"); (case ff => walk_at "tr1"); (case gg => walk_at "ts"))
  | ((with_reducible refine' TS.trans ?gg (TS.butL ?ee ?ff)); (case ee => walk_at "as"); (case ff => walk_at "tr1"); (case gg => walk_at "ts"))
  | ((with_reducible refine' TS.trans ?gg (TS.butI ?ee ?ff)); (case ee => walk_at "as"); (case ff => walk_at "tr1"); (case gg => walk_at "ts")))
local macro_rules | `(tactic| walk_at "sm") => `(tactic| first
  | with_reducible assumption
  | with_reducible exact Same.refl _
  | ((with_reducible refine' Same.trans ?gg ?ee); (case ee => walk_at "as"); (case gg => walk_at "sm"))
  | ((with_reducible refine' But.new ?gg ?nn ?ee); (case ee => walk_at "as"); (case nn => walk_at "fr"); (case gg => walk_at "sm")))
local macro_rules | `(tactic| walk_at "fr") => `(tactic| first
  | with_reducible assumption
  | ((with_reducible refine' Same.back ?ee ?nn); (case nn => walk_at "as"); (case ee => walk_at "sm"))
  | ((with_reducible refine' But.back ?ee ?ff ?nn); (case nn => walk_at "as"); (case ff => walk_at "ne0"); (case ee => walk_at "bu")))
local macro_rules | `(tactic| walk_at "bu") => `(tactic| first
  | with_reducible assumption
  | with_reducible exact But.refl _ _
  | ((with_reducible refine' But.trans ?gg ?ee); (case ee => walk_at "as"); (case gg => walk_at "bu"))
  | ((with_reducible refine' But.trans ?gg (But.of ?ee)); (case ee => walk_at "as"); (case gg => walk_at "bu"))
  | ((with_reducible refine' But.new2 ?gg ?nn ?ee); (case ee => walk_at "as"); (case nn => walk_at "frB"); (case gg => walk_at "bu")))
local macro_rules | `(tactic| walk_at "frB") => `(tactic| first
  | with_reducible assumption
  | ((with_reducible refine' Same.back ?ee ?nn); (case nn => walk_at "as"); (case ee => walk_at "sm"))
  | ((with_reducible refine' But.back' ?ee ?ff ?nn); (case nn => walk_at "as"); (case ee => walk_at "bu"); (case ff => walk_at "tr1")))
local macro_rules | `(tactic| walk_at "tr1") => `(tactic| first
  | with_reducible assumption
  | ((with_reducible refine' Same.stm ?ee ?gg); (case ee => walk_at "as"); (case gg => walk_at "tr1"))
  | ((with_reducible refine' Same.at ?ee ?gg); (case ee => walk_at "as"); (case gg => walk_at "tr1"))
  | ((with_reducible refine' But.at ?ee ?ff ?gg); (case ee => walk_at "as"); (case ff => walk_at "ne0"); (case gg => walk_at "tr1"))
  | ((with_reducible refine' But.stm ?ee ?ff ?gg); (case ee => walk_at "as"); (case ff => walk_at "ne0"); (case gg => walk_at "tr1")))
local macro_rules | `(tactic| walk_at "ne0") => `(tactic| first
  | with_reducible assumption
  | (with_reducible apply Ne.symm; with_reducible assumption))
local macro_rules | `(tactic| walk_at "ne") => `(tactic| first
  | with_reducible assumption
  | (with_reducible apply Ne.symm; with_reducible assumption)
  | ((with_reducible refine' stm_ne ?hh ?nn); (case nn => walk_at "as"); (case hh => walk_at "tr1"))
  | ((with_reducible refine' ne_of_none ?hh ?nn); (case nn => walk_at "as"); (case hh => walk_at "tr1"))
  | ((with_reducible apply Ne.symm); (with_reducible refine' ne_of_none ?hh ?nn); (case nn => walk_at "as"); (case hh => walk_at "tr1")))
local macro_rules | `(tactic| walk_at "v") => `(tactic| first
  | with_reducible refine w_seq ?_
  | ((with_reducible refine' w_var ?vv ?_); (case vv => exact rfl))
  | with_reducible refine w_c ?_
  | with_reducible refine w_op ?_
  | with_reducible refine w_asg ?_
  | with_reducible refine w_gName ?_
  | with_reducible refine w_ret ?_
  | with_reducible refine w_ifS ?_
  | with_reducible refine w_drop ?_
  | with_reducible refine w_next ?_
  | with_reducible refine w_cons ?_
  | with_reducible refine w_nil ?_
  | with_reducible refine w_call ?_
  | with_reducible refine w_cb ?_
  | with_reducible refine w_rI0 ?_
  | with_reducible refine w_addI ?_
  | with_reducible refine w_eqI ?_
  | with_reducible refine w_neI ?_
  | with_reducible refine w_eqS ?_
  | with_reducible refine w_neS ?_
  | with_reducible refine w_eqB ?_
  | with_reducible refine w_neB ?_
  | with_reducible refine w_chain ?_
  | with_reducible refine w_test ?_
  | with_reducible refine w_tB ?_
  | with_reducible refine w_bl ?_
  | ((with_reducible refine' w_mulI ?vv ?_); (case vv => walk_at "side"))
  | ((with_reducible refine' w_rI ?vv ?_); (case vv => walk_at "side"))
  | with_reducible refine w_int1 ?_
  | with_reducible refine w_int1b ?_
  | with_reducible refine w_tup ?_
  | with_reducible refine w_lst ?_
  | with_reducible refine w_un ?_
  | with_reducible refine w_rU ?_
  | with_reducible refine w_not ?_
  | with_reducible refine w_notV ?_
  | with_reducible refine w_ifE ?_
  | with_reducible refine w_nT ?_
  | with_reducible refine w_nF ?_
  | with_reducible refine iteT ?_
  | with_reducible refine iteF ?_
  | ((with_reducible refine' w_ixT ?vv ?ww ?_); (case vv => walk_at "tr"); (case ww => walk_at "ix"))
  | ((with_reducible refine' w_ixL ?vv ?ww ?_); (case vv => walk_at "tr"); (case ww => walk_at "ix"))
  | with_reducible refine w_gSub ?_
  | ((with_reducible refine' w_setL ?vv ?ww ?_); (case vv => walk_at "tr"); (case ww => first | rfl | decide | assumption))
  | ((with_reducible refine' w_lenL ?vv ?_); (case vv => walk_at "tr"))
  | ((with_reducible refine' w_lenT ?vv ?_); (case vv => walk_at "tr"))
  | with_reducible refine w_max2 ?_
  | with_reducible refine w_max3 ?_
  | with_reducible refine w_din ?_
  | with_reducible refine w_dnotin ?_
  | with_reducible refine w_dput ?_
  | with_reducible refine w_min2 ?_
  | with_reducible refine w_bm ?_
  | with_reducible refine w_bm0 ?_
  | ((with_reducible refine' w_tyL ?vv ?_); (case vv => walk_at "tr"))
  | ((with_reducible refine' w_append ?vv ?ww ?_); (case vv => walk_at "tr"); (case ww => walk_at "size"))
  | ((with_reducible refine' w_size ?vv ?_); (case vv => walk_at "size"))
  | with_reducible refine w_forL ?_
  | with_reducible refine w_forT ?_
  | with_reducible refine w_forR1 ?_
  | with_reducible refine w_forR2 ?_
  | with_reducible refine w_lcL ?_
  | with_reducible refine w_lcT ?_
  | with_reducible refine w_lcR1 ?_
  | with_reducible refine w_yes ?_
  | with_reducible refine w_sl ?_
  | with_reducible refine w_noPart ?_
  | with_reducible refine w_part ?_
  | with_reducible refine w_int ?_
  | ((with_reducible refine' w_slL ?vv ?_); (case vv => walk_at "tr"))
  | ((with_reducible refine' w_seqL ?vv ?ww ?_); (case vv => walk_at "tr"); (case ww => rfl))
  | ((with_reducible refine' w_seqT ?vv ?ww ?_); (case vv => walk_at "tr"); (case ww => rfl))
  | with_reducible refine w_gNil ?_
  | with_reducible refine w_gCons ?_
  | with_reducible refine w_forZ ?_
  | with_reducible refine w_forM ?_
  | with_reducible refine w_forE ?_
  | with_reducible refine w_forV ?_
  | with_reducible refine w_lcZ ?_
  | with_reducible refine w_lcE ?_
  | ((with_reducible refine' w_isi (b := true) ?vv ?ww ?_); (case vv => walk_at "ty"); (case ww => decide +kernel))
  | ((with_reducible refine' w_isi (b := false) ?vv ?ww ?_); (case vv => walk_at "ty"); (case ww => decide +kernel))
  | with_reducible refine w_revL ?_
  | with_reducible refine w_pairN ?_
  | with_reducible refine w_pairC ?_
  | with_reducible refine w_dget ?_
  | with_reducible refine w_met ?_
  | ((with_reducible refine' w_metAt ?vv ?ww ?_); (case vv => walk_at "tr"); (case ww => rfl))
  | with_reducible refine w_mkI ?_
  | with_reducible refine w_fld ?_
  | ((with_reducible refine' w_fldAt ?vv ?cc ?nn ?ww ?_); (case vv => walk_at "tr"); (case cc => walk_at "cls"); (case nn => walk_at "na"); (case ww => rfl))
  | with_reducible refine w_sfld ?_
  | ((with_reducible refine' w_sfldAt ?vv ?cc ?nn ?ll ?ee ?_); (case vv => walk_at "tr"); (case cc => walk_at "cls"); (case nn => walk_at "na"); (case ll => simp); (case ee => rfl))
  | ((with_reducible refine' w_tupL ?vv ?_); (case vv => walk_at "tr"))
  | ((with_reducible refine' w_tupT ?vv ?_); (case vv => walk_at "tr"))
  | ((with_reducible refine' w_listL ?vv ?_); (case vv => walk_at "tr"))
  | ((with_reducible refine' w_listT ?vv ?_); (case vv => walk_at "tr"))
  | with_reducible refine w_tyS ?_
  | with_reducible refine w_lcZM ?_
  | with_reducible refine w_js ?_
  | with_reducible refine w_jsN ?_
  | ((with_reducible refine' w_jsP ?vv ?_); (case vv => walk_at "size"))
  | with_reducible refine w_fmt ?_
  | with_reducible refine w_forRR ?_
  | with_reducible refine w_retN ?_
  | with_reducible refine w_break ?_
  | with_reducible refine w_cont ?_)
local macro_rules | `(tactic| walk_at "w") => `(tactic| first
  | walk_at "v"
  | with_reducible refine w_or ?_
  | with_reducible refine w_and ?_
  | with_reducible refine w_andV ?_
  | with_reducible refine w_orV ?_)
local macro_rules | `(tactic| walk_at "wd") => `(tactic| first
  | walk_at "w"
  | ((with_reducible refine' w_decT ?vv ?_); (case vv => decide +kernel))
  | ((with_reducible refine' w_decF ?vv ?_); (case vv => decide +kernel)))
local macro_rules | `(tactic| walk_at "tz") => `(tactic| (intro S z; (repeat walk_at "w"); exact z))
local macro_rules | `(tactic| walk_at "wf") => `(tactic| first
  | walk_at "wd"
  | ((with_reducible refine' w_decF ?vv ?_); (case vv => with_reducible assumption)))
/-! ### codes: the law's right -/
open SX
def spRight (K : PySem.W.Frag) : Sp := fun vs H Q _ => ∃ (s c a : Addr) (ws : List (List Nat)) (its : List Nat), vs = [.ref s, .ref c, .ref a] ∧ Stm H s ∧ H c = some (.lst (TV ws)) ∧ GC 9 ws ∧ H a = some (.lst (natsV its)) ∧ (∀ i ∈ its, i < ws.length) ∧ its.length ≤ 60 ∧
  ∀ H', Stm H' s → But s H H' → Q (.bl true) H'
theorem len_law_right {K : PySem.W.Frag} {vs H Q E} (h : spRight K vs H Q E) : vs.length = 3 := by obtain ⟨_, _, _, _, _, rfl, _⟩ := h; rfl
theorem natsV_inj {a b : List Nat} (h : natsV a = natsV b) : a = b := by
  unfold natsV at h
  have h1 := (List.map_inj_right (f := V.int) fun x y e => by injection e).mp h
  exact (List.map_inj_right (f := fun i : Nat => (i : Int)) fun x y e => by exact Int.ofNat_inj.mp e).mp h1
theorem text_len {n : Nat} {ws : List (List Nat)} (gc : GC n ws) : ∀ its : List Nat, (textOf ws its).length ≤ its.length * n
  | [] => by simp [textOf]
  | i :: its => by
    have ih := text_len gc its
    have e : textOf ws (i :: its) = ws.getD i [] ++ textOf ws its := rfl
    have hw : (ws.getD i []).length ≤ n := by
      rw [List.getD_eq_getElem?_getD]
      cases h : ws[i]? with
      | none => simp
      | some w => exact (gc.bits w (List.mem_of_getElem? h)).2
    rw [e, List.length_append, List.length_cons, Nat.add_mul]
    omega
theorem text_bits {n : Nat} {ws : List (List Nat)} (gc : GC n ws) : ∀ its : List Nat, bitsL (textOf ws its) = true
  | [] => rfl
  | i :: its => by
    have e : textOf ws (i :: its) = ws.getD i [] ++ textOf ws its := rfl
    have ih := text_bits gc its
    have hw : bitsL (ws.getD i []) = true := by
      rw [List.getD_eq_getElem?_getD]
      cases h : ws[i]? with
      | none => rfl
      | some w => exact (gc.bits w (List.mem_of_getElem? h)).1
    unfold bitsL at *
    rw [e, List.all_append, hw, ih]; rfl
theorem read_text {n : Nat} {ws : List (List Nat)} (gc : GC n ws) {its : List Nat} (hin : ∀ i ∈ its, i < ws.length) : readO ws (textOf ws its) = some (if ws = [[]] then [] else its) := by
  unfold readO
  by_cases c : ws = [[]]
  · have e : textOf ws its = [] := by
      subst c
      unfold textOf
      induction its with
      | nil => rfl
      | cons i r ih =>
        have := hin i List.mem_cons_self
        rw [List.length_singleton] at this
        obtain rfl : i = 0 := by omega
        rw [List.map_cons, List.flatten_cons, ih fun k hk => hin k (List.mem_cons_of_mem _ hk)]
        rfl
    rw [if_pos c, if_pos c, if_pos e]
  · rw [if_neg c, if_neg c]
    exact dec_text gc (fun z => c (gc_empty gc z)) its _ hin (Nat.lt_succ_self _)
theorem code_L {K : PySem.W.Frag} {H : Hp} {c : Addr} {ws : List (List Nat)} (h : H c = some (.lst (TV ws))) (gc : GC 9 ws) : CodeAt K H (.ref c) (some (ws.map some)) :=
  .lst (by rw [← TV_it]; exact h) (by rw [List.length_map]; have := gc.len; omega) fun w hw => by
    obtain ⟨u, hu, e⟩ := List.mem_map.mp hw
    have := (gc.bits u hu).2
    rw [← Option.some.inj e]
    omega
theorem code_T {K : PySem.W.Frag} {H : Hp} {c : Addr} {ws : List (List Nat)} (h : SqT K H c (TV ws)) (gc : GC 9 ws) : CodeAt K H (.ref c) (some (ws.map some)) :=
  .tup (by rw [← TV_it]; exact h) (by rw [List.length_map]; have := gc.len; omega) fun w hw => by
    obtain ⟨u, hu, e⟩ := List.mem_map.mp hw
    have := (gc.bits u hu).2
    rw [← Option.some.inj e]
    omega
theorem items_Q {K : PySem.W.Frag} {H : Hp} {a : Addr} {its : List Nat} (h : Sq K H a (natsV its)) (hl : its.length ≤ 60) : ItemsAt K H (.ref a) (some (natsV its)) :=
  .sq h (by unfold natsV; rw [List.length_map, List.length_map]; omega) fun x hx => by
    unfold natsV at hx
    obtain ⟨y, _, rfl⟩ := List.mem_map.mp hx
    exact .int y
theorem sp_bits {K : PySem.W.Frag} {H : Hp} {Q : VK} {E : XK} {c t : V} {ws : List (List Nat)} {its : List Nat} (hc : CodeAt K H c (some (ws.map some))) (gc : GC 9 ws) (ht : ItemsAt K H t (some (natsV its))) (hin : ∀ i ∈ its, i < ws.length) (hl : its.length ≤ 60)
    (k : ∀ H', Same H H' → Q (.str (S (textOf ws its))) H') : spBitsOf K [c, t] H Q E :=
  have hok := gc_code (by decide) gc
  ⟨c, t, _, _, rfl, hc, (fun z => by rw [hok] at z; cases z), fun _ => ⟨ht, ws, rfl, fun hb => by
    exfalso
    rcases hb with h | ⟨xs, h, hx⟩
    · cases h
    · cases Option.some.inj h
      rw [List.all_eq_false] at hx
      obtain ⟨x, hm, hx⟩ := hx
      unfold natsV at hm
      obtain ⟨y, hy, rfl⟩ := List.mem_map.mp hm
      obtain ⟨i, hi', rfl⟩ := List.mem_map.mp hy
      refine hx (decide_eq_true ⟨by omega, ?_⟩)
      have := hin i hi'
      omega, fun its' e _ => by
    cases natsV_inj (Option.some.inj e)
    exact ⟨by have := text_len gc its; omega, k⟩⟩⟩
theorem sp_read {K : PySem.W.Frag} {H : Hp} {Q : VK} {E : XK} {a : Addr} {ws : List (List Nat)} {l due : List Nat} (hc : H a = some (.lst (TV ws))) (gc : GC 9 ws) (hl : l.length ≤ 1000) (hb : bitsL l = true) (hr : readO ws l = some due)
    (k : ∀ R H', H' R = some (.lst (natsV due)) → Same H H' → H R = none → Q (.ref R) H') : spRead K [.ref a, .str (S l)] H Q E :=
  have hok := gc_code (by decide) gc
  ⟨_, _, _, rfl, code_L hc gc, (fun z => by rw [hok] at z; cases z), fun _ => ⟨.str l hl, a, ws, 9, rfl, hc, gc, by decide, (fun h => by
    exfalso
    rcases h l rfl with z | z
    · rw [hb] at z; cases z
    · rw [hr] at z; cases z), fun l' its e _ hr' R H' hR s nR => by
    cases S_inj (by injection e : S l = S l')
    rw [hr] at hr'
    cases Option.some.inj hr'
    exact k R H' hR s nR⟩⟩
theorem dec_len {ws : List (List Nat)} (hne : [] ∉ ws) : ∀ (m : Nat) (l its : List Nat), decF ws m l = some its → its.length ≤ l.length
  | 0, _, _, h => by cases h
  | m + 1, [], its, h => by cases h; simp
  | m + 1, c :: r, its, h => by
    rw [dec_cons m (by simp)] at h
    cases h1 : firstW ws (c :: r) with
    | none => rw [h1] at h; cases h
    | some i =>
      rw [h1] at h
      obtain ⟨js, hj, rfl⟩ := Option.map_eq_some_iff.mp h
      obtain ⟨hi, hp⟩ := firstW_some h1
      have hw : ws.getD i [] ∈ ws := by
        rw [List.getD_eq_getElem?_getD, List.getElem?_eq_getElem hi]
        exact List.getElem_mem hi
      have hl : 0 < (ws.getD i []).length := List.length_pos_iff.mpr fun z => hne (z ▸ hw)
      have h3 := dec_len hne m _ js hj
      rw [List.length_drop] at h3
      have h4 := hp.length_le
      show js.length + 1 ≤ _
      omega
theorem read_len {n : Nat} {ws : List (List Nat)} (gc : GC n ws) {l its : List Nat} (h : readO ws l = some its) : its.length ≤ l.length := by
  unfold readO at h
  split at h
  · split at h
    · cases h; simp
    · cases h
  · rename_i c
    exact dec_len (fun z => c (gc_empty gc z)) _ _ _ h
theorem sp_asked {K : PySem.W.Frag} {H : Hp} {Q : VK} {E : XK} {c : Addr} {ws : List (List Nat)} {l : List Nat} (hc : H c = some (.lst (TV ws))) (gc : GC 9 ws) (hl : l.length ≤ 1000)
    (k : ∀ P H', Same H H' → H P = none → (((bitsL l = false ∨ readO ws l = none) ∧ H' P = some (.lst [.str "bits", .str (S l)])) ∨ ∃ R due, bitsL l = true ∧ readO ws l = some due ∧ H' P = some (.lst [.str "told", .ref R]) ∧ H' R = some (.lst (natsV due))) → Q (.ref P) H') : spAsked K [.int 1, .ref c, .str (S l)] H Q E :=
  have hok := gc_code (by decide) gc
  ⟨1, _, _, _, rfl, code_L hc gc, (fun z => by rw [hok] at z; cases z), fun _ => ⟨(fun z => by cases z), fun _ => ⟨.str l hl, c, ws, 9, rfl, hc, gc, by decide, (fun h P H' f s n => k P H' s n (.inl ⟨h l rfl, f⟩)),
    fun l' its e hb hr P R H' hP hR s nP nR => by
      cases S_inj (by injection e : S l = S l')
      exact k P H' s nP (.inr ⟨R, its, hb, hr, hP, hR⟩)⟩⟩⟩
theorem cut_last (l : List Nat) : cutS (S l) none (some (-1)) = S (l.take (l.length - 1)) := by
  unfold cutS
  have e : HT.sIx (S l).length (S l).length (some (-1)) = l.length - 1 := by
    show (if (-1 : Int) < 0 then ((-1 : Int) + ((S l).length : Int)).toNat else min (-1 : Int).toNat (S l).length) = _
    rw [if_pos (by decide), S_len]; omega
  rw [e, HT.sIx_none]
  congr 1
theorem w_slLast {K : PySem.W.Frag} {H : Hp} {Q : VK} {l : List Nat} (h : l.length ≤ sizeLine) (k : Q (.str (S (l.take (l.length - 1)))) H) : rSlAny K (.str (S l)) none (some (-1)) H Q :=
  w_slS (by rw [S_len]; exact h) (by rw [cut_last]; exact k)
theorem w_ixTV {K : PySem.W.Frag} {H : Hp} {Q : VK} {p : Addr} {us : List (List Nat)} {i : Int} (h : SqL K H p (TV us)) (h0 : 0 ≤ i) (h1 : i < us.length) (k : ∀ u ∈ us, Q (.str (S u)) H) : rIx K (.ref p) (.int i) H Q := by
  have hi : i.toNat < us.length := by omega
  exact w_ixL h (atI_of h0 (tv_at (List.getElem?_eq_getElem hi))) (k _ (List.getElem_mem hi))
/-- short, of small signs -/
def Sm (n : Nat) (l : List Nat) : Prop := l.length ≤ n ∧ ∀ c ∈ l, c < 256
theorem Sm.app {n m : Nat} {a b : List Nat} (ha : Sm n a) (hb : Sm m b) : Sm (n + m) (a ++ b) := ⟨by rw [List.length_append]; have := ha.1; have := hb.1; omega, fun c hc => (List.mem_append.mp hc).elim (ha.2 c) (hb.2 c)⟩
theorem Sm.take {n : Nat} {a : List Nat} (ha : Sm n a) (k : Nat) : Sm n (a.take k) := ⟨by rw [List.length_take]; have := ha.1; omega, fun c hc => ha.2 c (List.mem_of_mem_take hc)⟩
theorem Sm.drop {n : Nat} {a : List Nat} (ha : Sm n a) (k : Nat) : Sm n (a.drop k) := ⟨by rw [List.length_drop]; have := ha.1; omega, fun c hc => ha.2 c (List.mem_of_mem_drop hc)⟩
theorem Sm.mono {n m : Nat} {a : List Nat} (ha : Sm n a) (h : n ≤ m) : Sm m a := ⟨Nat.le_trans ha.1 h, ha.2⟩
theorem Sm.mono' {n m : Nat} {a : List Nat} (ha : Sm n a) (h : a.length ≤ m) : Sm m a := ⟨h, ha.2⟩
theorem sm_bits {n : Nat} {l : List Nat} (h : bitsL l = true) (hl : l.length ≤ n) : Sm n l := ⟨hl, fun c hc => by
  have := List.all_eq_true.mp h c hc
  unfold bitC at this
  rw [decide_eq_true_eq] at this
  omega⟩
section
variable {P : Program} {w : World} {K : PySem.W.Frag} {mg : Str → Option Value}
theorem ok_law_right [c : Facts K mg] (G__law_asked : XL.Fn P w K mg "_law_asked" 6 ["way", "code", "thing"] ((spAsked K))) (G__law_is : XL.Fn P w K mg "_law_is" 4 ["told", "due"] ((spIs 3))) (G__law_read : XL.Fn P w K mg "_law_read" 1 ["code", "text"] (spLRead)) (G__law_take : XL.Fn P w K mg "_law_take" 1 ["stream", "many"] (spTake)) (G_bits_of : XL.Fn P w K mg "bits_of" 4 ["code", "items"] ((spBitsOf K))) (G_read_items : XL.Fn P w K mg "read_items" 4 ["code", "text"] ((spRead K))) : XL.Fn P w K mg "_law_right" 8 ["stream", "code", "items"] ((spRight K)) := by
  obtain ⟨fd, F⟩ := c.d_law_right
  refine XL.Fn.mk' F c.g_law_right sc_law_right (k := 7) (fun vs H Q E h => ?_) (fun _ _ _ _ _ _ us hl => match us, hl with | [_, _, _], _ => rfl) (fun base cdv A outer s H vs Q E hr h => ?_)
  · exact len_law_right h
  · have nd := sc_law_right.nd
    have hu := hu_of hr.r
    have hr__law_asked : XL.Rm 6 _ := hr.mono (by omega)
    have hr__law_is : XL.Rm 4 _ := hr.mono (by omega)
    have hr__law_read : XL.Rm 1 _ := hr.mono (by omega)
    have hr__law_take : XL.Rm 1 _ := hr.mono (by omega)
    have hr_bits_of : XL.Rm 4 _ := hr.mono (by omega)
    have hr_read_items : XL.Rm 4 _ := hr.mono (by omega)
    refine ⟨_, (PSs.nox (pss_cons (ps_set (i := 3) nd rfl (Or.inl rfl) (pe_bm PySem.F.plainAttrs_str PySem.F.slot_str_join PySem.F.type_str_join (mt_joinA (K := K) rfl) pe_str (pa_cons (pe_lc (own := [("item", 15)]) rfl nd (pi_list (pv 2)) (blkOk_by (N := N_law_right) (sc := defScope s_law_right) (by decide +kernel)) (fun _ _ _ _ _ => (pg_name (i := 15) nd rfl (Or.inl rfl))) (fun _ _ _ _ _ => pts_nil) (fun _ _ _ _ _ => (pe_ix (ix_any (K := K) rfl) (pv 1) (pv 15) (fun _ _ => rfl)))) pa_nil)))
      (pss_cons (ps_for PassesOwn.never rfl (pi_list (pe_lst (pa_cons (pv 2) (pa_cons (pe_callTy (call_tupA (K := K) rfl) (by rfl) c.f_tuple boot_tuple (pa_cons (pv 2) pa_nil)) pa_nil)))) (pg_name (i := 4) nd rfl (Or.inl rfl)) (pss_one (ps_if (PW.pt (pw_or (pt_not (pt_val (XL.pe_fn G__law_is hr__law_is (by rfl) (pa_cons (XL.pe_fn G_bits_of hr_bits_of (by rfl) (pa_cons (pv 1) (pa_cons (pv 4) pa_nil))) (pa_cons (pv 3) pa_nil))))) (pw_or1 (pt_not (pt_val (XL.pe_fn G__law_is hr__law_is (by rfl) (pa_cons (XL.pe_fnKX0 (ks := ["items", "code"]) XL.passE0 G_bits_of c.d_bits_of 2 [1, 0] (fun _ _ _ _ _ _ us ws h1 h2 => match us, h1, ws, h2 with | [], _, [_, _], _ => rfl) hr_bits_of (by rfl) (pk_cons (pv 4) (pk_cons (pe_callTy (call_tupA (K := K) rfl) (by rfl) c.f_tuple boot_tuple (pa_cons (pv 1) pa_nil)) pk_nil))) (pa_cons (pv 3) pa_nil)))))))) (pss_one (ps_ret pe_bl)) pss_nil)))
      (pss_cons (ps_set (i := 5) nd rfl (Or.inl rfl) (pe_ifExp (pt_cmpR (op_neA (K := K) rfl hr.units) (pv 1) (pe_lst (pa_cons pe_str pa_nil)) (nomark _)) (pv 2) (pe_lst pa_nil)))
      (pss_cons (ps_for PassesOwn.never rfl (pi_range1 (by rfl) c.f_range (pa_cons pe_int pa_nil)) (pg_name (i := 6) nd rfl (Or.inl rfl)) (pss_cons (ps_set (i := 7) nd rfl (Or.inl rfl) (pe_ifExp (pt_cmpR (op_eqA (K := K) rfl hr.units) (pv 6) pe_int (nomark _)) (XL.pe_fn G_read_items hr_read_items (by rfl) (pa_cons (pv 1) (pa_cons (pv 3) pa_nil))) (XL.pe_fnKX0 (ks := ["text", "code"]) XL.passE0 G_read_items c.d_read_items 2 [1, 0] (fun _ _ _ _ _ _ us ws h1 h2 => match us, h1, ws, h2 with | [], _, [_, _], _ => rfl) hr_read_items (by rfl) (pk_cons (pv 3) (pk_cons (pv 1) pk_nil)))))
      (pss_cons (ps_if (pt_not (pt_val (XL.pe_fn G__law_is hr__law_is (by rfl) (pa_cons (pv 7) (pa_cons (pv 5) pa_nil))))) (pss_one (ps_ret pe_bl)) pss_nil)
      (pss_one (ps_expr (pe_bm PySem.F.plainAttrs_list PySem.F.slot_list_append PySem.F.type_list_append mt_append (pv 7) (pa_cons pe_non pa_nil)))))))
      (pss_cons (ps_for PassesOwn.never rfl (pi_range1 (by rfl) c.f_range (pa_cons pe_int pa_nil)) (pg_name (i := 6) nd rfl (Or.inl rfl)) (pss_cons (ps_par (i := 8) (j := 9) (by rfl) nd rfl rfl (by decide) rfl rfl (pa_cons (XL.pe_fn G__law_take hr__law_take (by rfl) (pa_cons (pv 0) (pa_cons (pe_op (op_addA (K := K) rfl) (pe_callB (call_lenA (K := K) rfl) (by rfl) c.f_len boot_len (pa_cons (pv 3) pa_nil)) pe_int) pa_nil))) (pa_cons (pe_ix (ix_any (K := K) rfl) (pv 1) (XL.pe_fn G__law_take hr__law_take (by rfl) (pa_cons (pv 0) (pa_cons (pe_callB (call_lenA (K := K) rfl) (by rfl) c.f_len boot_len (pa_cons (pv 1) pa_nil)) pa_nil))) (fun _ _ => rfl)) pa_nil)) (by rfl))
      (pss_cons (ps_set (i := 10) nd rfl (Or.inl rfl) (pe_ix (ix_any (K := K) rfl) (pe_lst (pa_cons pe_str (pa_cons pe_str (pa_cons pe_str (pa_cons pe_str (pa_cons (pe_slice (sl_any (K := K) rfl) (pv 9) po_none (po_some (pe_un un_neg pe_int))) (pa_cons (pv 9) pa_nil))))))) (XL.pe_fn G__law_take hr__law_take (by rfl) (pa_cons (pv 0) (pa_cons pe_int pa_nil))) (fun _ _ => rfl)))
      (pss_cons (ps_set (i := 11) nd rfl (Or.inl rfl) (pe_ix (ix_any (K := K) rfl) (pe_lst (pa_cons (pe_op (op_addA (K := K) rfl) (pe_op (op_addA (K := K) rfl) (pe_slice (sl_any (K := K) rfl) (pv 3) po_none (po_some (pv 8))) (pv 10)) (pe_slice (sl_any (K := K) rfl) (pv 3) (po_some (pv 8)) po_none)) (pa_cons (pe_op (op_addA (K := K) rfl) (pe_slice (sl_any (K := K) rfl) (pv 3) po_none (po_some (pv 8))) (pe_slice (sl_any (K := K) rfl) (pv 3) (po_some (pe_op (op_addA (K := K) rfl) (pv 8) pe_int)) po_none)) (pa_cons (pe_op (op_addA (K := K) rfl) (pe_op (op_addA (K := K) rfl) (pe_slice (sl_any (K := K) rfl) (pv 3) po_none (po_some (pv 8))) (pv 10)) (pe_slice (sl_any (K := K) rfl) (pv 3) (po_some (pe_op (op_addA (K := K) rfl) (pv 8) pe_int)) po_none)) (pa_cons (pe_op (op_addA (K := K) rfl) (pv 3) (pv 10)) pa_nil))))) (XL.pe_fn G__law_take hr__law_take (by rfl) (pa_cons (pv 0) (pa_cons pe_int pa_nil))) (fun _ _ => rfl)))
      (pss_cons (ps_set (i := 12) nd rfl (Or.inl rfl) (XL.pe_fn G__law_asked hr__law_asked (by rfl) (pa_cons pe_int (pa_cons (pv 1) (pa_cons (pv 11) pa_nil)))))
      (pss_cons (ps_set (i := 13) nd rfl (Or.inl rfl) (pe_cmpR (op_eqA (K := K) rfl hr.units) (pe_lc (own := [("one", 16)]) rfl nd (pi_str (pv 11)) (blkOk_by (N := N_law_right) (sc := defScope s_law_right) (by decide +kernel)) (fun _ _ _ _ _ => (pg_name (i := 16) nd rfl (Or.inl rfl))) (fun _ _ _ _ _ => pts_one (pt_cmpR (op_notInA (K := K) rfl) (pv 16) pe_str (by rfl))) (fun _ _ _ _ _ => (pv 16))) (pe_lst pa_nil) (nomark _)))
      (pss_cons (ps_set (i := 14) nd rfl (Or.inl rfl) (pe_ifExp (pt_val (pv 13)) (XL.pe_fn G__law_read hr__law_read (by rfl) (pa_cons (pv 1) (pa_cons (pv 11) pa_nil))) pe_non))
      (pss_one (ps_if (PW.pt (pw_or (PW.pt (pw_and (pt_cmpR op_isN (pv 14) pe_non (nomark _)) (pw_and1 (pt_cmpR (op_neA (K := K) rfl hr.units) (pv 12) (pe_lst (pa_cons pe_str (pa_cons (pv 11) pa_nil))) (nomark _))))) (pw_or1 (PW.pt (pw_and (pt_cmpR op_notN (pv 14) pe_non (nomark _)) (pw_and1 (pt_not (pt_val (XL.pe_fn G__law_is hr__law_is (by rfl) (pa_cons (pv 12) (pa_cons (pe_lst (pa_cons pe_str (pa_cons (pv 14) pa_nil))) pa_nil))))))))))) (pss_one (ps_ret pe_bl)) pss_nil)))))))))
      (pss_one (ps_ret pe_bl)))))))), ?_⟩
    try dsimp only [cxOf, Cx.nox, Cx.wish]
    obtain ⟨s, cc, a, ws, its, rfl, hs, hc, gc, ha, hin, hil, q⟩ := h
    have hz : sizeLine = 16777216 := sizeLine_eq
    have gl := gc.len
    have tl := text_len gc its
    have tb := text_bits gc its
    have nil : (natsV its).length = its.length := by unfold natsV; rw [List.length_map, List.length_map]
    have at_ : ∀ i : Nat, i < ws.length → (TV ws)[i]? = some (.str (S (ws.getD i []))) := fun i hi => tv_at (by rw [List.getD_eq_getElem?_getD, List.getElem?_eq_getElem hi]; rfl)
    repeat walk_at "w"
    refine lc_L (natsV its) (fun D j ys H' => Same H H' ∧ ys = TV ((its.take j).map fun i => ws.getD i [])) (SqL.of ha) (fun D H' hD e f => ⟨e, rfl⟩) (fun D hD j ys H' hy hll hp => SqL.of (hp.1 _ _ ha)) (fun D hD j x ys H' hxj hll hy hp => ?_) (fun D hD ys H1 hll hy hp => ?_)
    · obtain ⟨e, rfl⟩ := hp
      unfold natsV at hxj
      rw [List.getElem?_map] at hxj
      obtain ⟨n, hx', rfl⟩ := Option.map_eq_some_iff.mp hxj
      rw [List.getElem?_map] at hx'
      obtain ⟨i, hi, rfl⟩ := Option.map_eq_some_iff.mp hx'
      have hi' := hin i (List.mem_of_getElem? hi)
      have hjl := (List.getElem?_eq_some_iff.mp hi).1
      have hc' := e _ _ hc
      repeat walk_at "w"
      refine w_ixL (n := ((i : Nat) : Int)) (v := .str (S (ws.getD i []))) (SqL.of hc') (atI_of (by omega) (by rw [Int.toNat_natCast]; exact at_ i hi')) ?_
      refine lc_end hy hll (by rw [hz, TV_len, List.length_map, List.length_take]; omega) fun H5 e5 f5 => ⟨But.new e hD e5, ?_⟩
      rw [tk_sn hi, List.map_append, TV_app]; rfl
    · obtain ⟨e1, rfl⟩ := hp
      rw [nil, List.take_length] at hy
      repeat walk_at "w"
      refine w_joinL (a := []) (SqL.of hy) (by show (textOf ws its).length + _ * 0 ≤ sizeLine; rw [hz]; omega) ?_
      rw [joinL_nil, show (its.map fun i => ws.getD i []).flatten = textOf ws its from rfl]
      have ha1 := e1 _ _ ha
      have hc1 := e1 _ _ hc
      have hs1 : Stm H1 s := e1.stm hs
      repeat walk_at "w"
      refine w_new fun T H2 n2 s2 f2 => ?_
      repeat walk_at "w"
      refine w_new fun L H3 n3 s3 f3 => ?_
      have s03 := (e1.trans s2).trans s3
      have ha3 := s03 _ _ ha
      have hT3 := s3 _ _ f2
      repeat walk_at "w"
      refine fl_list [.ref a, .ref T] (fun i σ H' => ∃ o4, σ = [some (.ref s), some (.ref cc), some (.ref a), some (.str (S (textOf ws its))), o4, none, none, none, none, none, none, none, none, none, none, none, none] ∧ Same H3 H') (SqL.of f3) ⟨_, rfl, Same.refl _⟩ (fun i σ H' hi hp => ?_) (fun i x σ H4 hi hp => ?_) (fun σ H4 hp => ?_)
      · obtain ⟨o4, rfl, e⟩ := hp
        exact SqL.of (e _ _ f3)
      · obtain ⟨o4, rfl, e4⟩ := hp
        obtain ⟨h, rfl, hh⟩ : ∃ h, x = .ref h ∧ Sq K H4 h (natsV its) := by
          have hm := List.mem_of_getElem? hi
          simp only [List.mem_cons, List.mem_nil_iff, or_false] at hm
          rcases hm with rfl | rfl
          · exact ⟨a, rfl, .inl (e4 _ _ ha3)⟩
          · exact ⟨T, rfl, .inr (SqT.of (e4 _ _ hT3))⟩
        have hc4 := (s03.trans e4) _ _ hc
        repeat walk_at "w"
        refine sp_bits (code_L hc4 gc) gc (items_Q hh hil) hin hil fun H5 s5 => ?_
        repeat walk_at "w"
        refine ⟨_, _, rfl, by decide, .str _, fun H6 s6 => ?_⟩
        have hc6 := (s5.trans s6) _ _ hc4
        have hh6 := hh.sm (s5.trans s6)
        repeat walk_at "w"
        refine XL.w_callK ?_
        repeat walk_at "w"
        refine w_new fun U H7 n7 s7 f7 => ?_
        repeat walk_at "w"
        refine sp_bits (code_T (SqT.of f7) gc) gc (items_Q (hh6.sm s7) hil) hin hil fun H8 s8 => ?_
        repeat walk_at "w"
        refine ⟨_, _, rfl, by decide, .str _, fun H9 s9 => ?_⟩
        repeat walk_at "w"
        exact ⟨_, rfl, (((e4.trans s5).trans s6).trans s7).trans (s8.trans s9)⟩
      · obtain ⟨o4, rfl, e4⟩ := hp
        have s04 := s03.trans e4
        have hc4 := s04 _ _ hc
        have ha4 := s04 _ _ ha
        have oks : (ws.map S).all PyData.strOk = true := by
          rw [List.all_map, List.all_eq_true]
          intro u hu
          exact strOk_bits (gc.bits u hu).1
        have hread := read_text gc hin
        generalize hdue : (if ws = [[]] then [] else its) = due at hread
        have hdl : due.length ≤ 60 := by rw [← hdue]; split <;> first | exact Nat.zero_le _ | exact hil
        refine w_seqN (fun σ H' => ∃ D, σ = [some (.ref s), some (.ref cc), some (.ref a), some (.str (S (textOf ws its))), o4, some (.ref D), none, none, none, none, none, none, none, none, none, none, none] ∧ Same H H' ∧ H' D = some (.lst (natsV due))) (fun KK hK => ?_) (fun σ H5 hp => ?_)
        · repeat walk_at "w"
          refine w_new fun Z H5 n5 s5 f5 => ?_
          have eb : decide (ws.map S = [S []]) = decide (ws = [[]]) := decide_eq_decide.mpr ⟨fun h => by
            cases ws with
            | nil => cases h
            | cons a r =>
              rw [List.map_cons] at h
              injection h with h1 h2
              rw [S_inj h1, List.map_eq_nil_iff.mp h2], fun h => by rw [h]; rfl⟩
          refine w_neSL (ns := ws.map S) (ms := [S []]) (SqL.of (s5 _ _ hc4)) (SqL.of f5) oks (by rw [List.all_cons, List.all_nil, Bool.and_true]; exact strOk_bits rfl) ?_
          rw [eb]
          by_cases cw : ws = [[]]
          · rw [decide_eq_true cw]
            repeat walk_at "w"
            refine w_new fun D H6 n6 s6 f6 => ?_
            repeat walk_at "w"
            refine hK _ _ ⟨D, rfl, (s04.trans s5).trans s6, ?_⟩
            rw [f6, ← hdue, if_pos cw]; rfl
          · rw [decide_eq_false cw]
            repeat walk_at "w"
            refine hK _ _ ⟨a, rfl, s04.trans s5, ?_⟩
            rw [← hdue, if_neg cw]
            exact s5 _ _ ha4
        · obtain ⟨D, rfl, s05, hD5⟩ := hp
          repeat walk_at "w"
          refine fl_rng1 (fun i σ H' => ∃ o6 o7, σ = [some (.ref s), some (.ref cc), some (.ref a), some (.str (S (textOf ws its))), o4, some (.ref D), o6, o7, none, none, none, none, none, none, none, none, none] ∧ Same H5 H') (by decide) (by decide) ⟨_, _, rfl, Same.refl _⟩ (fun i σ H6 hi hp => ?_) (fun σ H6 hp => ?_)
          · obtain ⟨o6, o7, rfl, e6⟩ := hp
            have hc6 := (s05.trans e6) _ _ hc
            have hD6 := e6 _ _ hD5
            repeat walk_at "w"
            refine ite2 (fun hk => ?_) (fun hk => ?_)
            · repeat walk_at "w"
              refine sp_read hc6 gc (by omega) tb hread fun R H7 hR s7 nR => ?_
              repeat walk_at "w"
              refine ⟨_, _, rfl, by decide, Tw.ints hR (s7 _ _ hD6) (by rw [List.length_map]; omega) 1, fun H8 s8 => ?_⟩
              repeat walk_at "w"
              refine w_append (s8 _ _ hR) (by rw [hz]; unfold natsV; rw [List.length_map, List.length_map]; omega) ?_
              refine w_chg fun H9 e9 f9 => ?_
              repeat walk_at "w"
              exact ⟨_, _, rfl, But.new (e6.trans (s7.trans s8)) (e6.free nR) e9⟩
            · repeat walk_at "w"
              refine XL.w_callK ?_
              repeat walk_at "w"
              refine sp_read hc6 gc (by omega) tb hread fun R H7 hR s7 nR => ?_
              repeat walk_at "w"
              refine ⟨_, _, rfl, by decide, Tw.ints hR (s7 _ _ hD6) (by rw [List.length_map]; omega) 1, fun H8 s8 => ?_⟩
              repeat walk_at "w"
              refine w_append (s8 _ _ hR) (by rw [hz]; unfold natsV; rw [List.length_map, List.length_map]; omega) ?_
              refine w_chg fun H9 e9 f9 => ?_
              repeat walk_at "w"
              exact ⟨_, _, rfl, But.new (e6.trans (s7.trans s8)) (e6.free nR) e9⟩
          · obtain ⟨o6, o7, rfl, e6⟩ := hp
            have hc6 := (s05.trans e6) _ _ hc
            have hs6 : Stm H6 s := (s05.trans e6).stm hs
            have ncs : cc ≠ s := fun z => by
              obtain ⟨_, _, _, g⟩ := hs
              rw [← z, hc] at g
              cases hw : ws with
              | nil => exact gc.ne hw
              | cons x r => rw [hw] at g; injection g with g; injection g with g; injection g with g; cases g
            repeat walk_at "w"
            refine fl_rng1 (fun i σ H' => ∃ o6 o7 o8 o9 o10 o11 o12 o13 o14 o15 o16, σ = [some (.ref s), some (.ref cc), some (.ref a), some (.str (S (textOf ws its))), o4, some (.ref D), o6, o7, o8, o9, o10, o11, o12, o13, o14, o15, o16] ∧ Stm H' s ∧ But s H H' ∧ H' cc = some (.lst (TV ws))) (by decide) (by decide) ⟨_, _, _, _, _, _, _, _, _, _, _, rfl, hs6, But.of (s05.trans e6), hc6⟩ (fun i σ H7 hi hp => ?_) (fun σ H7 hp => ?_)
            · obtain ⟨o6, o7, o8, o9, o10, o11, o12, o13, o14, o15, o16, rfl, hs7, b7, hc7⟩ := hp
              repeat walk_at "w"
              refine w_par ?_
              repeat walk_at "w"
              refine w_lenC (by rw [hz]; omega) ?_
              repeat walk_at "w"
              refine ⟨s, ((textOf ws its).length : Nat) + 1, rfl, hs7, by omega, by omega, fun at8 H8 a0 a1 hs8 e8 => ?_⟩
              have hc8 := e8 _ _ ncs hc7
              have gp : 0 < ws.length := List.length_pos_iff.mpr gc.ne
              repeat walk_at "w"
              rw [TV_len]
              refine ⟨s, (ws.length : Nat), rfl, hs8, by omega, by omega, fun wi H9 w0 w1 hs9 e9 => ?_⟩
              have hc9 := e9 _ _ ncs hc8
              repeat walk_at "w"
              refine w_ixTV (SqL.of hc9) w0 w1 fun word hword => ?_
              have hw9 := gc.bits word hword
              have smw : Sm 9 word := sm_bits hw9.1 hw9.2
              repeat walk_at "w"
              refine ⟨_, _, rfl, ?_⟩
              repeat walk_at "w"
              refine w_slLast (by rw [hz]; omega) ?_
              repeat walk_at "w"
              refine w_new fun LS H10 n10 s10 f10 => ?_
              have hs10 : Stm H10 s := s10.stm hs9
              have hc10 := s10 _ _ hc9
              repeat walk_at "w"
              refine ⟨s, 6, rfl, hs10, by decide, by decide, fun si H11 s0 s1' hs11 e11 => ?_⟩
              have hc11 := e11 _ _ ncs hc10
              have hLS : H11 LS = some (.lst (TV [[48], [49], [50], [32], word.take (word.length - 1), word])) := e11 _ _ (stm_ne hs9 n10) f10
              repeat walk_at "w"
              refine w_ixTV (SqL.of hLS) s0 s1' fun sign hsign => ?_
              have sms : Sm 9 sign := by
                simp only [List.mem_cons, List.mem_nil_iff, or_false] at hsign
                rcases hsign with rfl | rfl | rfl | rfl | rfl | rfl
                · exact ⟨by decide, by decide⟩
                · exact ⟨by decide, by decide⟩
                · exact ⟨by decide, by decide⟩
                · exact ⟨by decide, by decide⟩
                · exact smw.take _
                · exact smw
              have smt : Sm 540 (textOf ws its) := sm_bits tb (by omega)
              have sl := sms.1
              have tl540 := smt.1
              generalize textOf ws its = tx at *
              have aN : ∃ j : Nat, at8 = (j : Int) ∧ j ≤ tx.length := ⟨at8.toNat, by omega, by omega⟩
              obtain ⟨j, rfl, hj⟩ := aN
              have l1 : (tx.take j).length ≤ 540 := (smt.take j).1
              have l2 : (tx.drop j).length ≤ 540 := (smt.drop j).1
              have l3 : (tx.drop (j + 1)).length ≤ 540 := (smt.drop (j + 1)).1
              repeat walk_at "w"
              refine w_slB (by rw [hz]; omega) (by omega) ?_
              rw [Int.toNat_natCast]
              repeat walk_at "w"
              refine w_addC (by rw [hz]; omega) ?_
              have l4 : (tx.take j ++ sign).length ≤ 549 := by rw [List.length_append]; omega
              repeat walk_at "w"
              refine w_slA (by rw [hz]; omega) (by omega) ?_
              rw [Int.toNat_natCast]
              repeat walk_at "w"
              refine w_addC (by rw [hz]; omega) ?_
              repeat walk_at "w"
              refine w_slB (by rw [hz]; omega) (by omega) ?_
              rw [Int.toNat_natCast]
              repeat walk_at "w"
              refine w_slA (by rw [hz]; omega) (by omega) ?_
              rw [show ((j : Int) + 1).toNat = j + 1 by omega]
              repeat walk_at "w"
              refine w_addC (by rw [hz]; omega) ?_
              repeat walk_at "w"
              refine w_slB (by rw [hz]; omega) (by omega) ?_
              rw [Int.toNat_natCast]
              repeat walk_at "w"
              refine w_addC (by rw [hz]; omega) ?_
              repeat walk_at "w"
              refine w_slA (by rw [hz]; omega) (by omega) ?_
              rw [show ((j : Int) + 1).toNat = j + 1 by omega]
              repeat walk_at "w"
              refine w_addC (by rw [hz]; omega) ?_
              repeat walk_at "w"
              refine w_addC (by rw [hz]; omega) ?_
              repeat walk_at "w"
              refine w_new fun LB H12 n12 s12 f12 => ?_
              have hs12 : Stm H12 s := s12.stm hs11
              have hc12 := s12 _ _ hc11
              repeat walk_at "w"
              refine ⟨s, 4, rfl, hs12, by decide, by decide, fun bi H13 b0 b1 hs13 e13 => ?_⟩
              have hc13 := e13 _ _ ncs hc12
              have hLB : H13 LB = some (.lst (TV [tx.take j ++ sign ++ tx.drop j, tx.take j ++ tx.drop (j + 1), tx.take j ++ sign ++ tx.drop (j + 1), tx ++ sign])) := e13 _ _ (stm_ne hs11 n12) f12
              have b13 : But s H H13 := ((b7.trans e8).trans e9).trans (((But.of s10).trans e11).trans ((But.of s12).trans e13))
              repeat walk_at "w"
              refine w_ixTV (SqL.of hLB) b0 b1 fun bent hbent => ?_
              have smb : Sm 1000 bent := by
                simp only [List.mem_cons, List.mem_nil_iff, or_false] at hbent
                rcases hbent with rfl | rfl | rfl | rfl
                · exact (((smt.take j).app sms).app (smt.drop j)).mono' (by rw [List.length_append, List.length_append, List.length_take, List.length_drop]; omega)
                · exact ((smt.take j).app (smt.drop (j + 1))).mono' (by rw [List.length_append, List.length_take, List.length_drop]; omega)
                · exact (((smt.take j).app sms).app (smt.drop (j + 1))).mono' (by rw [List.length_append, List.length_append, List.length_take, List.length_drop]; omega)
                · exact (smt.app sms).mono (by decide)
              clear hbent hLB f12
              obtain ⟨bl, bc⟩ := smb
              repeat walk_at "w"
              refine sp_asked hc13 gc bl fun P1 H14 s14 nP hP => ?_
              have hs14 : Stm H14 s := s14.stm hs13
              have b14 : But s H H14 := b13.trans (But.of s14)
              have hc14 := s14 _ _ hc13
              have okb : ([("bits" : Str), S bent].all PyData.strOk) = true := by
                rw [List.all_cons, List.all_cons, List.all_nil, strOk_small bc]; decide +kernel
              clear b13 hc13 hs13 e13 hs12 hc12 s12 hc11 hs11 e11 hs10 hc10 s10 hc9 hs9 e9 hc8 hs8 e8 b7 hs7 hc7
              repeat walk_at "w"
              refine w_lcS ?_
              repeat walk_at "w"
              refine lc_S bent (fun E j zs H2 => Same H14 H2 ∧ zs = (((bent.take j).filter fun c => !bitC c).map fun c => S [c]).map V.str) (fun D H' hD e f => ⟨e, by rw [List.take_zero]; rfl⟩) (fun E hE i c zs H2 hc hlz hz2 hp => ?_) (fun E hE zs H2 hlz hz2 hp => ?_)
              · obtain ⟨e2, rfl⟩ := hp
                have fz := List.length_filter_le (fun c => !bitC c) (bent.take i)
                rw [List.length_take] at fz
                repeat walk_at "w"
                refine w_ni1 ?_
                rw [bit_in]
                repeat walk_at "w"
                refine ite2 (fun hk => ?_) (fun hk => ?_)
                · repeat walk_at "w"
                  refine lc_end hz2 hlz (by rw [hz, List.length_map, List.length_map]; omega) fun H5 e5 f5 => ⟨But.new e2 hE e5, ?_⟩
                  rw [tk_sn hc, List.filter_append, List.filter_cons, if_pos hk, List.filter_nil, List.map_append, List.map_append]; rfl
                · refine lc_skip hz2 hlz ⟨e2, ?_⟩
                  rw [tk_sn hc, List.filter_append, List.filter_cons, if_neg hk, List.filter_nil, List.append_nil]
              · obtain ⟨e2, rfl⟩ := hp
                rw [List.take_length] at hz2
                repeat walk_at "w"
                refine w_new fun Z H15 n15 s15 f15 => ?_
                have s1415 := e2.trans s15
                have hs15 : Stm H15 s := s1415.stm hs14
                have hc15 := s1415 _ _ hc14
                have b15 := b14.trans (But.of s1415)
                have hP15 : ((bitsL bent = false ∨ readO ws bent = none) ∧ H15 P1 = some (.lst [.str "bits", .str (S bent)])) ∨ ∃ R due, bitsL bent = true ∧ readO ws bent = some due ∧ H15 P1 = some (.lst [.str "told", .ref R]) ∧ H15 R = some (.lst (natsV due)) :=
                  hP.imp (fun h => ⟨h.1, s1415 _ _ h.2⟩) fun ⟨R, d, h1, h2, h3, h4⟩ => ⟨R, d, h1, h2, s1415 _ _ h3, s1415 _ _ h4⟩
                have oks2 : (((bent.filter fun c => !bitC c).map fun c => S [c]).all PyData.strOk) = true := by
                  rw [List.all_map, List.all_eq_true]
                  intro c hc
                  refine strOk_small fun d hd => ?_
                  rw [List.mem_singleton.mp hd]
                  exact bc c (List.mem_filter.mp hc).1
                refine w_eqSL (ns := (bent.filter fun c => !bitC c).map fun c => S [c]) (ms := []) (SqL.of (s15 _ _ hz2)) (SqL.of f15) oks2 rfl ?_
                have eb : decide ((bent.filter fun c => !bitC c).map (fun c => S [c]) = []) = bitsL bent := by
                  rw [Bool.eq_iff_iff, decide_eq_true_eq, List.map_eq_nil_iff, List.filter_eq_nil_iff]
                  unfold bitsL
                  rw [List.all_eq_true]
                  exact forall_congr' fun c => forall_congr' fun _ => by cases bitC c <;> simp
                rw [eb]
                repeat walk_at "w"
                cases hbb : bitsL bent with
                | false =>
                  have hB : H15 P1 = some (.lst [.str "bits", .str (S bent)]) := by
                    rcases hP15 with h | ⟨_, _, h, _⟩
                    · exact h.2
                    · rw [hbb] at h; cases h
                  repeat walk_at "w"
                  refine ⟨rfl, ?_⟩
                  rw [decide_eq_true (show V.non = V.non from rfl)]
                  repeat walk_at "w"
                  refine w_new fun Z2 H17 n17 s17 f17 => ?_
                  refine w_neSL (ns := [("bits" : Str), S bent]) (ms := [("bits" : Str), S bent]) (SqL.of (s17 _ _ hB)) (SqL.of f17) okb okb ?_
                  rw [show (!decide (([("bits" : Str), S bent] : List Str) = [("bits" : Str), S bent])) = false by simp]
                  repeat walk_at "w"
                  refine ⟨rfl, ?_⟩
                  rw [show (!decide (V.non = V.non)) = false by simp]
                  repeat walk_at "w"
                  exact ⟨_, _, _, _, _, _, _, _, _, _, _, rfl, (s17).stm hs15, b15.trans (But.of (s17)), (s17) _ _ hc15⟩
                | true =>
                  repeat walk_at "w"
                  refine ⟨cc, ws, bent, 9, rfl, hc15, gc, by decide, bl, fun hrn H16 s16 => ?_, fun d2 hr R2 H16 hR2 s16 nR2 => ?_⟩
                  · have hB : H16 P1 = some (.lst [.str "bits", .str (S bent)]) := by
                      rcases hP15 with h | ⟨_, _, _, h, _⟩
                      · exact s16 _ _ h.2
                      · rw [hrn] at h; cases h
                    repeat walk_at "w"
                    refine ⟨rfl, ?_⟩
                    rw [decide_eq_true (show V.non = V.non from rfl)]
                    repeat walk_at "w"
                    refine w_new fun Z2 H17 n17 s17 f17 => ?_
                    refine w_neSL (ns := [("bits" : Str), S bent]) (ms := [("bits" : Str), S bent]) (SqL.of (s17 _ _ hB)) (SqL.of f17) okb okb ?_
                    rw [show (!decide (([("bits" : Str), S bent] : List Str) = [("bits" : Str), S bent])) = false by simp]
                    repeat walk_at "w"
                    refine ⟨rfl, ?_⟩
                    rw [show (!decide (V.non = V.non)) = false by simp]
                    repeat walk_at "w"
                    exact ⟨_, _, _, _, _, _, _, _, _, _, _, rfl, (s16.trans s17).stm hs15, b15.trans (But.of (s16.trans s17)), (s16.trans s17) _ _ hc15⟩
                  · obtain ⟨R, hB, hR⟩ : ∃ R, H16 P1 = some (.lst [.str "told", .ref R]) ∧ H16 R = some (.lst (natsV d2)) := by
                      rcases hP15 with h | ⟨R, d, h1, h2, h3, h4⟩
                      · rcases h.1 with z | z
                        · rw [hbb] at z; cases z
                        · rw [hr] at z; cases z
                      · rw [hr] at h2; cases Option.some.inj h2
                        exact ⟨R, s16 _ _ h3, s16 _ _ h4⟩
                    have ld : d2.length ≤ 100000 := Nat.le_trans (read_len gc hr) (by omega)
                    repeat walk_at "w"
                    refine ⟨rfl, ?_⟩
                    rw [decide_eq_false (show ¬ V.ref R2 = V.non by intro z; cases z)]
                    repeat walk_at "w"
                    refine ⟨rfl, ?_⟩
                    rw [show (!decide (V.ref R2 = V.non)) = true by simp]
                    repeat walk_at "w"
                    refine w_new fun Z2 H17 n17 s17 f17 => ?_
                    repeat walk_at "w"
                    refine ⟨_, _, rfl, by decide, Tw.lst (s17 _ _ hB) f17 rfl (by simp) (fun i x y hx hy => ?_), fun H18 s18 => ?_⟩
                    · match i, hx, hy with
                      | 0, hx, hy =>
                        cases Option.some.inj hx
                        cases Option.some.inj hy
                        exact .str _
                      | 1, hx, hy =>
                        cases Option.some.inj hx
                        cases Option.some.inj hy
                        exact Tw.ints (s17 _ _ hR) (s17 _ _ hR2) (by rw [List.length_map]; exact ld) 0
                      | i + 2, hx, hy => cases hx
                    repeat walk_at "w"
                    have sf := s16.trans (s17.trans s18)
                    exact ⟨_, _, _, _, _, _, _, _, _, _, _, rfl, sf.stm hs15, b15.trans (But.of sf), sf _ _ hc15⟩
            · obtain ⟨o6, o7, o8, o9, o10, o11, o12, o13, o14, o15, o16, rfl, hs7, b7, hc7⟩ := hp
              repeat walk_at "w"
              exact q H7 hs7 b7
end

end J
namespace J
open PySem PySem.Spec PyProof.Rows L2

local macro_rules | `(tactic| walk_at "ty") => `(tactic| first
  | with_reducible exact ty_int
  | with_reducible exact ty_bl
  | with_reducible exact ty_str
  | with_reducible exact ty_non
  | ((with_reducible refine' ty_lst ?vv); (case vv => walk_at "tr"))
  | ((with_reducible refine' ty_sqT ?vv); (case vv => walk_at "tr"))
  | ((with_reducible refine' ty_dic ?vv); (case vv => walk_at "tr")))
local macro_rules | `(tactic| walk_at "ix") => `(tactic| first | exact at0 | exact at1 | exact at2 | assumption)
local macro_rules | `(tactic| walk_at "size") => `(tactic| first
  | assumption
  | (show _ < sizeLine; rw [sizeLine_eq]; (try simp only [List.length_cons, List.length_nil, List.length_append, List.length_map]); omega)
  | (show _ ≤ sizeLine; rw [sizeLine_eq]; (try simp only [List.length_cons, List.length_nil, List.length_append, List.length_map]); omega))
local macro_rules | `(tactic| walk_at "side") => `(tactic| first
  | assumption
  | ((with_reducible refine cdw ?_ ?_) <;> omega)
  | omega
  | (exact ⟨by omega, by omega⟩)
  | (exact Or.inl ⟨by omega, by omega⟩)
  | (exact Or.inr ⟨by omega, by omega⟩)
  | decide
  | (simp only [List.length_cons, List.length_nil, List.length_append, List.length_map]; omega)
  | (show _ ≤ _; decide))
local macro_rules | `(tactic| walk_at "as") => `(tactic| with_reducible assumption)
local macro_rules | `(tactic| walk_at "tr") => `(tactic| first
  | with_reducible assumption
  | with_reducible exact upd_same
  | ((with_reducible refine' SqL.of ?hh); (case hh => walk_at "as"))
  | ((with_reducible refine' SqT.of ?hh); (case hh => walk_at "as"))
  | ((with_reducible refine' Same.stm ?ee ?gg); (case ee => walk_at "as"); (case gg => walk_at "tr"))
  | ((with_reducible refine' Same.sqT ?ee ?gg); (case ee => walk_at "as"); (case gg => walk_at "tr"))
  | ((with_reducible refine' Same.sqL ?ee ?gg); (case ee => walk_at "as"); (case gg => walk_at "tr"))
  | ((with_reducible refine' Same.at ?ee ?gg); (case ee => walk_at "as"); (case gg => walk_at "tr"))
  | ((with_reducible refine' But.stm ?ee ?ff ?gg); (case ee => walk_at "as"); (case ff => walk_at "ne"); (case gg => walk_at "tr"))
  | ((with_reducible refine' But.tup ?ee ?ff ?gg); (case ee => walk_at "as"); (case ff => walk_at "tr1"); (case gg => walk_at "tr"))
  | ((with_reducible refine' But.sqT ?ee ?ff ?gg); (case ee => walk_at "as"); (case ff => walk_at "tr1"); (case gg => walk_at "tr"))
  | ((with_reducible refine' But.tupL ?ee ?ff ?gg); (case ee => walk_at "as"); (case ff => walk_at "tr1"); (case gg => walk_at "tr"))
  | ((with_reducible refine' But.sqTL ?ee ?ff ?gg); (case ee => walk_at "as"); (case ff => walk_at "tr1"); (case gg => walk_at "tr"))
  | ((with_reducible refine' But.sqL ?ee ?ff ?gg); (case ee => walk_at "as"); (case ff => walk_at "ne"); (case gg => walk_at "tr"))
  | ((with_reducible refine' But.at ?ee ?ff ?gg); (case ee => walk_at "as"); (case ff => walk_at "ne"); (case gg => walk_at "tr")))
local macro_rules | `(tactic| walk_at "ts") => `(tactic| first
  | with_reducible assumption
  | with_reducible exact TS.refl _
  | ((with_reducible refine' TS.trans ?gg (TS.of ?ee)); (case ee => walk_at "as"); (case gg => walk_at "ts"))
  | ((with_reducible refine' TS.trans ?gg (TS.butS ?ee ?ff)); (case ee => walk_at "as"); (case ff => walk_at "tr1"); (case gg => walk_at "ts"))
  | ((with_reducible refine' TS.trans ?gg (TS.butL ?ee ?ff)); (case ee => walk_at "as"); (case ff => walk_at "tr1"); (case gg => walk_at "ts"))
  | ((with_reducible refine' TS.trans ?gg (TS.butI ?ee ?ff)); (case ee => walk_at "as"); (case ff => walk_at "tr1"); (case gg => walk_at "ts")))
local macro_rules | `(tactic| walk_at "sm") => `(tactic| first
  | with_reducible assumption
  | with_reducible exact Same.refl _
  | ((with_reducible refine' Same.trans ?gg ?ee); (case ee => walk_at "as"); (case gg => walk_at "sm"))
  | ((with_reducible refine' But.new ?gg ?nn ?ee); (case ee => walk_at "as"); (case nn => walk_at "fr"); (case gg => walk_at "sm")))
local macro_rules | `(tactic| walk_at "fr") => `(tactic| first
  | with_reducible assumption
  | ((with_reducible refine' Same.back ?ee ?nn); (case nn => walk_at "as"); (case ee => walk_at "sm"))
  | ((with_reducible refine' But.back ?ee ?ff ?nn); (case nn => walk_at "as"); (case ff => walk_at "ne0"); (case ee => walk_at "bu")))
local macro_rules | `(tactic| walk_at "bu") => `(tactic| first
  | with_reducible assumption
  | with_reducible exact But.refl _ _
  | ((with_reducible refine' But.trans ?gg ?ee); (case ee => walk_at "as"); (case gg => walk_at "bu"))
  | ((with_reducible refine' But.trans ?gg (But.of ?ee)); (case ee => walk_at "as"); (case gg => walk_at "bu"))
  | ((with_reducible refine' But.new2 ?gg ?nn ?ee); (case ee => walk_at "as"); (case nn => walk_at "frB"); (case gg => walk_at "bu")))
local macro_rules | `(tactic| walk_at "frB") => `(tactic| first
  | with_reducible assumption
  | ((with_reducible refine' Same.back ?ee ?nn); (case nn => walk_at "as"); (case ee => walk_at "sm"))
  | ((with_reducible refine' But.back' ?ee ?ff ?nn); (case nn => walk_at "as"); (case ee => walk_at "bu"); (case ff => walk_at "tr1")))
local macro_rules | `(tactic| walk_at "tr1") => `(tactic| first
  | with_reducible assumption
  | ((with_reducible refine' Same.stm ?ee ?gg); (case ee => walk_at "as"); (case gg => walk_at "tr1"))
  | ((with_reducible refine' Same.at ?ee ?gg); (case ee => walk_at "as"); (case gg => walk_at "tr1"))
  | ((with_reducible refine' But.at ?ee ?ff ?gg); (case ee => walk_at "as"); (case ff => walk_at "ne0"); (case gg => walk_at "tr1"))
  | ((with_reducible refine' But.stm ?ee ?ff ?gg); (case ee => walk_at "as"); (case ff => walk_at "ne0"); (case gg => walk_at "tr1")))
local macro_rules | `(tactic| walk_at "ne0") => `(tactic| first
  | with_reducible assumption
  | (with_reducible apply Ne.symm; with_reducible assumption))
local macro_rules | `(tactic| walk_at "ne") => `(tactic| first
  | with_reducible assumption
  | (with_reducible apply Ne.symm; with_reducible assumption)
  | ((with_reducible refine' stm_ne ?hh ?nn); (case nn => walk_at "as"); (case hh => walk_at "tr1"))
  | ((with_reducible refine' ne_of_none ?hh ?nn); (case nn => walk_at "as"); (case hh => walk_at "tr1"))
  | ((with_reducible apply Ne.symm); (with_reducible refine' ne_of_none ?hh ?nn); (case nn => walk_at "as"); (case hh => walk_at "tr1")))
local macro_rules | `(tactic| walk_at "v") => `(tactic| first
  | with_reducible refine w_seq ?_
  | ((with_reducible refine' w_var ?vv ?_); (case vv => exact rfl))
  | with_reducible refine w_c ?_
  | with_reducible refine w_op ?_
  | with_reducible refine w_asg ?_
  | with_reducible refine w_gName ?_
  | with_reducible refine w_ret ?_
  | with_reducible refine w_ifS ?_
  | with_reducible refine w_drop ?_
  | with_reducible refine w_next ?_
  | with_reducible refine w_cons ?_
  | with_reducible refine w_nil ?_
  | with_reducible refine w_call ?_
  | with_reducible refine w_cb ?_
  | with_reducible refine w_rI0 ?_
  | with_reducible refine w_addI ?_
  | with_reducible refine w_eqI ?_
  | with_reducible refine w_neI ?_
  | with_reducible refine w_eqS ?_
  | with_reducible refine w_neS ?_
  | with_reducible refine w_eqB ?_
  | with_reducible refine w_neB ?_
  | with_reducible refine w_chain ?_
  | with_reducible refine w_test ?_
  | with_reducible refine w_tB ?_
  | with_reducible refine w_bl ?_
  | ((with_reducible refine' w_mulI ?vv ?_); (case vv => walk_at "side"))
  | ((with_reducible refine' w_rI ?vv ?_); (case vv => walk_at "side"))
  | with_reducible refine w_int1 ?_
  | with_reducible refine w_int1b ?_
  | with_reducible refine w_tup ?_
  | with_reducible refine w_lst ?_
  | with_reducible refine w_un ?_
  | with_reducible refine w_rU ?_
  | with_reducible refine w_not ?_
  | with_reducible refine w_notV ?_
  | with_reducible refine w_ifE ?_
  | with_reducible refine w_nT ?_
  | with_reducible refine w_nF ?_
  | with_reducible refine iteT ?_
  | with_reducible refine iteF ?_
  | ((with_reducible refine' w_ixT ?vv ?ww ?_); (case vv => walk_at "tr"); (case ww => walk_at "ix"))
  | ((with_reducible refine' w_ixL ?vv ?ww ?_); (case vv => walk_at "tr"); (case ww => walk_at "ix"))
  | with_reducible refine w_gSub ?_
  | ((with_reducible refine' w_setL ?vv ?ww ?_); (case vv => walk_at "tr"); (case ww => first | rfl | decide | assumption))
  | ((with_reducible refine' w_lenL ?vv ?_); (case vv => walk_at "tr"))
  | ((with_reducible refine' w_lenT ?vv ?_); (case vv => walk_at "tr"))
  | with_reducible refine w_max2 ?_
  | with_reducible refine w_max3 ?_
  | with_reducible refine w_din ?_
  | with_reducible refine w_dnotin ?_
  | with_reducible refine w_dput ?_
  | with_reducible refine w_min2 ?_
  | with_reducible refine w_bm ?_
  | with_reducible refine w_bm0 ?_
  | ((with_reducible refine' w_tyL ?vv ?_); (case vv => walk_at "tr"))
  | ((with_reducible refine' w_append ?vv ?ww ?_); (case vv => walk_at "tr"); (case ww => walk_at "size"))
  | ((with_reducible refine' w_size ?vv ?_); (case vv => walk_at "size"))
  | with_reducible refine w_forL ?_
  | with_reducible refine w_forT ?_
  | with_reducible refine w_forR1 ?_
  | with_reducible refine w_forR2 ?_
  | with_reducible refine w_lcL ?_
  | with_reducible refine w_lcT ?_
  | with_reducible refine w_lcR1 ?_
  | with_reducible refine w_yes ?_
  | with_reducible refine w_sl ?_
  | with_reducible refine w_noPart ?_
  | with_reducible refine w_part ?_
  | with_reducible refine w_int ?_
  | ((with_reducible refine' w_slL ?vv ?_); (case vv => walk_at "tr"))
  | ((with_reducible refine' w_seqL ?vv ?ww ?_); (case vv => walk_at "tr"); (case ww => rfl))
  | ((with_reducible refine' w_seqT ?vv ?ww ?_); (case vv => walk_at "tr"); (case ww => rfl))
  | with_reducible refine w_gNil ?_
  | with_reducible refine w_gCons ?_
  | with_reducible refine w_forZ ?_
  | with_reducible refine w_forM ?_
  | with_reducible refine w_forE ?_
  | with_reducible refine w_forV ?_
  | with_reducible refine w_lcZ ?_
  | with_reducible refine w_lcE ?_
  | ((with_reducible refine' w_isi (b := true) ?vv ?ww ?_); (case vv => walk_at "ty"); (case ww => decide +kernel))
  | ((with_reducible refine' w_isi (b := false) ?vv ?ww ?_); (case vv => walk_at "ty"); (case ww => decide +kernel))
  | with_reducible refine w_revL ?_
  | with_reducible refine w_pairN ?_
  | with_reducible refine w_pairC ?_
  | with_reducible refine w_dget ?_
  | with_reducible refine w_met ?_
  | ((with_reducible refine' w_metAt ?vv ?ww ?_); (case vv => walk_at "tr"); (case ww => rfl))
  | with_reducible refine w_mkI ?_
  | with_reducible refine w_fld ?_
  | ((with_reducible refine' w_fldAt ?vv ?cc ?nn ?ww ?_); (case vv => walk_at "tr"); (case cc => walk_at "cls"); (case nn => walk_at "na"); (case ww => rfl))
  | with_reducible refine w_sfld ?_
  | ((with_reducible refine' w_sfldAt ?vv ?cc ?nn ?ll ?ee ?_); (case vv => walk_at "tr"); (case cc => walk_at "cls"); (case nn => walk_at "na"); (case ll => simp); (case ee => rfl))
  | ((with_reducible refine' w_tupL ?vv ?_); (case vv => walk_at "tr"))
  | ((with_reducible refine' w_tupT ?vv ?_); (case vv => walk_at "tr"))
  | ((with_reducible refine' w_listL ?vv ?_); (case vv => walk_at "tr"))
  | ((with_reducible refine' w_listT ?vv ?_); (case vv => walk_at "tr"))
  | with_reducible refine w_tyS ?_
  | with_reducible refine w_lcZM ?_
  | with_reducible refine w_js ?_
  | with_reducible refine w_jsN ?_
  | ((with_reducible refine' w_jsP ?vv ?_); (case vv => walk_at "size"))
  | with_reducible refine w_fmt ?_
  | with_reducible refine w_forRR ?_
  | with_reducible refine w_retN ?_
  | with_reducible refine w_break ?_
  | with_reducible refine w_cont ?_)
local macro_rules | `(tactic| walk_at "w") => `(tactic| first
  | walk_at "v"
  | with_reducible refine w_or ?_
  | with_reducible refine w_and ?_
  | with_reducible refine w_andV ?_
  | with_reducible refine w_orV ?_)
local macro_rules | `(tactic| walk_at "wd") => `(tactic| first
  | walk_at "w"
  | ((with_reducible refine' w_decT ?vv ?_); (case vv => decide +kernel))
  | ((with_reducible refine' w_decF ?vv ?_); (case vv => decide +kernel)))
local macro_rules | `(tactic| walk_at "tz") => `(tactic| (intro S z; (repeat walk_at "w"); exact z))
local macro_rules | `(tactic| walk_at "wf") => `(tactic| first
  | walk_at "wd"
  | ((with_reducible refine' w_decF ?vv ?_); (case vv => with_reducible assumption)))
/-! ### codes: what is refused -/
open SX
def OddP (K : PySem.W.Frag) (s : Addr) (n : Nat) (H : Hp) (v : V) : Prop := ∀ H', But s H H' → (∃ p, ItemsAt K H' v p ∧ (p = none ∨ ∃ xs, p = some xs ∧ xs.all (goodI n) = false)) ∧ VeryAt K H' v
def BadP (K : PySem.W.Frag) (s : Addr) (H : Hp) (v : V) : Prop := ∀ H', But s H H' → (∃ o, CodeAt K H' v o ∧ isCodeO o = false ∧ LCode K H' v o) ∧ VeryAt K H' v
def WrP (K : PySem.W.Frag) (s : Addr) (H : Hp) (v : V) : Prop := ∀ H', But s H H' → AnyAt K H' v ∧ (∀ l, v = .str (S l) → bitsL l = false) ∧ VeryAt K H' v
section
variable {K : PySem.W.Frag} {s : Addr} {n : Nat} {H H' : Hp} {v : V}
theorem OddP.up (h : OddP K s n H v) (e : But s H H') : OddP K s n H' v := fun H2 e2 => h H2 (e.trans e2)
theorem BadP.up (h : BadP K s H v) (e : But s H H') : BadP K s H' v := fun H2 e2 => h H2 (e.trans e2)
theorem WrP.up (h : WrP K s H v) (e : But s H H') : WrP K s H' v := fun H2 e2 => h H2 (e.trans e2)
theorem rp_int {i : Int} (h0 : -1 ≤ i) (h1 : i ≤ 10) : Rp 70 1 (.int i) := by
  have c : i = -1 ∨ i = 0 ∨ i = 1 ∨ i = 2 ∨ i = 3 ∨ i = 4 ∨ i = 5 ∨ i = 6 ∨ i = 7 ∨ i = 8 ∨ i = 9 ∨ i = 10 := by omega
  rcases c with rfl | rfl | rfl | rfl | rfl | rfl | rfl | rfl | rfl | rfl | rfl | rfl <;> exact ⟨by decide +kernel, by decide +kernel, by decide +kernel, by decide +kernel⟩
/-- flat things -/
theorem flat_very (v : V) (h : v = .non ∨ v = .int 7 ∨ (∃ b, v = .bl b) ∨ ∃ l, v = .str (S l) ∧ l.length ≤ 100 ∧ ∀ c ∈ l, c < 256) : VeryAt K H v ∧ NoSq H v := by
  rcases h with rfl | rfl | ⟨b, rfl⟩ | ⟨l, rfl, h1, h2⟩
  · exact ⟨.non, .non⟩
  · exact ⟨.int 7 (rp_int (by decide) (by decide)), .int 7⟩
  · exact ⟨.bl b, .bl b⟩
  · exact ⟨.str l (rp_mono (rp_str (by omega) h2) (by omega) (by decide)), .str l (by omega)⟩
theorem odd_flat (h : v = .non ∨ v = .int 7 ∨ (∃ b, v = .bl b) ∨ ∃ l, v = .str (S l) ∧ l.length ≤ 100 ∧ ∀ c ∈ l, c < 256) : OddP K s n H v := fun H' _ => by
  obtain ⟨a, b⟩ := flat_very (K := K) (H := H') v h
  exact ⟨⟨none, .no b, .inl rfl⟩, a⟩
theorem bad_flat (h : v = .non ∨ v = .int 7 ∨ (∃ b, v = .bl b) ∨ ∃ l, v = .str (S l) ∧ l.length ≤ 100 ∧ ∀ c ∈ l, c < 256) : BadP K s H v := fun H' _ => by
  obtain ⟨a, b⟩ := flat_very (K := K) (H := H') v h
  exact ⟨⟨none, .no b, rfl, .no b⟩, a⟩
theorem wr_flat (h : v = .non ∨ v = .int 7 ∨ (∃ b, v = .bl b) ∨ ∃ l, v = .str (S l) ∧ l.length ≤ 100 ∧ ∀ c ∈ l, c < 256) (hb : ∀ l, v = .str (S l) → bitsL l = false) : WrP K s H v := fun H' _ => by
  obtain ⟨a, b⟩ := flat_very (K := K) (H := H') v h
  exact ⟨b.any, hb, a⟩
variable {a : Addr}
theorem odd_dic (h : H a = some (.dK [])) (n' : a ≠ s) : OddP K s n H (.ref a) := fun H' e => by
  have h' := e _ _ n' h
  exact ⟨⟨none, .no (.dic h'), .inl rfl⟩, .dic h'⟩
theorem bad_dic (h : H a = some (.dK [])) (n' : a ≠ s) : BadP K s H (.ref a) := fun H' e => by
  have h' := e _ _ n' h
  exact ⟨⟨none, .no (.dic h'), rfl, .no (.dic h')⟩, .dic h'⟩
theorem wr_dic (h : H a = some (.dK [])) (n' : a ≠ s) : WrP K s H (.ref a) := fun H' e => by
  have h' := e _ _ n' h
  exact ⟨.dic h', (fun l e => by cases e), .dic h'⟩
/-- flat data -/
def fD : V → PyData
  | .bl b => .bool b
  | .int i => .int i
  | .str x => .str x
  | _ => .none
def fV (v : V) : Prop := v = .non ∨ (∃ i, v = .int i ∧ -1 ≤ i ∧ i ≤ 10) ∨ (∃ b, v = .bl b) ∨ ∃ l, v = .str (S l) ∧ l.length ≤ 100 ∧ ∀ c ∈ l, c < 256
theorem fV_dp (h : fV v) : Dp K H v (fD v) ∧ Rp 1000 10 (fD v) ∧ AnyAt K H v := by
  rcases h with rfl | ⟨i, rfl, h0, h1⟩ | ⟨b, rfl⟩ | ⟨l, rfl, h1, h2⟩
  · exact ⟨.non, rp_mono rp_none (by decide) (by decide), .non⟩
  · exact ⟨.int i, rp_mono (rp_int h0 h1) (by decide) (by decide), .int i⟩
  · exact ⟨.bl b, rp_mono (rp_bool b) (by decide) (by decide), .bl b⟩
  · exact ⟨.str _, rp_mono (rp_str (by omega) h2) (by omega) (by decide), .str l (by omega)⟩
theorem fV_dpa : ∀ {xs : List V}, (∀ x ∈ xs, fV x) → DpAll K H xs (xs.map fD)
  | [], _ => .nil
  | x :: xs, h => .cons (fV_dp (h x List.mem_cons_self)).1 (fV_dpa fun y hy => h y (List.mem_cons_of_mem _ hy))
theorem very_lst {xs : List V} (h : H a = some (.lst xs)) (hf : ∀ x ∈ xs, fV x) (hl : xs.length ≤ 100) : VeryAt K H (.ref a) :=
  .lst h (fun _ _ => fV_dpa hf) hl fun d hd => by
    obtain ⟨x, hx, rfl⟩ := List.mem_map.mp hd
    exact (fV_dp (K := K) (H := H) (hf x hx)).2.1
theorem odd_lst {xs : List V} (h : H a = some (.lst xs)) (n' : a ≠ s) (hf : ∀ x ∈ xs, fV x) (hl : xs.length ≤ 100) (x : V) (hx : x ∈ xs) (hg : goodI n x = false) : OddP K s n H (.ref a) := fun H' e => by
  have h' := e _ _ n' h
  refine ⟨⟨some xs, .sq (.inl h') (by omega) (fun y hy => (fV_dp (hf y hy)).2.2), .inr ⟨xs, rfl, ?_⟩⟩, very_lst h' hf hl⟩
  rw [List.all_eq_false]
  exact ⟨x, hx, by rw [hg]; decide⟩
theorem odd_nest {b : Addr} (h : H a = some (.lst [.ref b])) (hb : H b = some (.lst [.int 0])) (na : a ≠ s) (nb : b ≠ s) (nab : b ≠ a) : OddP K s n H (.ref a) := fun H' e => by
  have h' := e _ _ na h
  have hb' := e _ _ nb hb
  refine ⟨⟨some [.ref b],   .sq (.inl h') (by simp) (fun y hy => by rw [List.mem_singleton.mp hy]; exact .lst hb'), .inr ⟨_, rfl, rfl⟩⟩,
    .lst (ds := [.list [.int 0]]) h' (fun H2 e2 => .cons (.lst (SqL.of (e2 _ _ nab hb')) (.cons (.int 0) .nil)) .nil) (by simp) fun d hd => ?_⟩
  rw [List.mem_singleton.mp hd]
  exact ⟨by decide +kernel, by decide +kernel, by decide +kernel, by decide +kernel⟩
theorem itV_f {its : Its} (hw : ∀ w, some w ∈ its → w.length ≤ 100 ∧ ∀ c ∈ w, c < 256) : ∀ x ∈ its.map itV, fV x := fun x hx => by
  obtain ⟨o, ho, rfl⟩ := List.mem_map.mp hx
  cases o with
  | none => exact .inl rfl
  | some w => exact .inr (.inr (.inr ⟨w, rfl, hw w ho⟩))
theorem bad_lst {its : Its} (h : H a = some (.lst (its.map itV))) (n' : a ≠ s) (hw : ∀ w, some w ∈ its → w.length ≤ 100 ∧ ∀ c ∈ w, c < 256) (hl : its.length ≤ 100) (hc : ¬ IsCode its) : BadP K s H (.ref a) := fun H' e => by
  have h' := e _ _ n' h
  exact ⟨⟨some its, .lst h' hl (fun w hm => by have := (hw w hm).1; omega), code_false hc, .lst h' hl fun w hm => ⟨by have := (hw w hm).1; omega, (hw w hm).2⟩⟩, very_lst h' (itV_f hw) (by rw [List.length_map]; exact hl)⟩
theorem wr_lst {xs : List V} (h : H a = some (.lst xs)) (n' : a ≠ s) (hf : ∀ x ∈ xs, fV x) (hl : xs.length ≤ 100) : WrP K s H (.ref a) := fun H' e => by
  have h' := e _ _ n' h
  exact ⟨.lst h', (fun l e => by cases e), very_lst h' hf hl⟩
theorem wr_tup (h : H a = some (.tup [.str (S [48])])) (n' : a ≠ s) : WrP K s H (.ref a) := fun H' e => by
  have h' := e _ _ n' h
  exact ⟨.tup (SqT.of h'), (fun l e => by cases e), .tup (ds := [.str (S [48])]) (SqT.of h') (.cons (.str _) .nil) ⟨by decide +kernel, by decide +kernel, by decide +kernel, by decide +kernel⟩⟩
theorem w_ixP {Q : VK} {p : Addr} {xs : List V} {i : Int} (R : V → Prop) (h : SqL K H p xs) (h0 : 0 ≤ i) (h1 : i < xs.length) (hr : ∀ x ∈ xs, R x) (k : ∀ x, R x → Q x H) : rIx K (.ref p) (.int i) H Q := by
  have hi : i.toNat < xs.length := by omega
  exact w_ixL h (atI_of h0 (List.getElem?_eq_getElem hi)) (k _ (hr _ (List.getElem_mem hi)))
end
/-- a case that is asked -/
def CaseP (K : PySem.W.Frag) (s : Addr) (H : Hp) (x : V) : Prop := ∃ (T : Addr) (way : Int) (one thing : V) (word : Str) (given : V), x = .ref T ∧ H T = some (.tup [.int way, one, thing, .str word, given]) ∧
  ∀ H', But s H H' → VeryAt K H' given ∧ ∀ (Q : VK) (E : XK), finV Q H' word given → spAsked K [.int way, one, thing] H' Q E
def spRefused (K : PySem.W.Frag) : Sp := fun vs H Q _ => ∃ (s c a : Addr) (ws : List (List Nat)) (its : List Nat), vs = [.ref s, .ref c, .ref a] ∧ Stm H s ∧ H c = some (.lst (TV ws)) ∧ c ≠ s ∧ GC 9 ws ∧ H a = some (.lst (natsV its)) ∧ a ≠ s ∧ (∀ i ∈ its, i < ws.length) ∧ its.length ≤ 60 ∧
  ∀ H', Stm H' s → But s H H' → Q (.bl true) H'
theorem len_law_refused_right {K : PySem.W.Frag} {vs H Q E} (h : spRefused K vs H Q E) : vs.length = 3 := by obtain ⟨_, _, _, _, _, rfl, _⟩ := h; rfl
theorem its_snoc (ws : List (List Nat)) (o : Option (List Nat)) : TV ws ++ [itV o] = (ws.map some ++ [o]).map itV := by rw [List.map_append, ← TV_it]; rfl
theorem not_pre {its : Its} {i j : Nat} (hi : i < its.length) (hj : j < its.length) (hij : i ≠ j) (h : (its.map wOf).getD i [] <+: (its.map wOf).getD j []) : ¬ IsCode its := fun z => z.2.2 i j (by rw [List.length_map]; exact hi) (by rw [List.length_map]; exact hj) hij h
theorem not_ok {its : Its} {o : Option (List Nat)} (ho : o ∈ its) (h : okW o = false) : ¬ IsCode its := fun z => by rw [z.2.1 o ho] at h; cases h
theorem its_small {ws : List (List Nat)} (gc : GC 9 ws) {o : Option (List Nat)} (ho : ∀ w, o = some w → w ∈ ws) : ∀ w, some w ∈ ws.map some ++ [o] → w.length ≤ 100 ∧ ∀ c ∈ w, c < 256 := fun w hw => by
  have hm : w ∈ ws := by
    rcases List.mem_append.mp hw with h | h
    · obtain ⟨u, hu, e⟩ := List.mem_map.mp h
      rw [← Option.some.inj e]; exact hu
    · exact ho w (List.mem_singleton.mp h).symm
  obtain ⟨h1, h2⟩ := gc.bits w hm
  refine ⟨by omega, fun c hc => ?_⟩
  have := List.all_eq_true.mp h1 c hc
  unfold bitC at this
  rw [decide_eq_true_eq] at this
  omega
theorem w_dnew {σ : L2.St} {H : Hp} {Q : VK} (k : NewO (.dK []) H Q) : tDNewK σ H Q := k
theorem fV_nats {its : List Nat} (h : ∀ i ∈ its, i < 10) : ∀ x ∈ natsV its, fV x := fun x hx => by
  unfold natsV at hx
  obtain ⟨y, hy, rfl⟩ := List.mem_map.mp hx
  obtain ⟨i, hi, rfl⟩ := List.mem_map.mp hy
  have := h i hi
  exact .inr (.inl ⟨_, rfl, by omega, by omega⟩)
theorem fV_app {xs : List V} {v : V} (h : ∀ x ∈ xs, fV x) (hv : fV v) : ∀ x ∈ xs ++ [v], fV x := fun x hx => (List.mem_append.mp hx).elim (h x) fun z => by rw [List.mem_singleton.mp z]; exact hv
section
variable {P : Program} {w : World} {K : PySem.W.Frag} {mg : Str → Option Value}
theorem ok_law_refused_right [c : Facts K mg] (G__law_asked : XL.Fn P w K mg "_law_asked" 6 ["way", "code", "thing"] ((spAsked K))) (G__law_is_code : XL.Fn P w K mg "_law_is_code" 1 ["value"] ((spLCode K))) (G__law_odd_text : XL.Fn P w K mg "_law_odd_text" 4 ["stream"] (spOddT)) (G__law_take : XL.Fn P w K mg "_law_take" 1 ["stream", "many"] (spTake)) (G__law_very : XL.Fn P w K mg "_law_very" 2 ["given", "thing"] ((spVery K))) : XL.Fn P w K mg "_law_refused_right" 10 ["stream", "code", "items"] ((spRefused K)) := by
  obtain ⟨fd, F⟩ := c.d_law_refused_right
  refine XL.Fn.mk' F c.g_law_refused_right sc_law_refused_right (k := 9) (fun vs H Q E h => ?_) (fun _ _ _ _ _ _ us hl => match us, hl with | [_, _, _], _ => rfl) (fun base cdv A outer s H vs Q E hr h => ?_)
  · exact len_law_refused_right h
  · have nd := sc_law_refused_right.nd
    have hu := hu_of hr.r
    have hr__law_asked : XL.Rm 6 _ := hr.mono (by omega)
    have hr__law_is_code : XL.Rm 1 _ := hr.mono (by omega)
    have hr__law_odd_text : XL.Rm 4 _ := hr.mono (by omega)
    have hr__law_take : XL.Rm 1 _ := hr.mono (by omega)
    have hr__law_very : XL.Rm 2 _ := hr.mono (by omega)
    refine ⟨_, (PSs.nox (pss_cons (ps_set (i := 3) nd rfl (Or.inl rfl) (pe_ix (ix_any (K := K) rfl) (pe_lst (pa_cons pe_non (pa_cons pe_int (pa_cons pe_dnewK (pa_cons pe_str (pa_cons (pe_op (op_addA (K := K) rfl) (pv 2) (pe_lst (pa_cons (pe_callB (call_lenA (K := K) rfl) (by rfl) c.f_len boot_len (pa_cons (pv 1) pa_nil)) pa_nil))) (pa_cons (pe_op (op_addA (K := K) rfl) (pv 2) (pe_lst (pa_cons (pe_un un_neg pe_int) pa_nil))) (pa_cons (pe_op (op_addA (K := K) rfl) (pv 2) (pe_lst (pa_cons pe_bl pa_nil))) (pa_cons (pe_op (op_addA (K := K) rfl) (pv 2) (pe_lst (pa_cons pe_non pa_nil))) (pa_cons (pe_lst (pa_cons (pe_lst (pa_cons pe_int pa_nil)) pa_nil)) pa_nil)))))))))) (XL.pe_fn G__law_take hr__law_take (by rfl) (pa_cons (pv 0) (pa_cons pe_int pa_nil))) (fun _ _ => rfl)))
      (pss_cons (ps_set (i := 4) nd rfl (Or.inl rfl) (pe_ix (ix_any (K := K) rfl) (pe_lst (pa_cons pe_non (pa_cons pe_int (pa_cons pe_dnewK (pa_cons pe_str (pa_cons (pe_lst pa_nil) (pa_cons (pe_op (op_addA (K := K) rfl) (pv 1) (pe_lst (pa_cons (pe_ix (ix_any (K := K) rfl) (pv 1) pe_int (fun _ _ => rfl)) pa_nil))) (pa_cons (pe_op (op_addA (K := K) rfl) (pv 1) (pe_lst (pa_cons pe_non pa_nil))) (pa_cons (pe_lst (pa_cons pe_str pa_nil)) (pa_cons (pe_lst (pa_cons pe_str (pa_cons pe_str pa_nil))) (pa_cons (pe_lst (pa_cons pe_str (pa_cons pe_str pa_nil))) pa_nil))))))))))) (XL.pe_fn G__law_take hr__law_take (by rfl) (pa_cons (pv 0) (pa_cons pe_int pa_nil))) (fun _ _ => rfl)))
      (pss_cons (ps_set (i := 5) nd rfl (Or.inl rfl) (pe_ix (ix_any (K := K) rfl) (pe_lst (pa_cons pe_non (pa_cons pe_int (pa_cons pe_dnewK (pa_cons (pe_lst (pa_cons pe_str pa_nil)) (pa_cons (XL.pe_fn G__law_odd_text hr__law_odd_text (by rfl) (pa_cons (pv 0) pa_nil)) (pa_cons pe_bl (pa_cons (pe_tup (pa_cons pe_str pa_nil)) pa_nil)))))))) (XL.pe_fn G__law_take hr__law_take (by rfl) (pa_cons (pv 0) (pa_cons pe_int pa_nil))) (fun _ _ => rfl)))
      (pss_cons (ps_set (i := 6) nd rfl (Or.inl rfl) (pe_lst (pa_cons (pe_tup (pa_cons pe_int (pa_cons (pv 4) (pa_cons (pv 3) (pa_cons pe_str (pa_cons (pv 4) pa_nil)))))) (pa_cons (pe_tup (pa_cons pe_int (pa_cons (pv 4) (pa_cons (pv 5) (pa_cons pe_str (pa_cons (pv 4) pa_nil)))))) (pa_cons (pe_tup (pa_cons pe_int (pa_cons (pv 1) (pa_cons (pv 3) (pa_cons pe_str (pa_cons (pv 3) pa_nil)))))) (pa_cons (pe_tup (pa_cons pe_int (pa_cons (pv 1) (pa_cons (pv 5) (pa_cons pe_str (pa_cons (pv 5) pa_nil)))))) pa_nil))))))
      (pss_cons (ps_for PassesOwn.never rfl (pi_list (pv 6)) (pg_seq 5 (K := K) rfl rfl (pgs_cons (pg_name (i := 7) nd rfl (Or.inl rfl)) (pgs_cons (pg_name (i := 8) nd rfl (Or.inl rfl)) (pgs_cons (pg_name (i := 9) nd rfl (Or.inl rfl)) (pgs_cons (pg_name (i := 10) nd rfl (Or.inl rfl)) (pgs_cons (pg_name (i := 11) nd rfl (Or.inl rfl)) pgs_nil)))))) (pss_cons (ps_set (i := 12) nd rfl (Or.inl rfl) (XL.pe_fn G__law_asked hr__law_asked (by rfl) (pa_cons (pv 7) (pa_cons (pv 8) (pa_cons (pv 9) pa_nil)))))
      (pss_one (ps_if (PW.pt (pw_or (pt_cmpR (op_neA (K := K) rfl hr.units) (pe_ix (ix_any (K := K) rfl) (pv 12) pe_int (fun _ _ => rfl)) (pv 10) (nomark _)) (pw_or1 (pt_not (pt_val (XL.pe_fn G__law_very hr__law_very (by rfl) (pa_cons (pe_ix (ix_any (K := K) rfl) (pv 12) pe_int (fun _ _ => rfl)) (pa_cons (pv 11) pa_nil)))))))) (pss_one (ps_ret pe_bl)) pss_nil))))
      (pss_one (ps_ret (pe_and (XL.pe_fn G__law_is_code hr__law_is_code (by rfl) (pa_cons (pv 1) pa_nil)) (pe_one (pe_not (XL.pe_fn G__law_is_code hr__law_is_code (by rfl) (pa_cons (pv 4) pa_nil))))))))))))), ?_⟩
    try dsimp only [cxOf, Cx.nox, Cx.wish]
    obtain ⟨s, cc, a, ws, its, rfl, hs, hc, ncs, gc, ha, nas, hin, hil, q⟩ := h
    have hz : sizeLine = 16777216 := sizeLine_eq
    have gl := gc.len
    have gp : 0 < ws.length := List.length_pos_iff.mpr gc.ne
    have nil : (natsV its).length = its.length := by unfold natsV; rw [List.length_map, List.length_map]
    have fn := fV_nats fun i hi => by have := hin i hi; omega
    have lsz : ∀ v : V, (natsV its ++ [v]).length ≤ 100 := fun v => by rw [List.length_append, nil]; simp; omega
    repeat walk_at "w"
    refine w_dnew ?_
    refine w_new fun d1 A1 n1 s1 f1 => ?_
    repeat walk_at "w"
    rw [TV_len]
    refine w_new fun q2 A2 n2 s2 f2 => ?_
    refine w_addL ((s1.trans s2) _ _ ha) f2 (by rw [nil, hz]; simp; omega) ?_
    refine w_new fun l3 A3 n3 s3 f3 => ?_
    have sA3 := (s1.trans s2).trans s3
    repeat walk_at "w"
    refine w_new fun q4 A4 n4 s4 f4 => ?_
    refine w_addL ((sA3.trans s4) _ _ ha) f4 (by rw [nil, hz]; simp; omega) ?_
    refine w_new fun l5 A5 n5 s5 f5 => ?_
    have sA5 := (sA3.trans s4).trans s5
    repeat walk_at "w"
    refine w_new fun q6 A6 n6 s6 f6 => ?_
    refine w_addL ((sA5.trans s6) _ _ ha) f6 (by rw [nil, hz]; simp; omega) ?_
    refine w_new fun l7 A7 n7 s7 f7 => ?_
    have sA7 := (sA5.trans s6).trans s7
    repeat walk_at "w"
    refine w_new fun q8 A8 n8 s8 f8 => ?_
    refine w_addL ((sA7.trans s8) _ _ ha) f8 (by rw [nil, hz]; simp; omega) ?_
    refine w_new fun l9 A9 n9 s9 f9 => ?_
    have sA9 := (sA7.trans s8).trans s9
    repeat walk_at "w"
    refine w_new fun b10 A10 n10 s10 f10 => ?_
    repeat walk_at "w"
    refine w_new fun a11 A11 n11 s11 f11 => ?_
    repeat walk_at "w"
    refine w_new fun D12 A12 n12 s12 f12 => ?_
    have sE := (s10.trans s11).trans s12
    have sA12 := sA9.trans sE
    have hsA : Stm A12 s := sA12.stm hs
    repeat walk_at "w"
    refine ⟨s, 9, rfl, hsA, by decide, by decide, fun z B z0 z1 hsB eB => ?_⟩
    have ne : ∀ {p : Addr} {X : Hp}, Same H X → X p = none → p ≠ s := fun e n => stm_ne (e.stm hs) n
    refine w_ixP (fun v => OddP K s ws.length A12 v) (SqL.of (eB _ _ (ne (sA9.trans (s10.trans s11)) n12) f12)) z0 z1 (fun x hx => ?_) fun odd hodd => ?_
    · simp only [List.mem_cons, List.mem_nil_iff, or_false] at hx
      rcases hx with rfl | rfl | rfl | rfl | rfl | rfl | rfl | rfl | rfl
      · exact odd_flat (.inl rfl)
      · exact odd_flat (.inr (.inl rfl))
      · exact odd_dic ((s2.trans (s3.trans (s4.trans (s5.trans (s6.trans (s7.trans (s8.trans (s9.trans sE)))))))) _ _ f1) (ne (Same.refl _) n1)
      · exact odd_flat (.inr (.inr (.inr ⟨[48], rfl, by decide, by decide⟩)))
      · exact odd_lst ((s4.trans (s5.trans (s6.trans (s7.trans (s8.trans (s9.trans sE)))))) _ _ f3) (ne (s1.trans s2) n3) (fV_app fn (.inr (.inl ⟨_, rfl, by omega, by omega⟩))) (lsz _) _ (List.mem_append_right _ (List.mem_singleton.mpr rfl)) (decide_eq_false (by omega))
      · exact odd_lst ((s6.trans (s7.trans (s8.trans (s9.trans sE)))) _ _ f5) (ne (sA3.trans s4) n5) (fV_app fn (.inr (.inl ⟨_, rfl, by omega, by omega⟩))) (lsz _) _ (List.mem_append_right _ (List.mem_singleton.mpr rfl)) (by show decide ((0 : Int) ≤ -1 ∧ (-1 : Int) < (ws.length : Int)) = false; exact decide_eq_false (by omega))
      · exact odd_lst ((s8.trans (s9.trans sE)) _ _ f7) (ne (sA5.trans s6) n7) (fV_app fn (.inr (.inr (.inl ⟨_, rfl⟩)))) (lsz _) _ (List.mem_append_right _ (List.mem_singleton.mpr rfl)) rfl
      · exact odd_lst (sE _ _ f9) (ne (sA7.trans s8) n9) (fV_app fn (.inl rfl)) (lsz _) _ (List.mem_append_right _ (List.mem_singleton.mpr rfl)) rfl
      · exact odd_nest (s12 _ _ f11) ((s11.trans s12) _ _ f10) (ne (sA9.trans s10) n11) (ne sA9 n10) (fun z => by rw [← z, f10] at n11; cases n11)
    have hoddB := hodd.up eB
    have hcB := eB _ _ ncs (sA12 _ _ hc)
    have bB : But s H B := (But.of sA12).trans eB
    clear hodd f12 f11 f10 f9 f8 f7 f6 f5 f4 f3 f2 f1 lsz
    obtain ⟨w0, hw0⟩ : ∃ w0, ws[0]? = some w0 := ⟨_, List.getElem?_eq_getElem gp⟩
    have gd0 : ws.getD 0 [] = w0 := by rw [List.getD_eq_getElem?_getD, hw0]; rfl
    have wl1 : ∀ o, (ws.map some ++ [o]).length = ws.length + 1 := fun o => by rw [List.length_append, List.length_map]; rfl
    repeat walk_at "w"
    refine w_dnew ?_
    refine w_new fun d1 C1 n1 t1 f1 => ?_
    repeat walk_at "w"
    refine w_new fun e2 C2 n2 t2 f2 => ?_
    have tC2 := t1.trans t2
    have hcC2 := tC2 _ _ hcB
    repeat walk_at "w"
    refine w_ixL (v := .str (S w0)) (SqL.of hcC2) (atI_of (by decide) (tv_at hw0)) ?_
    repeat walk_at "w"
    refine w_new fun q3 C3 n3 t3 f3 => ?_
    refine w_addL (t3 _ _ hcC2) f3 (by rw [TV_len, hz]; simp; omega) ?_
    refine w_new fun l4 C4 n4 t4 f4 => ?_
    have tC4 := (tC2.trans t3).trans t4
    repeat walk_at "w"
    refine w_new fun q5 C5 n5 t5 f5 => ?_
    refine w_addL ((tC4.trans t5) _ _ hcB) f5 (by rw [TV_len, hz]; simp; omega) ?_
    refine w_new fun l6 C6 n6 t6 f6 => ?_
    have tC6 := (tC4.trans t5).trans t6
    repeat walk_at "w"
    refine w_new fun l7 C7 n7 t7 f7 => ?_
    repeat walk_at "w"
    refine w_new fun l8 C8 n8 t8 f8 => ?_
    repeat walk_at "w"
    refine w_new fun l9 C9 n9 t9 f9 => ?_
    repeat walk_at "w"
    refine w_new fun D10 C10 n10 t10 f10 => ?_
    have tC9 := ((tC6.trans t7).trans t8).trans t9
    have tC10 := tC9.trans t10
    have hsC : Stm C10 s := tC10.stm hsB
    repeat walk_at "w"
    refine ⟨s, 10, rfl, hsC, by decide, by decide, fun zz E z0 z1 hsE eE => ?_⟩
    have neB : ∀ {p : Addr} {X : Hp}, Same B X → X p = none → p ≠ s := fun e n => stm_ne (e.stm hsB) n
    refine w_ixP (fun v => BadP K s C10 v) (SqL.of (eE _ _ (neB tC9 n10) f10)) z0 z1 (fun x hx => ?_) fun bad hbad => ?_
    · simp only [List.mem_cons, List.mem_nil_iff, or_false] at hx
      have f4' : C4 l4 = some (.lst ((ws.map some ++ [some w0]).map itV)) := by rw [← its_snoc]; exact f4
      have f6' : C6 l6 = some (.lst ((ws.map some ++ [none]).map itV)) := by rw [← its_snoc]; exact f6
      rcases hx with rfl | rfl | rfl | rfl | rfl | rfl | rfl | rfl | rfl | rfl
      · exact bad_flat (.inl rfl)
      · exact bad_flat (.inr (.inl rfl))
      · exact bad_dic ((t2.trans (t3.trans (t4.trans (t5.trans (t6.trans (t7.trans (t8.trans (t9.trans t10)))))))) _ _ f1) (neB (Same.refl _) n1)
      · exact bad_flat (.inr (.inr (.inr ⟨[48, 49], rfl, by decide, by decide⟩)))
      · exact bad_lst (its := []) ((t3.trans (t4.trans (t5.trans (t6.trans (t7.trans (t8.trans (t9.trans t10))))))) _ _ f2) (neB t1 n2) (fun w hw => by cases hw) (by decide) fun z => by have := z.1.1; simp at this
      · refine bad_lst ((t5.trans (t6.trans (t7.trans (t8.trans (t9.trans t10))))) _ _ f4') (neB (tC2.trans t3) n4) (its_small gc fun w hw => by rw [← Option.some.inj hw]; exact List.mem_of_getElem? hw0) (by rw [wl1]; omega) (not_pre (i := 0) (j := ws.length) (by rw [wl1]; omega) (by rw [wl1]; omega) (by omega) ?_)
        rw [List.map_append, List.map_map, show wOf ∘ some = id from rfl, List.map_id, List.getD_eq_getElem?_getD, List.getD_eq_getElem?_getD, List.getElem?_append_left gp, hw0, List.getElem?_append_right (Nat.le_refl _), Nat.sub_self]
        exact List.prefix_rfl
      · exact bad_lst ((t7.trans (t8.trans (t9.trans t10))) _ _ f6') (neB (tC4.trans t5) n6) (its_small gc fun w hw => by cases hw) (by rw [wl1]; omega) (not_ok (o := none) (List.mem_append_right _ (List.mem_singleton.mpr rfl)) rfl)
      · exact bad_lst (its := [some [50]]) ((t8.trans (t9.trans t10)) _ _ f7) (neB tC6 n7) (fun w hw => by cases (List.mem_singleton.mp hw); exact ⟨by decide, by decide⟩) (by decide) (not_ok (List.mem_singleton.mpr rfl) rfl)
      · exact bad_lst (its := [some [48], some [48, 49]]) ((t9.trans t10) _ _ f8) (neB (tC6.trans t7) n8) (fun w hw => by
          simp only [List.mem_cons, List.mem_nil_iff, or_false, Option.some.injEq] at hw
          rcases hw with rfl | rfl <;> exact ⟨by decide, by decide⟩) (by decide) (not_pre (i := 0) (j := 1) (by decide) (by decide) (by decide) ⟨[49], rfl⟩)
      · exact bad_lst (its := [some [], some [48]]) (t10 _ _ f9) (neB ((tC6.trans t7).trans t8) n9) (fun w hw => by
          simp only [List.mem_cons, List.mem_nil_iff, or_false, Option.some.injEq] at hw
          rcases hw with rfl | rfl <;> exact ⟨by decide, by decide⟩) (by decide) (not_pre (i := 0) (j := 1) (by decide) (by decide) (by decide) ⟨[48], rfl⟩)
    have bBE : But s B E := (But.of tC10).trans eE
    have hbadE := hbad.up eE
    have hoddE := hoddB.up bBE
    have hcE := bBE _ _ ncs hcB
    have bE : But s H E := bB.trans bBE
    clear hbad hoddB f10 f9 f8 f7 f6 f5 f4 f3 f2 f1
    repeat walk_at "w"
    refine w_dnew ?_
    refine w_new fun d1 F1 n1 u1 f1 => ?_
    repeat walk_at "w"
    refine w_new fun l2 F2 n2 u2 f2 => ?_
    have hsF2 : Stm F2 s := (u1.trans u2).stm hsE
    have neE : ∀ {p : Addr} {X : Hp}, Same E X → X p = none → p ≠ s := fun e n => stm_ne (e.stm hsE) n
    have nd1 := neE (Same.refl _) n1
    have nl2 := neE u1 n2
    repeat walk_at "w"
    refine ⟨s, rfl, hsF2, fun lt F3 hlt hsF3 e3 => ?_⟩
    repeat walk_at "w"
    refine w_new fun t4 F4 n4 u4 f4 => ?_
    have hsF4 : Stm F4 s := u4.stm hsF3
    have nt4 := stm_ne hsF3 n4
    repeat walk_at "w"
    refine w_new fun D5 F5 n5 u5 f5 => ?_
    have hsF5 : Stm F5 s := u5.stm hsF4
    have nD5 := stm_ne hsF4 n5
    repeat walk_at "w"
    refine ⟨s, 7, rfl, hsF5, by decide, by decide, fun zw G z0 z1 hsG eG => ?_⟩
    have oddT : ∀ l ∈ oddTexts, l.length ≤ 100 ∧ (∀ c ∈ l, c < 256) ∧ bitsL l = false := by decide
    refine w_ixP (fun v => WrP K s F5 v) (SqL.of (eG _ _ nD5 f5)) z0 z1 (fun x hx => ?_) fun wrong hwrong => ?_
    · simp only [List.mem_cons, List.mem_nil_iff, or_false] at hx
      rcases hx with rfl | rfl | rfl | rfl | rfl | rfl | rfl
      · exact wr_flat (.inl rfl) fun l z => by cases z
      · exact wr_flat (.inr (.inl rfl)) fun l z => by cases z
      · exact wr_dic ((u4.trans u5) _ _ (e3 _ _ nd1 (u2 _ _ f1))) nd1
      · exact wr_lst ((u4.trans u5) _ _ (e3 _ _ nl2 f2)) nl2 (fun y hy => by rw [List.mem_singleton.mp hy]; exact .inr (.inr (.inr ⟨[48], rfl, by decide, by decide⟩))) (by decide)
      · obtain ⟨o1, o2, o3⟩ := oddT lt hlt
        exact wr_flat (.inr (.inr (.inr ⟨lt, rfl, o1, o2⟩))) fun l z => by
          cases S_inj (by injection z : S lt = S l)
          exact o3
      · exact wr_flat (.inr (.inr (.inl ⟨_, rfl⟩))) fun l z => by cases z
      · exact wr_tup (u5 _ _ f4) nt4
    have bEG : But s E G := (((But.of (u1.trans u2)).trans e3).trans (But.of (u4.trans u5))).trans eG
    have hwrG := hwrong.up eG
    have hbadG := hbadE.up bEG
    have hoddG := hoddE.up bEG
    have hcG := bEG _ _ ncs hcE
    have bG : But s H G := bE.trans bEG
    have hok := gc_code (by decide) gc
    clear hwrong hbadE hoddE f5 f4 f2 f1 eG hsF5 hsF4 e3 hsF3 hsF2
    repeat walk_at "w"
    refine w_new fun T1 G1 n1 v1 f1 => ?_
    repeat walk_at "w"
    refine w_new fun T2 G2 n2 v2 f2 => ?_
    repeat walk_at "w"
    refine w_new fun T3 G3 n3 v3 f3 => ?_
    repeat walk_at "w"
    refine w_new fun T4 G4 n4 v4 f4 => ?_
    repeat walk_at "w"
    refine w_new fun L G5 n5 v5 f5 => ?_
    have v15 := v2.trans (v3.trans (v4.trans v5))
    have vG := v1.trans v15
    have hbad5 := hbadG.up (But.of vG)
    have hodd5 := hoddG.up (But.of vG)
    have hwr5 := hwrG.up (But.of vG)
    have hc5 := vG _ _ hcG
    have hs5 : Stm G5 s := vG.stm hsG
    have b5 : But s H G5 := bG.trans (But.of vG)
    have cases_ : ∀ x ∈ [V.ref T1, .ref T2, .ref T3, .ref T4], CaseP K s G5 x := fun x hx => by
      simp only [List.mem_cons, List.mem_nil_iff, or_false] at hx
      rcases hx with rfl | rfl | rfl | rfl
      · refine ⟨T1, 0, bad, odd, "code", bad, rfl, v15 _ _ f1, fun H' e => ?_⟩
        obtain ⟨⟨o, h1, h2, _⟩, h3⟩ := hbad5 H' e
        exact ⟨h3, fun Q E fin => ⟨0, bad, odd, o, rfl, h1, fun _ => fin, fun z => by rw [h2] at z; cases z⟩⟩
      · refine ⟨T2, 1, bad, wrong, "code", bad, rfl, (v3.trans (v4.trans v5)) _ _ f2, fun H' e => ?_⟩
        obtain ⟨⟨o, h1, h2, _⟩, h3⟩ := hbad5 H' e
        exact ⟨h3, fun Q E fin => ⟨1, bad, wrong, o, rfl, h1, fun _ => fin, fun z => by rw [h2] at z; cases z⟩⟩
      · refine ⟨T3, 0, .ref cc, odd, "bits", odd, rfl, (v4.trans v5) _ _ f3, fun H' e => ?_⟩
        obtain ⟨⟨p, h1, h2⟩, h3⟩ := hodd5 H' e
        have hc' := e _ _ ncs hc5
        exact ⟨h3, fun Q E fin => ⟨0, .ref cc, odd, _, rfl, code_L hc' gc, (fun z => by rw [hok] at z; cases z), fun _ => ⟨fun _ => ⟨p, h1, ws, rfl, h2, fin⟩, fun z => (z rfl).elim⟩⟩⟩
      · refine ⟨T4, 1, .ref cc, wrong, "bits", wrong, rfl, v5 _ _ f4, fun H' e => ?_⟩
        obtain ⟨h1, h2, h3⟩ := hwr5 H' e
        have hc' := e _ _ ncs hc5
        exact ⟨h3, fun Q E fin => ⟨1, .ref cc, wrong, _, rfl, code_L hc' gc, (fun z => by rw [hok] at z; cases z), fun _ => ⟨(fun z => by cases z), fun _ => ⟨h1, cc, ws, 9, rfl, hc', gc, by decide, fun _ => fin, fun l its e hb => by
          rw [h2 l e] at hb; cases hb⟩⟩⟩⟩
    repeat walk_at "w"
    refine fl_list [.ref T1, .ref T2, .ref T3, .ref T4] (fun i σ H' => ∃ o7 o8 o9 o10 o11 o12, σ = [some (.ref s), some (.ref cc), some (.ref a), some odd, some bad, some wrong, some (.ref L), o7, o8, o9, o10, o11, o12] ∧ Same G5 H') (SqL.of f5) ⟨_, _, _, _, _, _, rfl, Same.refl _⟩ (fun i σ H' hi hp => ?_) (fun i x σ H6 hi hp => ?_) (fun σ H6 hp => ?_)
    · obtain ⟨_, _, _, _, _, _, _, e⟩ := hp
      exact SqL.of (e _ _ f5)
    · obtain ⟨o7, o8, o9, o10, o11, o12, rfl, e6⟩ := hp
      obtain ⟨T, way, one, thing, word, given, rfl, hT, hask⟩ := cases_ x (List.mem_of_getElem? hi)
      have hT6 := e6 _ _ hT
      refine w_seqT (SqT.of hT6) rfl ?_
      repeat walk_at "w"
      refine (hask H6 (But.of e6)).2 _ _ fun P1 H7 hP e7 nP => ?_
      repeat walk_at "w"
      rw [show (!decide (word = word)) = false by simp]
      repeat walk_at "w"
      refine ⟨given, rfl, (hask H7 (But.of (e6.trans e7))).1, fun H8 s8 => ?_⟩
      repeat walk_at "w"
      exact ⟨_, _, _, _, _, _, rfl, e6.trans (e7.trans s8)⟩
    · obtain ⟨o7, o8, o9, o10, o11, o12, rfl, e6⟩ := hp
      have hc6 := e6 _ _ hc5
      have bf : But s H H6 := b5.trans (But.of e6)
      have hs6 : Stm H6 s := e6.stm hs5
      repeat walk_at "w"
      refine ⟨.ref cc, some (ws.map some), rfl, .lst (by rw [← TV_it]; exact hc6) (by rw [List.length_map]; omega) (fun w hm => by
        obtain ⟨x1, x2⟩ := its_small (o := none) gc (fun w z => by cases z) w (List.mem_append_left _ hm)
        exact ⟨by omega, x2⟩), fun H7 s7 => ?_⟩
      rw [hok]
      refine ⟨_, rfl, ?_⟩
      repeat walk_at "w"
      obtain ⟨⟨o, _, h2, h3⟩, _⟩ := hbad5 H7 (But.of (e6.trans s7))
      refine ⟨bad, o, rfl, h3, fun H8 s8 => ?_⟩
      rw [h2]
      repeat walk_at "w"
      exact q H8 (s8.stm (s7.stm hs6)) (bf.trans (But.of (s7.trans s8)))
end

end J
namespace J
open PySem PySem.Spec PyProof.Rows L2

local macro_rules | `(tactic| walk_at "ty") => `(tactic| first
  | with_reducible exact ty_int
  | with_reducible exact ty_bl
  | with_reducible exact ty_str
  | with_reducible exact ty_non
  | ((with_reducible refine' ty_lst ?vv); (case vv => walk_at "tr"))
  | ((with_reducible refine' ty_sqT ?vv); (case vv => walk_at "tr"))
  | ((with_reducible refine' ty_dic ?vv); (case vv => walk_at "tr")))
local macro_rules | `(tactic| walk_at "ix") => `(tactic| first | exact at0 | exact at1 | exact at2 | assumption)
local macro_rules | `(tactic| walk_at "size") => `(tactic| first
  | assumption
  | (show _ < sizeLine; rw [sizeLine_eq]; (try simp only [List.length_cons, List.length_nil, List.length_append, List.length_map]); omega)
  | (show _ ≤ sizeLine; rw [sizeLine_eq]; (try simp only [List.length_cons, List.length_nil, List.length_append, List.length_map]); omega))
local macro_rules | `(tactic| walk_at "side") => `(tactic| first
  | assumption
  | ((with_reducible refine cdw ?_ ?_) <;> omega)
  | omega
  | (exact ⟨by omega, by omega⟩)
  | (exact Or.inl ⟨by omega, by omega⟩)
  | (exact Or.inr ⟨by omega, by omega⟩)
  | decide
  | (simp only [List.length_cons, List.length_nil, List.length_append, List.length_map]; omega)
  | (show _ ≤ _; decide))
local macro_rules | `(tactic| walk_at "as") => `(tactic| with_reducible assumption)
local macro_rules | `(tactic| walk_at "tr") => `(tactic| first
  | with_reducible assumption
  | with_reducible exact upd_same
  | ((with_reducible refine' SqL.of ?hh); (case hh => walk_at "as"))
  | ((with_reducible refine' SqT.of ?hh); (case hh => walk_at "as"))
  | ((with_reducible refine' Same.stm ?ee ?gg); (case ee => walk_at "as"); (case gg => walk_at "tr"))
  | ((with_reducible refine' Same.sqT ?ee ?gg); (case ee => walk_at "as"); (case gg => walk_at "tr"))
  | ((with_reducible refine' Same.sqL ?ee ?gg); (case ee => walk_at "as"); (case gg => walk_at "tr"))
  | ((with_reducible refine' Same.at ?ee ?gg); (case ee => walk_at "as"); (case gg => walk_at "tr"))
  | ((with_reducible refine' But.stm ?ee ?ff ?gg); (case ee => walk_at "as"); (case ff => walk_at "ne"); (case gg => walk_at "tr"))
  | ((with_reducible refine' But.tup ?ee ?ff ?gg); (case ee => walk_at "as"); (case ff => walk_at "tr1"); (case gg => walk_at "tr"))
  | ((with_reducible refine' But.sqT ?ee ?ff ?gg); (case ee => walk_at "as"); (case ff => walk_at "tr1"); (case gg => walk_at "tr"))
  | ((with_reducible refine' But.tupL ?ee ?ff ?gg); (case ee => walk_at "as"); (case ff => walk_at "tr1"); (case gg => walk_at "tr"))
  | ((with_reducible refine' But.sqTL ?ee ?ff ?gg); (case ee => walk_at "as"); (case ff => walk_at "tr1"); (case gg => walk_at "tr"))
  | ((with_reducible refine' But.sqL ?ee ?ff ?gg); (case ee => walk_at "as"); (case ff => walk_at "ne"); (case gg => walk_at "tr"))
  | ((with_reducible refine' But.at ?ee ?ff ?gg); (case ee => walk_at "as"); (case ff => walk_at "ne"); (case gg => walk_at "tr")))
local macro_rules | `(tactic| walk_at "ts") => `(tactic| first
  | with_reducible assumption
  | with_reducible exact TS.refl _
  | ((with_reducible refine' TS.trans ?gg (TS.of ?ee)); (case ee => walk_at "as"); (case gg => walk_at "ts"))
  | ((with_reducible refine' TS.trans ?gg (TS.butS ?ee ?ff)); (case ee => walk_at "as"); (case ff => walk_at "tr1"); (case gg => walk_at "ts"))
  | ((with_reducible refine' TS.trans ?gg (TS.butL ?ee ?ff)); (case ee => walk_at "as"); (case ff => walk_at "tr1"); (case gg => walk_at "ts"))
  | ((with_reducible refine' TS.trans ?gg (TS.butI ?ee ?ff)); (case ee => walk_at "as"); (case ff => walk_at "tr1"); (case gg => walk_at "ts")))
local macro_rules | `(tactic| walk_at "sm") => `(tactic| first
  | with_reducible assumption
  | with_reducible exact Same.refl _
  | ((with_reducible refine' Same.trans ?gg ?ee); (case ee => walk_at "as"); (case gg => walk_at "sm"))
  | ((with_reducible refine' But.new ?gg ?nn ?ee); (case ee => walk_at "as"); (case nn => walk_at "fr"); (case gg => walk_at "sm")))
local macro_rules | `(tactic| walk_at "fr") => `(tactic| first
  | with_reducible assumption
  | ((with_reducible refine' Same.back ?ee ?nn); (case nn => walk_at "as"); (case ee => walk_at "sm"))
  | ((with_reducible refine' But.back ?ee ?ff ?nn); (case nn => walk_at "as"); (case ff => walk_at "ne0"); (case ee => walk_at "bu")))
local macro_rules | `(tactic| walk_at "bu") => `(tactic| first
  | with_reducible assumption
  | with_reducible exact But.refl _ _
  | ((with_reducible refine' But.trans ?gg ?ee); (case ee => walk_at "as"); (case gg => walk_at "bu"))
  | ((with_reducible refine' But.trans ?gg (But.of ?ee)); (case ee => walk_at "as"); (case gg => walk_at "bu"))
  | ((with_reducible refine' But.new2 ?gg ?nn ?ee); (case ee => walk_at "as"); (case nn => walk_at "frB"); (case gg => walk_at "bu")))
local macro_rules | `(tactic| walk_at "frB") => `(tactic| first
  | with_reducible assumption
  | ((with_reducible refine' Same.back ?ee ?nn); (case nn => walk_at "as"); (case ee => walk_at "sm"))
  | ((with_reducible refine' But.back' ?ee ?ff ?nn); (case nn => walk_at "as"); (case ee => walk_at "bu"); (case ff => walk_at "tr1")))
local macro_rules | `(tactic| walk_at "tr1") => `(tactic| first
  | with_reducible assumption
  | ((with_reducible refine' Same.stm ?ee ?gg); (case ee => walk_at "as"); (case gg => walk_at "tr1"))
  | ((with_reducible refine' Same.at ?ee ?gg); (case ee => walk_at "as"); (case gg => walk_at "tr1"))
  | ((with_reducible refine' But.at ?ee ?ff ?gg); (case ee => walk_at "as"); (case ff => walk_at "ne0"); (case gg => walk_at "tr1"))
  | ((with_reducible refine' But.stm ?ee ?ff ?gg); (case ee => walk_at "as"); (case ff => walk_at "ne0"); (case gg => walk_at "tr1")))
local macro_rules | `(tactic| walk_at "ne0") => `(tactic| first
  | with_reducible assumption
  | (with_reducible apply Ne.symm; with_reducible assumption))
local macro_rules | `(tactic| walk_at "ne") => `(tactic| first
  | with_reducible assumption
  | (with_reducible apply Ne.symm; with_reducible assumption)
  | ((with_reducible refine' stm_ne ?hh ?nn); (case nn => walk_at "as"); (case hh => walk_at "tr1"))
  | ((with_reducible refine' ne_of_none ?hh ?nn); (case nn => walk_at "as"); (case hh => walk_at "tr1"))
  | ((with_reducible apply Ne.symm); (with_reducible refine' ne_of_none ?hh ?nn); (case nn => walk_at "as"); (case hh => walk_at "tr1")))
local macro_rules | `(tactic| walk_at "v") => `(tactic| first
  | with_reducible refine w_seq ?_
  | ((with_reducible refine' w_var ?vv ?_); (case vv => exact rfl))
  | with_reducible refine w_c ?_
  | with_reducible refine w_op ?_
  | with_reducible refine w_asg ?_
  | with_reducible refine w_gName ?_
  | with_reducible refine w_ret ?_
  | with_reducible refine w_ifS ?_
  | with_reducible refine w_drop ?_
  | with_reducible refine w_next ?_
  | with_reducible refine w_cons ?_
  | with_reducible refine w_nil ?_
  | with_reducible refine w_call ?_
  | with_reducible refine w_cb ?_
  | with_reducible refine w_rI0 ?_
  | with_reducible refine w_addI ?_
  | with_reducible refine w_eqI ?_
  | with_reducible refine w_neI ?_
  | with_reducible refine w_eqS ?_
  | with_reducible refine w_neS ?_
  | with_reducible refine w_eqB ?_
  | with_reducible refine w_neB ?_
  | with_reducible refine w_chain ?_
  | with_reducible refine w_test ?_
  | with_reducible refine w_tB ?_
  | with_reducible refine w_bl ?_
  | ((with_reducible refine' w_mulI ?vv ?_); (case vv => walk_at "side"))
  | ((with_reducible refine' w_rI ?vv ?_); (case vv => walk_at "side"))
  | with_reducible refine w_int1 ?_
  | with_reducible refine w_int1b ?_
  | with_reducible refine w_tup ?_
  | with_reducible refine w_lst ?_
  | with_reducible refine w_un ?_
  | with_reducible refine w_rU ?_
  | with_reducible refine w_not ?_
  | with_reducible refine w_notV ?_
  | with_reducible refine w_ifE ?_
  | with_reducible refine w_nT ?_
  | with_reducible refine w_nF ?_
  | with_reducible refine iteT ?_
  | with_reducible refine iteF ?_
  | ((with_reducible refine' w_ixT ?vv ?ww ?_); (case vv => walk_at "tr"); (case ww => walk_at "ix"))
  | ((with_reducible refine' w_ixL ?vv ?ww ?_); (case vv => walk_at "tr"); (case ww => walk_at "ix"))
  | with_reducible refine w_gSub ?_
  | ((with_reducible refine' w_setL ?vv ?ww ?_); (case vv => walk_at "tr"); (case ww => first | rfl | decide | assumption))
  | ((with_reducible refine' w_lenL ?vv ?_); (case vv => walk_at "tr"))
  | ((with_reducible refine' w_lenT ?vv ?_); (case vv => walk_at "tr"))
  | with_reducible refine w_max2 ?_
  | with_reducible refine w_max3 ?_
  | with_reducible refine w_din ?_
  | with_reducible refine w_dnotin ?_
  | with_reducible refine w_dput ?_
  | with_reducible refine w_min2 ?_
  | with_reducible refine w_bm ?_
  | with_reducible refine w_bm0 ?_
  | ((with_reducible refine' w_tyL ?vv ?_); (case vv => walk_at "tr"))
  | ((with_reducible refine' w_append ?vv ?ww ?_); (case vv => walk_at "tr"); (case ww => walk_at "size"))
  | ((with_reducible refine' w_size ?vv ?_); (case vv => walk_at "size"))
  | with_reducible refine w_forL ?_
  | with_reducible refine w_forT ?_
  | with_reducible refine w_forR1 ?_
  | with_reducible refine w_forR2 ?_
  | with_reducible refine w_lcL ?_
  | with_reducible refine w_lcT ?_
  | with_reducible refine w_lcR1 ?_
  | with_reducible refine w_yes ?_
  | with_reducible refine w_sl ?_
  | with_reducible refine w_noPart ?_
  | with_reducible refine w_part ?_
  | with_reducible refine w_int ?_
  | ((with_reducible refine' w_slL ?vv ?_); (case vv => walk_at "tr"))
  | ((with_reducible refine' w_seqL ?vv ?ww ?_); (case vv => walk_at "tr"); (case ww => rfl))
  | ((with_reducible refine' w_seqT ?vv ?ww ?_); (case vv => walk_at "tr"); (case ww => rfl))
  | with_reducible refine w_gNil ?_
  | with_reducible refine w_gCons ?_
  | with_reducible refine w_forZ ?_
  | with_reducible refine w_forM ?_
  | with_reducible refine w_forE ?_
  | with_reducible refine w_forV ?_
  | with_reducible refine w_lcZ ?_
  | with_reducible refine w_lcE ?_
  | ((with_reducible refine' w_isi (b := true) ?vv ?ww ?_); (case vv => walk_at "ty"); (case ww => decide +kernel))
  | ((with_reducible refine' w_isi (b := false) ?vv ?ww ?_); (case vv => walk_at "ty"); (case ww => decide +kernel))
  | with_reducible refine w_revL ?_
  | with_reducible refine w_pairN ?_
  | with_reducible refine w_pairC ?_
  | with_reducible refine w_dget ?_
  | with_reducible refine w_met ?_
  | ((with_reducible refine' w_metAt ?vv ?ww ?_); (case vv => walk_at "tr"); (case ww => rfl))
  | with_reducible refine w_mkI ?_
  | with_reducible refine w_fld ?_
  | ((with_reducible refine' w_fldAt ?vv ?cc ?nn ?ww ?_); (case vv => walk_at "tr"); (case cc => walk_at "cls"); (case nn => walk_at "na"); (case ww => rfl))
  | with_reducible refine w_sfld ?_
  | ((with_reducible refine' w_sfldAt ?vv ?cc ?nn ?ll ?ee ?_); (case vv => walk_at "tr"); (case cc => walk_at "cls"); (case nn => walk_at "na"); (case ll => simp); (case ee => rfl))
  | ((with_reducible refine' w_tupL ?vv ?_); (case vv => walk_at "tr"))
  | ((with_reducible refine' w_tupT ?vv ?_); (case vv => walk_at "tr"))
  | ((with_reducible refine' w_listL ?vv ?_); (case vv => walk_at "tr"))
  | ((with_reducible refine' w_listT ?vv ?_); (case vv => walk_at "tr"))
  | with_reducible refine w_tyS ?_
  | with_reducible refine w_lcZM ?_
  | with_reducible refine w_js ?_
  | with_reducible refine w_jsN ?_
  | ((with_reducible refine' w_jsP ?vv ?_); (case vv => walk_at "size"))
  | with_reducible refine w_fmt ?_
  | with_reducible refine w_forRR ?_
  | with_reducible refine w_retN ?_
  | with_reducible refine w_break ?_
  | with_reducible refine w_cont ?_)
local macro_rules | `(tactic| walk_at "w") => `(tactic| first
  | walk_at "v"
  | with_reducible refine w_or ?_
  | with_reducible refine w_and ?_
  | with_reducible refine w_andV ?_
  | with_reducible refine w_orV ?_)
local macro_rules | `(tactic| walk_at "wd") => `(tactic| first
  | walk_at "w"
  | ((with_reducible refine' w_decT ?vv ?_); (case vv => decide +kernel))
  | ((with_reducible refine' w_decF ?vv ?_); (case vv => decide +kernel)))
local macro_rules | `(tactic| walk_at "tz") => `(tactic| (intro S z; (repeat walk_at "w"); exact z))
local macro_rules | `(tactic| walk_at "wf") => `(tactic| first
  | walk_at "wd"
  | ((with_reducible refine' w_decF ?vv ?_); (case vv => with_reducible assumption)))
/-! ### k82: the law -/
open SX
section
variable {P : Program} {w : World} {K : PySem.W.Frag} {mg : Str → Option Value}
theorem ok_law [c : Facts K mg] (G__law_cell : XL.Fn P w K mg "_law_cell" 1 ["script", "k"] ((spCell K))) (G__law_drawn : XL.Fn P w K mg "_law_drawn" 4 ["stream"] (spDrawn)) (G__law_refused_right : XL.Fn P w K mg "_law_refused_right" 10 ["stream", "code", "items"] ((spRefused K))) (G__law_right : XL.Fn P w K mg "_law_right" 8 ["stream", "code", "items"] ((spRight K))) (G__law_stream : XL.Fn P w K mg "_law_stream" 1 ["cell"] (spStream)) (G__law_take : XL.Fn P w K mg "_law_take" 1 ["stream", "many"] (spTake)) : XL.Fn P w K mg "law" 11 ["script"] ((spLaw K)) := by
  obtain ⟨fd, F⟩ := c.d_law
  refine XL.Fn.mk' F c.g_law sc_law (k := 10) (fun vs H Q E h => ?_) (fun _ _ _ _ _ _ us hl => match us, hl with | [_], _ => rfl) (fun base cdv A outer s H vs Q E hr h => ?_)
  · exact len_law h
  · have nd := sc_law.nd
    have hu := hu_of hr.r
    have hr__law_cell : XL.Rm 1 _ := hr.mono (by omega)
    have hr__law_drawn : XL.Rm 4 _ := hr.mono (by omega)
    have hr__law_refused_right : XL.Rm 10 _ := hr.mono (by omega)
    have hr__law_right : XL.Rm 8 _ := hr.mono (by omega)
    have hr__law_stream : XL.Rm 1 _ := hr.mono (by omega)
    have hr__law_take : XL.Rm 1 _ := hr.mono (by omega)
    refine ⟨_, (PSs.nox (pss_cons (ps_for PassesOwn.never rfl (pi_range1 (by rfl) c.f_range (pa_cons (pe_callB (call_max2A rfl) (by rfl) c.f_max boot_max (pa_cons pe_int (pa_cons (pe_callB (call_min2A rfl) (by rfl) c.f_min boot_min (pa_cons pe_int (pa_cons (pe_callB (call_lenA (K := K) rfl) (by rfl) c.f_len boot_len (pa_cons (pv 0) pa_nil)) pa_nil))) pa_nil))) pa_nil)) (pg_name (i := 1) nd rfl (Or.inl rfl)) (pss_cons (ps_set (i := 2) nd rfl (Or.inr rfl) (XL.pe_fn G__law_stream hr__law_stream (by rfl) (pa_cons (XL.pe_fn G__law_cell hr__law_cell (by rfl) (pa_cons (pv 0) (pa_cons (pv 1) pa_nil))) pa_nil)))
      (pss_cons (ps_set (i := 3) nd rfl (Or.inr rfl) (XL.pe_fn G__law_drawn hr__law_drawn (by rfl) (pa_cons (pv 2) pa_nil)))
      (pss_cons (ps_setLc (i := 4) (own := [("turn", 5)]) rfl nd rfl rfl (sw_true rfl rfl rfl (by decide +kernel)) (pi_range1 (by rfl) c.f_range (pa_cons (pe_ix (ix_any (K := K) rfl) (pe_lst (pa_cons (XL.pe_fn G__law_take hr__law_take (by rfl) (pa_cons (pv 2) (pa_cons pe_int pa_nil))) (pa_cons (XL.pe_fn G__law_take hr__law_take (by rfl) (pa_cons (pv 2) (pa_cons pe_int pa_nil))) pa_nil))) (XL.pe_fn G__law_take hr__law_take (by rfl) (pa_cons (pv 2) (pa_cons pe_int pa_nil))) (fun _ _ => rfl)) pa_nil)) (blkOk_by (N := N_law) (sc := defScope s_law) (by decide +kernel)) (fun _ _ _ _ _ => (pg_name (i := 5) nd rfl (Or.inl rfl))) (fun _ _ _ _ _ => pts_nil) (fun _ _ _ _ _ => (XL.pe_fn G__law_take hr__law_take (by rfl) (pa_cons (pv 2) (pa_cons (pe_callB (call_lenA (K := K) rfl) (by rfl) c.f_len boot_len (pa_cons (pv 3) pa_nil)) pa_nil)))))
      (pss_one (ps_if (PW.pt (pw_or (pt_not (pt_val (XL.pe_fn G__law_right hr__law_right (by rfl) (pa_cons (pv 2) (pa_cons (pv 3) (pa_cons (pv 4) pa_nil)))))) (pw_or1 (pt_not (pt_val (XL.pe_fn G__law_refused_right hr__law_refused_right (by rfl) (pa_cons (pv 2) (pa_cons (pv 3) (pa_cons (pv 4) pa_nil))))))))) (pss_one (ps_ret pe_bl)) pss_nil))))))
      (pss_one (ps_ret pe_bl)))), ?_⟩
    try dsimp only [cxOf, Cx.nox, Cx.wish]
    obtain ⟨a, ns, rfl, hS, hl, q⟩ := h
    have hz : sizeLine = 16777216 := sizeLine_eq
    repeat walk_at "w"
    refine fl_rng1 (fun i σ H' => ∃ o1 o2 o3 o4, σ = [some (.ref a), o1, o2, o3, o4, none] ∧ SqL K H' a (ns.map V.int)) (by omega) (by omega) ⟨_, _, _, _, rfl, hS⟩ (fun i σ H1 hi hp => ?_) (fun σ H1 hp => ?_)
    · obtain ⟨o1, o2, o3, o4, rfl, hS1⟩ := hp
      repeat walk_at "w"
      refine ⟨a, ns, i, rfl, hS1, by omega, fun c => ?_⟩
      repeat walk_at "w"
      refine ⟨c, rfl, fun s H2 s2 n2 hs2 => ?_⟩
      repeat walk_at "w"
      refine ⟨s, rfl, hs2, fun C ws H3 hC gc hs3 b3 nC => ?_⟩
      have nCs : C ≠ s := stm_ne hs2 nC
      have gl := gc.len
      have gp : 0 < ws.length := List.length_pos_iff.mpr gc.ne
      repeat walk_at "w"
      refine ⟨s, 9, rfl, hs3, by decide, by decide, fun x H4 x0 x1 hs4 e4 => ?_⟩
      repeat walk_at "w"
      refine ⟨s, 61, rfl, hs4, by decide, by decide, fun y H5 y0 y1 hs5 e5 => ?_⟩
      repeat walk_at "w"
      refine w_new fun L H6 n6 s6 f6 => ?_
      have hs6 : Stm H6 s := s6.stm hs5
      repeat walk_at "w"
      refine ⟨s, 2, rfl, hs6, by decide, by decide, fun z H7 z0 z1 hs7 e7 => ?_⟩
      have hL7 := e7 _ _ (stm_ne hs5 n6) f6
      have b37 : But s H3 H7 := ((e4.trans e5).trans (But.of s6)).trans e7
      have hC7 := b37 _ _ nCs hC
      refine w_ixP (fun v => ∃ m : Int, v = .int m ∧ 0 ≤ m ∧ m ≤ 60) (SqL.of hL7) z0 z1 (fun v hv => ?_) fun v hv => ?_
      · simp only [List.mem_cons, List.mem_nil_iff, or_false] at hv
        rcases hv with rfl | rfl
        · exact ⟨x, rfl, x0, by omega⟩
        · exact ⟨y, rfl, y0, by omega⟩
      obtain ⟨m, rfl, m0, m1⟩ := hv
      repeat walk_at "w"
      refine lc_R1 (fun D j ys H' => Stm H' s ∧ But s H7 H' ∧ D ≠ s ∧ ∃ its : List Nat, ys = natsV its ∧ (∀ i ∈ its, i < ws.length) ∧ its.length = j) (by omega) (by omega) (fun D H' hD e f => ⟨e.stm hs7, But.of e, stm_ne hs7 hD, [], rfl, (fun _ h => nomatch h), rfl⟩) (fun D hD j ys H8 hj hll hy hp => ?_) (fun D hD ys H8 hll hy hp => ?_)
      · obtain ⟨hs8, b8, nD, its, rfl, hin, hil⟩ := hp
        have hC8 := b8 _ _ nCs hC7
        repeat walk_at "w"
        rw [TV_len]
        refine ⟨s, (ws.length : Nat), rfl, hs8, by omega, by omega, fun d H9 d0 d1 hs9 e9 => ?_⟩
        have hy9 := e9 _ _ nD hy
        refine lc_end hy9 hll (by rw [hz]; unfold natsV; rw [List.length_map, List.length_map]; omega) fun H10 e10 f10 => ⟨e10.stm nD.symm hs9, But.new2 (b8.trans e9) hD e10, nD, its ++ [d.toNat], ?_, fun i hi => ?_, by rw [List.length_append, hil]; rfl⟩
        · unfold natsV
          rw [List.map_append, List.map_append]
          show _ ++ [V.int d] = _ ++ [V.int ((d.toNat : Nat) : Int)]
          rw [show ((d.toNat : Nat) : Int) = d by omega]
        · rcases List.mem_append.mp hi with h | h
          · exact hin i h
          · rw [List.mem_singleton.mp h]; omega
      · obtain ⟨hs8, b8, nD, its, rfl, hin, hil⟩ := hp
        have hC8 := b8 _ _ nCs hC7
        have hl60 : its.length ≤ 60 := by omega
        repeat walk_at "w"
        refine ⟨s, C, D, ws, its, rfl, hs8, hC8, gc, hy, hin, hl60, fun H9 hs9 e9 => ?_⟩
        repeat walk_at "w"
        refine ⟨s, C, D, ws, its, rfl, hs9, e9 _ _ nCs hC8, nCs, gc, e9 _ _ nD hy, nD, hin, hl60, fun H10 hs10 e10 => ?_⟩
        repeat walk_at "w"
        exact ⟨_, _, _, _, rfl, (But.new s2 n2 ((b3.trans b37).trans (b8.trans (e9.trans e10)))).sqL hS1⟩
    · obtain ⟨o1, o2, o3, o4, rfl, hS1⟩ := hp
      repeat walk_at "w"
      exact q _
end

end J
namespace J
open PySem PySem.Spec PyProof.Rows L2
theorem all_ok {P : Program} {w : World} {K : PySem.W.Frag} {mg : Str → Option Value} [c : Facts K mg] : XL.Fn P w K mg "law" 11 ["script"] (spLaw K) := by
  have G__law_cell := ok_law_cell (P := P) (w := w) (K := K)
  have G__law_take := ok_law_take (P := P) (w := w) (K := K)
  have G__law_drawn := ok_law_drawn (P := P) (w := w) (K := K) G__law_take
  have G_is_whole := ok_is_whole (P := P) (w := w) (K := K)
  have G_is_bits := ok_is_bits (P := P) (w := w) (K := K)
  have G_is_code := ok_is_code (P := P) (w := w) (K := K) G_is_bits
  obtain ⟨fd_NoCode___init__, F_NoCode___init__⟩ := c.dm_NoCode___init__
  have GM_NoCode___init__ := ok_NoCodeu_initu (P := P) (w := w) (K := K) F_NoCode___init__
  have G_need_code := ok_need_code (P := P) (w := w) (K := K) G_is_code GM_NoCode___init__
  obtain ⟨fd_NoBits___init__, F_NoBits___init__⟩ := c.dm_NoBits___init__
  have GM_NoBits___init__ := ok_NoBitsu_initu (P := P) (w := w) (K := K) F_NoBits___init__
  have G_bits_of := ok_bits_of (P := P) (w := w) (K := K) G_is_whole G_need_code GM_NoBits___init__
  have G_item_at := ok_item_at (P := P) (w := w) (K := K)
  have G_read_items := ok_read_items (P := P) (w := w) (K := K) G_is_bits G_item_at G_need_code GM_NoBits___init__
  have G__law_asked := ok_law_asked (P := P) (w := w) (K := K) G_bits_of G_read_items
  have G__law_is_code := ok_law_is_code (P := P) (w := w) (K := K)
  have G__law_odd_text := ok_law_odd_text (P := P) (w := w) (K := K) G__law_take
  have G__law_very := ok_law_very (P := P) (w := w) (K := K)
  have G__law_refused_right := ok_law_refused_right (P := P) (w := w) (K := K) G__law_asked G__law_is_code G__law_odd_text G__law_take G__law_very
  have G__law_is := ok_law_is (P := P) (w := w) (K := K) 3
  have G__law_read := ok_law_read (P := P) (w := w) (K := K)
  have G__law_right := ok_law_right (P := P) (w := w) (K := K) G__law_asked G__law_is G__law_read G__law_take G_bits_of G_read_items
  have G__law_stream := ok_law_stream (P := P) (w := w) (K := K)
  have G_law := ok_law (P := P) (w := w) (K := K) G__law_cell G__law_drawn G__law_refused_right G__law_right G__law_stream G__law_take
  exact G_law
theorem heldF {P : Program} {w : World} {K : PySem.W.Frag} {h : Heap} {mg : Str → Option Value} {f : Addr} (X : K.In h) (G : h.Ns mainGlobals mg) (hfa : mg ("law" : Str) = some (.ref f)) (c : HKS.SaysS fa fn [] exB w K) :
    ∃ fd : FuncData, (∀ (s : Shared) (v : Value), BindsTo s fd ⟨[v], []⟩ [("script", v)]) ∧ ∀ base : Heap, XL.FnR P w K mg base 11 f fd ["script"] (spLaw K) := by
  have C := facts_of X G (congrArg (fun z : He.AlT => z.1) c.t) c.more
  have e := hfa.symm.trans C.g_law
  cases e
  obtain ⟨fd, h1, _, h3, _⟩ := (all_ok (P := P) (w := w) (K := K)).ex
  exact ⟨fd, fun s v => h3 s [v] rfl, h1⟩
end J
open PySem PySem.W PySem.Calls PyProof.Rows
theorem PySem.Challenge.cw_rowsjoined_k82_items_as_bits_holds : PySem.Challenge.rw_rowsjoined_k82_items_as_bits.Holds := by
  w_on; o_law
  refine HandSHeadRun.head_any (r := J.rowR) (q := view J.rowR.prog [28]) (H := J.hk) (ob := J.ob) (M := 12000) (loose := J.loose) (d := HandSHeadRun.topDef J.rowR.prog 28) (kwd := []) J.ob_eq
    (by kernel_rfl) (fun s => by kernel_rfl) J.run (by kernel_rfl) (by kernel_rfl) (by kernel_rfl) (by rfl) (by first | assumption | decide +kernel) (by decide +kernel) ⟨rfl, rfl, rfl, rfl, rfl, by decide +kernel⟩ ?hw ?hc
  case hw => w_witness2
  case hc =>
    refine J.XL.walk_ofR (l := PySem.Challenge.rw_rowsjoined_k82_items_as_bits) (n := 63) (k := 11) (x := "script") rfl (by decide) (by kernel_rfl) ⟨rfl, by decide, by decide⟩ ?F
    intro w mg fa h Y G hmg0
    obtain ⟨K, KX, c⟩ := Y
    have hmg : mg ("law" : PySem.Str) = some (.ref fa) := by
      have e : (HandSHeadRun.topDef J.rowR.prog 28).name = ("law" : PySem.Str) := by kernel_rfl
      rw [← e]
      exact hmg0
    obtain ⟨fd, hb, hF⟩ := J.heldF (P := (PySem.Challenge.rw_rowsjoined_k82_items_as_bits).prog) (w := w) KX G hmg c
    exact ⟨K, fd, _, KX, hb, fun H a ns hl hO hS => J.law_in hl hO hS, hF⟩
