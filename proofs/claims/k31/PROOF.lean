import PyProof.Rows.All
import Wide.All
import OpenK.AllK
import Wide.FinOn
import Lean
import HandS.Base
import HandS.Call
import HandS.Ends
import HandS.EndBits
import HandS.List
import HandS.Comp
import HandS.Iter
import HandS.Text
import HandS.Wide
import HandS.Words
import HandS.WordsList
import HandS.Defaults
import HandS.IsInst
import HandS.Rev
import HandS.TupAny
import HandS.TryOnly
import HandS.Zip
import HandS.Walk
import HandS.Style
import HandS.Flow
import HandS.Head0
import HandS.Head1
import HandS.Head2
import HandS.HeadEnd
import HandS.HeadHook1
import HandS.HeadHook2
import HandS.Codes
import HandS.Replace
import HandS.ReplaceLit
import HandS.SortOrd
import HandS.SortRule
import HandS.TupSets
import HandS.SetFor
import HandS.FStr
import HandS.Flt
import HandS.Sort
import HandS.Conv
import HandS.Dict
import HandS.Zip0
import KE.GoesMore
import PySem.Challenge.RW_rowsjoined_k31_steps_for_parts
import HandS.HeadHook4
set_option Elab.async false
set_option linter.all false
set_option maxRecDepth 100000
set_option maxHeartbeats 4000000
namespace J
open PySem PySem.Spec PyProof.Rows L2

/-! ### frames -/
def But (s : Addr) (H H' : Hp) : Prop := ∀ b o, b ≠ s → H b = some o → H' b = some o
theorem _root_.L2.Same.one {H : Hp} {p : Addr} {o : HO} (h : H p = none) : Same H (upd H p o) := fun a u e => by
  rw [upd_ne (ne_of_none e h)]; exact e
theorem But.of {s : Addr} {H H' : Hp} (e : Same H H') : But s H H' := fun b o _ h => e b o h
theorem But.refl (s : Addr) (H : Hp) : But s H H := fun _ _ _ h => h
theorem But.trans {s : Addr} {H H1 H2 : Hp} (a : But s H H1) (b : But s H1 H2) : But s H H2 := fun c o n h => b c o n (a c o n h)
theorem But.at {s b : Addr} {H H' : Hp} {o : HO} (e : But s H H') (n : b ≠ s) (h : H b = some o) : H' b = some o := e b o n h
theorem But.upd (s : Addr) (H : Hp) (o : HO) : But s H (upd H s o) := fun b u n h => by rw [upd_ne n]; exact h
/-- all that was there stays, what lies at s was not there -/
theorem But.new {s : Addr} {H H1 H2 : Hp} (e : Same H H1) (n : H s = none) (k : But s H1 H2) : Same H H2 := fun b o h => k b o (ne_of_none h n) (e b o h)

theorem But.new2 {s t : Addr} {H H1 H2 : Hp} (e : But s H H1) (n : H t = none) (k : But t H1 H2) : But s H H2 := fun b o hs h => k b o (ne_of_none h n) (e b o hs h)
theorem But.back {s p : Addr} {H H' : Hp} (e : But s H H') (hp : p ≠ s) (h : H' p = none) : H p = none := by
  cases q : H p with
  | none => rfl
  | some o => rw [e p o hp q] at h; cases h
theorem But.back' {s p : Addr} {H H' : Hp} {o : HO} (e : But s H H') (hs : H' s = some o) (h : H' p = none) : H p = none := e.back (fun z => by rw [z, hs] at h; cases h) h
/-- a stream of draws -/
def Stm (H : Hp) (s : Addr) : Prop := ∃ a b c : Int, H s = some (.lst [.int a, .int b, .int c])
theorem stm_ne {s p : Addr} {H : Hp} (h : Stm H s) (n : H p = none) : p ≠ s := fun q => by
  obtain ⟨_, _, _, g⟩ := h
  rw [← q, n] at g
  cases g
theorem But.tup {s b : Addr} {H H' : Hp} {xs : List V} (e : But s H H') (t : Stm H s) (h : H b = some (.tup xs)) : H' b = some (.tup xs) := by
  obtain ⟨_, _, _, t⟩ := t
  exact e b _ (ne_of h t (by intro q; cases q)) h
theorem But.tupL {s b : Addr} {H H' : Hp} {xs ys : List V} (e : But s H H') (t : H s = some (.lst ys)) (h : H b = some (.tup xs)) : H' b = some (.tup xs) := e b _ (ne_of h t (by intro q; cases q)) h
theorem But.sqTL {K : PySem.W.Frag} {s a : Addr} {H H' : Hp} {xs ys : List V} (e : But s H H') (t : H s = some (.lst ys)) (h : SqT K H a xs) : SqT K H' a xs := by
  rcases h with (h | ⟨o, h⟩) | h
  · exact .inl (.inl (e _ _ (ne_of h t (by intro q; cases q)) h))
  · exact .inl (.inr ⟨o, e _ _ (ne_of h t (by intro q; cases q)) h⟩)
  · exact .inr h
theorem But.stm {s a : Addr} {H H' : Hp} (e : But s H H') (n : a ≠ s) (h : Stm H a) : Stm H' a := by
  obtain ⟨x, y, z, h⟩ := h
  exact ⟨x, y, z, e _ _ n h⟩
theorem _root_.L2.Same.back {H H' : Hp} {p : Addr} (e : Same H H') (h : H' p = none) : H p = none := e.free h
theorem But.frz {s b : Addr} {H H' : Hp} {o : Obj} {u : HO} (e : But s H H') (t : Stm H s) (h : H b = some (.frz o u)) : H' b = some (.frz o u) := by
  obtain ⟨_, _, _, t⟩ := t
  exact e b _ (ne_of h t (by intro q; cases q)) h
theorem But.sqT {K : PySem.W.Frag} {s a : Addr} {H H' : Hp} {xs : List V} (e : But s H H') (t : Stm H s) (h : SqT K H a xs) : SqT K H' a xs := by
  rcases h with (h | ⟨o, h⟩) | h
  · exact .inl (.inl (e.tup t h))
  · exact .inl (.inr ⟨o, e.frz t h⟩)
  · exact .inr h
theorem But.sqL {K : PySem.W.Frag} {s a : Addr} {H H' : Hp} {xs : List V} (e : But s H H') (n : a ≠ s) (h : SqL K H a xs) : SqL K H' a xs := by
  rcases h with (h | ⟨o, h⟩) | h
  · exact .inl (.inl (e a _ n h))
  · exact .inl (.inr ⟨o, e a _ n h⟩)
  · exact .inr h
theorem _root_.L2.Same.sqT {K : PySem.W.Frag} {H H' : Hp} {a : Addr} {xs : List V} (e : Same H H') (h : SqT K H a xs) : SqT K H' a xs := by
  rcases h with (h | ⟨o, h⟩) | h
  · exact .inl (.inl (e _ _ h))
  · exact .inl (.inr ⟨o, e _ _ h⟩)
  · exact .inr h
theorem _root_.L2.Same.sqL {K : PySem.W.Frag} {H H' : Hp} {a : Addr} {xs : List V} (e : Same H H') (h : SqL K H a xs) : SqL K H' a xs := e.seq h
theorem _root_.L2.Same.stm {H H' : Hp} {s : Addr} (e : Same H H') (h : Stm H s) : Stm H' s := by
  obtain ⟨a, b, c, h⟩ := h
  exact ⟨a, b, c, e _ _ h⟩
theorem _root_.L2.Same.at {H H' : Hp} {b : Addr} {o : HO} (e : Same H H') (h : H b = some o) : H' b = some o := e b o h
/-- a list that stands, seen past a list changed elsewhere -/
theorem sqL_upd {K : PySem.W.Frag} {H : Hp} {a p : Addr} {o : HO} {xs : List V} (n : a ≠ p) (h : SqL K H a xs) : SqL K (upd H p o) a xs := by
  rcases h with (h | ⟨u, h⟩) | h
  · exact .inl (.inl (by rw [upd_ne n]; exact h))
  · exact .inl (.inr ⟨u, by rw [upd_ne n]; exact h⟩)
  · exact .inr h
theorem sqT_updL {K : PySem.W.Frag} {H : Hp} {a p : Addr} {o : HO} {xs ys : List V} (hp : H p = some (.lst ys)) (h : SqT K H a xs) : SqT K (upd H p o) a xs := by
  rcases h with (h | ⟨u, h⟩) | h
  · exact .inl (.inl (by rw [upd_ne (ne_of h hp (by intro q; cases q))]; exact h))
  · exact .inl (.inr ⟨u, by rw [upd_ne (ne_of h hp (by intro q; cases q))]; exact h⟩)
  · exact .inr h
theorem stm_upd {H : Hp} {a p : Addr} {o : HO} (n : a ≠ p) (h : Stm H a) : Stm (upd H p o) a := by
  obtain ⟨x, y, z, h⟩ := h
  exact ⟨x, y, z, by rw [upd_ne n]; exact h⟩
theorem at_updL {H : Hp} {a p : Addr} {o u : HO} (n : a ≠ p) (h : H a = some u) : upd H p o a = some u := by rw [upd_ne n]; exact h

/-! ### readings, step by step -/
section
variable {K : PySem.W.Frag} {σ : L2.St} {H : Hp} {i : Nat} {v x y z : V} {ta tb tc te tv : TE} {Q : VK} {nx : L2.St → Hp → Prop} {rt : VK} {bk ct : L2.St → Hp → Prop} {t u : TS} {tt tu : TT}
theorem w_seq (k : t ⟨u ⟨nx, rt, bk, ct⟩, rt, bk, ct⟩ σ H) : tSeq t u ⟨nx, rt, bk, ct⟩ σ H := k
theorem w_asg {g : TG} (k : te σ H fun x H1 => g x σ H1 nx) : tAsg te g ⟨nx, rt, bk, ct⟩ σ H := k
theorem w_gName {R : L2.St → Hp → Prop} (k : R (σ.set i (some v)) H) : gName i v σ H R := k
theorem w_ret (k : te σ H rt) : tRet te ⟨nx, rt, bk, ct⟩ σ H := k
theorem w_retN (k : rt .non H) : tRetN ⟨nx, rt, bk, ct⟩ σ H := k
theorem w_drop (k : te σ H fun _ H1 => nx σ H1) : tDrop te ⟨nx, rt, bk, ct⟩ σ H := k
theorem w_next (k : nx σ H) : tNext ⟨nx, rt, bk, ct⟩ σ H := k
theorem w_break (k : bk σ H) : tBreak ⟨nx, rt, bk, ct⟩ σ H := k
theorem w_cont (k : ct σ H) : tCont ⟨nx, rt, bk, ct⟩ σ H := k
theorem w_ifS (k : tt σ H fun b H1 => if b = true then t ⟨nx, rt, bk, ct⟩ σ H1 else u ⟨nx, rt, bk, ct⟩ σ H1) : tIfS tt t u ⟨nx, rt, bk, ct⟩ σ H := k
theorem w_var (h : σ[i]? = some (some v)) (k : Q v H) : tVar i σ H Q := ⟨v, h, k⟩
theorem w_c (k : Q v H) : tC v σ H Q := k
theorem w_op {r : R2} (k : ta σ H fun x H1 => tb σ H1 fun y H2 => r x y H2 Q) : tOp r ta tb σ H Q := k
theorem w_un {r : V → Hp → VK → Prop} (k : ta σ H fun x H1 => r x H1 Q) : tUn r ta σ H Q := k
theorem w_rU {g : Int → V} {n : Int} (k : Q (g n) H) : rU g (.int n) H Q := ⟨n, rfl, k⟩
theorem w_rI0 {g : Int → Int → V} {m n : Int} (k : Q (g m n) H) : rI0 g (.int m) (.int n) H Q := ⟨m, n, rfl, rfl, k⟩
theorem w_rI {C : Int → Int → Prop} {g : Int → Int → V} {m n : Int} (c : C m n) (k : Q (g m n) H) : rI C g (.int m) (.int n) H Q := ⟨m, n, rfl, rfl, c, k⟩
theorem w_nil {R : List V → Hp → Prop} (k : R [] H) : tNil σ H R := k
theorem w_cons {tr : TA} {R : List V → Hp → Prop} (k : te σ H fun x H1 => tr σ H1 fun xs H2 => R (x :: xs) H2) : tCons te tr σ H R := k
/-- a new object -/
def NewO (o : HO) (H : Hp) (Q : VK) : Prop := ∀ p, H p = none → Q (.ref p) (upd H p o)
theorem w_new {o : HO} (k : ∀ p H', H p = none → Same H H' → H' p = some o → Q (.ref p) H') : NewO o H Q := fun p hp => k p _ hp (Same.one hp) upd_same
/-- an object changed -/
def ChgO (l : Addr) (o : HO) (H : Hp) (R : Hp → Prop) : Prop := R (upd H l o)
theorem w_chg {l : Addr} {o : HO} {R : Hp → Prop} (k : ∀ H', But l H H' → H' l = some o → R H') : ChgO l o H R := k _ (But.upd _ _ _) upd_same
theorem w_tup {tr : TA} (k : tr σ H fun xs H1 => xs.length ≤ sizeLine ∧ NewO (.tup xs) H1 Q) : tTup tr σ H Q := k
theorem w_lst {tr : TA} (k : tr σ H fun xs H1 => xs.length ≤ sizeLine ∧ NewO (.lst xs) H1 Q) : tLst tr σ H Q := k
theorem w_cb {r : List V → Hp → VK → Prop} {tr : TA} (k : tr σ H fun vs H1 => r vs H1 Q) : tCB r tr σ H Q := k
theorem w_call {sp : Sp} {E : XK} {tr : TA} (k : tr σ H fun vs H1 => sp vs H1 Q E) : tCall sp [] E tr σ H Q := by
  show tr σ H fun vs H1 => sp (vs ++ []) H1 Q E
  simp only [List.append_nil]
  exact k
theorem w_chain {r r' : R2} (k : ta σ H fun x H1 => tb σ H1 fun y H2 => r x y H2 fun z H3 => ∃ k, z = .bl k ∧ if k = true then tc σ H3 (fun w H4 => r' y w H4 Q) else Q (.bl false) H3) : tChain r r' ta tb tc σ H Q := k
theorem w_test {R : Bool → Hp → Prop} (k : te σ H fun x H' => ∃ b, x = .bl b ∧ R b H') : tTest te σ H R := k
theorem w_tB {R : Bool → Hp → Prop} (k : te σ H fun x H' => ∃ b, x = .bl b ∧ R b H') : tB te σ H R := k
theorem w_bl {b : Bool} {R : Bool → Prop} (k : R b) : ∃ c, V.bl b = .bl c ∧ R c := ⟨b, rfl, k⟩
theorem w_and {R : Bool → Hp → Prop} (k : tt σ H fun c H1 => if c = true then tu σ H1 R else R false H1) : tAnd tt tu σ H R := k
theorem w_or {R : Bool → Hp → Prop} (k : tt σ H fun c H1 => if c = true then R true H1 else tu σ H1 R) : tOr tt tu σ H R := k
theorem w_not {R : Bool → Hp → Prop} (k : tt σ H fun c H1 => R (!c) H1) : tNot tt σ H R := k
theorem w_andV (k : ta σ H fun x H1 => ∃ c, x = .bl c ∧ if c = true then tb σ H1 Q else Q (.bl false) H1) : tAndV ta tb σ H Q := k
theorem w_orV (k : ta σ H fun x H1 => ∃ c, x = .bl c ∧ if c = true then Q (.bl true) H1 else tb σ H1 Q) : tOrV ta tb σ H Q := k
theorem w_ifE (k : tt σ H fun c H1 => if c = true then ta σ H1 Q else tb σ H1 Q) : tIf tt ta tb σ H Q := k
theorem w_notV (k : ta σ H fun x H1 => ∃ c, x = .bl c ∧ Q (.bl (!c)) H1) : tNotV ta σ H Q := k

/-- or, and: of two tests that leave the heap -/
theorem w_orP (p q : Prop) [Decidable p] [Decidable q] {R : Bool → Hp → Prop} (ht : ∀ S : Bool → Hp → Prop, S (decide p) H → tt σ H S) (hu : ∀ S : Bool → Hp → Prop, S (decide q) H → tu σ H S) (k : ∀ b : Bool, (b = true ↔ p ∨ q) → R b H) : tOr tt tu σ H R := by
  refine w_or (ht _ ?_)
  by_cases hp : p
  · rw [decide_eq_true hp]; exact iteT (k _ (by simp [hp]))
  · rw [decide_eq_false hp]; exact iteF (hu _ (k _ (by simp [hp])))
theorem w_andP (p q : Prop) [Decidable p] [Decidable q] {R : Bool → Hp → Prop} (ht : ∀ S : Bool → Hp → Prop, S (decide p) H → tt σ H S) (hu : ∀ S : Bool → Hp → Prop, S (decide q) H → tu σ H S) (k : ∀ b : Bool, (b = true ↔ p ∧ q) → R b H) : tAnd tt tu σ H R := by
  refine w_and (ht _ ?_)
  by_cases hp : p
  · rw [decide_eq_true hp]; exact iteT (hu _ (k _ (by simp [hp])))
  · rw [decide_eq_false hp]; exact iteF (k _ (by simp [hp]))
/-- and, or: first what either answer comes to, where Φ of the heap -/
theorem w_andK (Φ : Hp → Prop) {R : Bool → Hp → Prop} (hR : ∀ b H', Φ H' → R b H') (k : (∀ b H', Φ H' → R b H') → tt σ H fun c H1 => if c = true then tu σ H1 R else R false H1) : tAnd tt tu σ H R := k hR
theorem w_andF (Φ : Hp → Prop) {R : Bool → Hp → Prop} (hR : ∀ H', Φ H' → R false H') (k : (∀ H', Φ H' → R false H') → tt σ H fun c H1 => if c = true then tu σ H1 R else R false H1) : tAnd tt tu σ H R := k hR
theorem w_orK (Φ : Hp → Prop) {R : Bool → Hp → Prop} (hR : ∀ b H', Φ H' → R b H') (k : (∀ b H', Φ H' → R b H') → tt σ H fun c H1 => if c = true then R true H1 else tu σ H1 R) : tOr tt tu σ H R := k hR
theorem w_nT {A B : Prop} (k : B) : if (!true) = true then A else B := k
theorem w_nF {A B : Prop} (k : A) : if (!false) = true then A else B := k
theorem w_decT {p A B : Prop} [Decidable p] (h : p) (k : A) : if decide p = true then A else B := by rw [decide_eq_true h]; exact iteT k
theorem w_decF {p A B : Prop} [Decidable p] (h : ¬ p) (k : B) : if decide p = true then A else B := by rw [decide_eq_false h]; exact iteF k
/-! ### operators, together -/
def rAddS : R2 := fun x y H Q => ∃ i j, x = .str i ∧ y = .str j ∧ i.length + j.length ≤ sizeLine ∧ Q (.str (i ++ j)) H
def rAddA (K : PySem.W.Frag) : R2 := fun x y H Q => rI0 (fun i j => .int (i + j)) x y H Q ∨ (rAddS x y H Q ∨ (rCat x y H Q ∨ rCatT K x y H Q))
theorem op_addA {X : Cx} {K : PySem.W.Frag} (hK : X.K = K) : OpR X (binaryOp .Add) (rAddA K) := by
  subst hK
  exact op_add.or (OpR.or (r := rAddS) op_add_str (op_cat.or op_catT))
theorem w_addI {m n : Int} (k : Q (.int (m + n)) H) : rAddA K (.int m) (.int n) H Q := .inl ⟨m, n, rfl, rfl, k⟩
theorem w_addS {a b : Str} (h : a.length + b.length ≤ sizeLine) (k : Q (.str (a ++ b)) H) : rAddA K (.str a) (.str b) H Q := .inr (.inl ⟨a, b, rfl, rfl, h, k⟩)
theorem w_addL {l b : Addr} {xs zs : List V} (h1 : H l = some (.lst xs)) (h2 : H b = some (.lst zs)) (h : xs.length + zs.length ≤ sizeLine) (k : NewO (.lst (xs ++ zs)) H Q) :
    rAddA K (.ref l) (.ref b) H Q := .inr (.inr (.inl ⟨l, b, xs, zs, rfl, rfl, h1, h2, h, k⟩))
def rMulA : R2 := fun x y H Q => rI CMul (fun i j => .int (i * j)) x y H Q ∨ rRep x y H Q
theorem op_mulA {X : Cx} : OpR X (binaryOp .Mult) rMulA := op_mul.or op_rep
theorem w_mulI {m n : Int} (c : CMul m n) (k : Q (.int (m * n)) H) : rMulA (.int m) (.int n) H Q := .inl ⟨m, n, rfl, rfl, c, k⟩
def rEqA (K : PySem.W.Frag) : R2 := fun x y H Q => rEq x y H Q ∨ rEqD K x y H Q
def rNeA (K : PySem.W.Frag) : R2 := fun x y H Q => rNe x y H Q ∨ rNeD K x y H Q
theorem op_eqA {X : Cx} {K : PySem.W.Frag} (hK : X.K = K) (hu : X.A.units + 64 < cLine) : OpR X (compareOp .Eq) (rEqA K) := by
  subst hK
  exact op_eq.or (op_eqD hu)
theorem op_neA {X : Cx} {K : PySem.W.Frag} (hK : X.K = K) (hu : X.A.units + 64 < cLine) : OpR X (compareOp .NotEq) (rNeA K) := by
  subst hK
  exact op_ne.or (op_neD hu)
theorem w_eqI {m n : Int} (k : Q (.bl (decide (m = n))) H) : rEqA K (.int m) (.int n) H Q := .inl ⟨rfl, by rw [show decide (V.int m = V.int n) = decide (m = n) by rw [dec_int]; rfl]; exact k⟩
theorem w_neI {m n : Int} (k : Q (.bl (!decide (m = n))) H) : rNeA K (.int m) (.int n) H Q := .inl ⟨rfl, by rw [show decide (V.int m = V.int n) = decide (m = n) by rw [dec_int]; rfl]; exact k⟩
theorem w_eqS {m n : Str} (k : Q (.bl (decide (m = n))) H) : rEqA K (.str m) (.str n) H Q := .inl ⟨rfl, by rw [dec_str]; exact k⟩
theorem w_neS {m n : Str} (k : Q (.bl (!decide (m = n))) H) : rNeA K (.str m) (.str n) H Q := .inl ⟨rfl, by rw [dec_str]; exact k⟩
theorem w_eqB {m n : Bool} (k : Q (.bl (m == n)) H) : rEqA K (.bl m) (.bl n) H Q := .inl ⟨rfl, by rw [dec_bl]; exact k⟩
theorem w_neB {m n : Bool} (k : Q (.bl (!(m == n))) H) : rNeA K (.bl m) (.bl n) H Q := .inl ⟨rfl, by rw [dec_bl]; exact k⟩
theorem w_eqD {d e : PyData} (hd : Dp K H x d) (he : Dp K H y e) (sd : SeqAt.shaped d = true) (se : SeqAt.shaped e = true) (k : Q (.bl (PyData.eqv d e)) H) : rEqA K x y H Q := .inr ⟨d, e, hd, he, sd, se, k⟩
theorem w_neD {d e : PyData} (hd : Dp K H x d) (he : Dp K H y e) (sd : SeqAt.shaped d = true) (se : SeqAt.shaped e = true) (k : Q (.bl (!PyData.eqv d e)) H) : rNeA K x y H Q := .inr ⟨d, e, hd, he, sd, se, k⟩
/-- in, of texts and of things in a list or a tuple -/
def rInStr (neg : Bool) : R2 := fun x y H Q => ∃ i j, x = .str i ∧ y = .str j ∧ Q (.bl (if neg then !(!(Builtin.Str.occurrences j i 0 j.length 1).isEmpty) else !(Builtin.Str.occurrences j i 0 j.length 1).isEmpty)) H
def rInA (K : PySem.W.Frag) (neg : Bool) : R2 := fun x y H Q => rIn K neg x y H Q ∨ rInStr neg x y H Q
theorem op_inA {X : Cx} {K : PySem.W.Frag} (hK : X.K = K) : OpR X (compareOp .In) (rInA K false) := by
  subst hK
  exact op_in_seq.or (fun pins s σ H x y v u Q I rx ry h => op_in_str pins s σ H x y v u Q I rx ry h)
theorem op_notInA {X : Cx} {K : PySem.W.Frag} (hK : X.K = K) : OpR X (compareOp .NotIn) (rInA K true) := by
  subst hK
  exact op_notIn_seq.or (fun pins s σ H x y v u Q I rx ry h => op_notIn_str pins s σ H x y v u Q I rx ry h)
theorem w_inL {p : Addr} {xs : List V} (h : SqL K H p xs) (hx : flatV x = true) (ha : xs.all flatV = true) (k : Q (.bl (inV x xs)) H) : rInA K false x (.ref p) H Q := .inl ⟨p, xs, rfl, .inl h, hx, ha, k⟩
theorem w_inT {p : Addr} {xs : List V} (h : SqT K H p xs) (hx : flatV x = true) (ha : xs.all flatV = true) (k : Q (.bl (inV x xs)) H) : rInA K false x (.ref p) H Q := .inl ⟨p, xs, rfl, .inr h, hx, ha, k⟩
theorem w_niL {p : Addr} {xs : List V} (h : SqL K H p xs) (hx : flatV x = true) (ha : xs.all flatV = true) (k : Q (.bl (!inV x xs)) H) : rInA K true x (.ref p) H Q := .inl ⟨p, xs, rfl, .inl h, hx, ha, k⟩
theorem w_niT {p : Addr} {xs : List V} (h : SqT K H p xs) (hx : flatV x = true) (ha : xs.all flatV = true) (k : Q (.bl (!inV x xs)) H) : rInA K true x (.ref p) H Q := .inl ⟨p, xs, rfl, .inr h, hx, ha, k⟩
/-- subscripts -/
theorem ix_any {X : Cx} {K : PySem.W.Frag} (hK : X.K = K) : IxR X (rIx K) := by
  subst hK
  exact ix_seq
theorem w_ixL {p : Addr} {xs : List V} {n : Int} (h : SqL K H p xs) (ha : atI xs n = some v) (k : Q v H) : rIx K (.ref p) (.int n) H Q := .inl ⟨p, xs, n, v, rfl, rfl, h, ha, k⟩
theorem w_ixT {p : Addr} {xs : List V} {n : Int} (h : SqT K H p xs) (ha : atI xs n = some v) (k : Q v H) : rIx K (.ref p) (.int n) H Q := .inr (.inl ⟨p, xs, n, v, rfl, rfl, h, ha, k⟩)
theorem w_ixS {a : Str} {c : Nat} {n : Int} (h : a.length ≤ sizeLine) (ha : atI a.cps.toList n = some c) (k : Q (.str ⟨#[c]⟩) H) : rIx K (.str a) (.int n) H Q := .inr (.inr ⟨a, n, c, rfl, rfl, h, ha, k⟩)
/-! slices -/
def rSlAny (K : PySem.W.Frag) : V → Option Int → Option Int → Hp → VK → Prop := fun x lo hi H Q => rSlL K x lo hi H Q ∨ (rSlS x lo hi H Q ∨ rSlA K x lo hi H Q)
/-- calls -/
def rInt1 : List V → Hp → VK → Prop := fun xs H Q => (∃ i, xs = [.int i] ∧ Q (.int i) H) ∨ ∃ k, xs = [.bl k] ∧ Q (.int (if k then 1 else 0)) H
theorem call_int1A {X : Cx} : CallR X (.type "int") rInt1 := call_int1
theorem w_int1 {n : Int} (k : Q (.int n) H) : rInt1 [.int n] H Q := .inl ⟨n, rfl, k⟩
theorem w_int1b {b : Bool} (k : Q (.int (if b then 1 else 0)) H) : rInt1 [.bl b] H Q := .inr ⟨b, rfl, k⟩
def rLenA (K : PySem.W.Frag) : List V → Hp → VK → Prop := fun xs H Q => ∃ x n, xs = [x] ∧ LenV K x H n ∧ Q (.int n) H
theorem call_lenA {X : Cx} {K : PySem.W.Frag} (hK : X.K = K) : CallR X (.builtin "len") (rLenA K) := by
  subst hK
  exact call_len
theorem w_lenL {p : Addr} {xs : List V} (h : SqL K H p xs) (k : Q (.int xs.length) H) : rLenA K [.ref p] H Q := ⟨_, _, rfl, .inl ⟨xs, h, rfl⟩, k⟩
theorem w_lenT {p : Addr} {xs : List V} (h : SqT K H p xs) (k : Q (.int xs.length) H) : rLenA K [.ref p] H Q := ⟨_, _, rfl, .inr ⟨xs, h, rfl⟩, k⟩
theorem w_lenS {a : Str} (h : a.length ≤ sizeLine) (k : Q (.int a.length) H) : rLenA K [.str a] H Q := ⟨_, _, rfl, ⟨h, rfl⟩, k⟩
def rAbsA : List V → Hp → VK → Prop := fun xs H Q => ∃ i, xs = [.int i] ∧ Q (.int (if i < 0 then -i else i)) H
theorem call_absA {X : Cx} : CallR X (.builtin "abs") rAbsA := call_abs
def rMax2 : List V → Hp → VK → Prop := fun xs H Q => ∃ i j, xs = [.int i, .int j] ∧ Q (.int (if j > i then j else i)) H
def rMin2 : List V → Hp → VK → Prop := fun xs H Q => ∃ i j, xs = [.int i, .int j] ∧ Q (.int (if j < i then j else i)) H
theorem call_max2A {X : Cx} (hc : X.calm = true) : CallR X (.builtin "max") rMax2 := call_max2 hc
theorem call_min2A {X : Cx} (hc : X.calm = true) : CallR X (.builtin "min") rMin2 := call_min2 hc
theorem max_if (i j : Int) : (if j > i then j else i) = max i j := by split <;> omega
theorem min_if (i j : Int) : (if j < i then j else i) = min i j := by split <;> omega
theorem w_max2 {i j : Int} (k : Q (.int (max i j)) H) : rMax2 [.int i, .int j] H Q := ⟨i, j, rfl, by rw [max_if]; exact k⟩
theorem w_min2 {i j : Int} (k : Q (.int (min i j)) H) : rMin2 [.int i, .int j] H Q := ⟨i, j, rfl, by rw [min_if]; exact k⟩
def rBool1 : List V → Hp → VK → Prop := fun xs H Q => (∃ i, xs = [.int i] ∧ Q (.bl (i != 0)) H) ∨ ∃ k, xs = [.bl k] ∧ Q (.bl k) H
theorem call_bool1A {X : Cx} : CallR X (.type "bool") rBool1 := call_bool1
def rStrI : List V → Hp → VK → Prop := fun xs H Q => ∃ i, xs = [.int i] ∧ i.natAbs.log2 < 1920 ∧ Q (.str (toString i)) H
theorem call_strA {X : Cx} : CallR X (.type "str") rStrI := call_str_int
theorem w_strI {n : Int} (h : n.natAbs.log2 < 1920) (k : Q (.str (toString n)) H) : rStrI [.int n] H Q := ⟨n, rfl, h, k⟩
theorem w_size {xs : List V} {R : Prop} (h : xs.length ≤ sizeLine) (k : R) : xs.length ≤ sizeLine ∧ R := ⟨h, k⟩
/-- stores by place -/
theorem w_gSub {to ti : TE} {ts : TSet} {R : L2.St → Hp → Prop} (k : to σ H fun o H1 => ti σ H1 fun i H2 => ts o i v H2 fun H3 => R σ H3) : gSub to ti ts v σ H R := k
theorem w_setL {l : Addr} {xs : List V} {n : Int} {j : Nat} {R : Hp → Prop} (h : H l = some (.lst xs)) (hj : ixN xs.length n = some j) (k : ChgO l (.lst (xs.set j v)) H R) : rSetL (.ref l) (.int n) v H R := ⟨l, xs, n, j, rfl, rfl, h, hj, k⟩
/-- methods of lists -/
theorem w_bm {T : String} {r : V → List V → Hp → VK → Prop} {tr : TA} (k : ta σ H fun x H1 => tyV K T x H1 ∧ tr σ H1 fun xs H2 => r x xs H2 Q) : tBM K T r ta tr σ H Q := k
theorem w_bm0 {T : String} {r : V → List V → Hp → VK → Prop} (k : ta σ H fun x H1 => tyV K T x H1 ∧ r x [] H1 Q) : tBM0 K T r ta σ H Q := k
theorem w_tyL {p : Addr} {xs : List V} {R : Prop} (h : SqL K H p xs) (k : R) : tyV K "list" (.ref p) H ∧ R := ⟨.inl ⟨rfl, xs, h⟩, k⟩
theorem w_tyS {a : Str} {R : Prop} (k : R) : tyV K "str" (.str a) H ∧ R := ⟨rfl, k⟩
theorem w_append {l : Addr} {xs : List V} (h : H l = some (.lst xs)) (hz : xs.length < sizeLine) (k : ChgO l (.lst (xs ++ [v])) H (Q .non)) : rAppend (.ref l) [v] H Q := ⟨l, xs, v, rfl, rfl, h, hz, k⟩
theorem w_clear {l : Addr} {xs : List V} (h : H l = some (.lst xs)) (k : ChgO l (.lst []) H (Q .non)) : rClear (.ref l) [] H Q := ⟨l, xs, rfl, rfl, h, k⟩
end

/-! ### loops -/
section
variable {K : PySem.W.Frag} {σ : L2.St} {H : Hp} {a D : Addr} {xs : List V} {g : TG} {tb : TS} {nx : L2.St → Hp → Prop} {rt : VK} {bk ct : L2.St → Hp → Prop} {tl te : TE} {ta : TA} {tt : TT} {Q : VK} {vs : List Nat} {j : Nat}
def WFor (J : It) (g : TG) (tb : TS) (nx : L2.St → Hp → Prop) (rt : VK) (σ : L2.St) (H : Hp) : Prop := ∃ W : Nat → Nat → L2.St → Hp → Prop, (∃ m, W 0 m σ H) ∧ ∀ i m σ H, W i m σ H →
  (J.stop i H ∧ nx σ H) ∨ (J.go i H ∧ ∃ N : L2.St → Hp → Prop, (∀ σ' H', N σ' H' → ∃ m', m' < m ∧ W (i + 1) m' σ' H') ∧ ∀ x H', J.yld i H x H' → g x σ H' fun σ2 H2 => tb ⟨N, rt, nx, N⟩ σ2 H2)
theorem w_forL (k : tl σ H fun x H1 => ∃ a, x = .ref a ∧ (∃ xs, SqL K H1 a xs) ∧ WFor (Itl K a) g tb nx rt σ H1) : tFor (iList K tl) g tb ⟨nx, rt, bk, ct⟩ σ H := k
theorem w_forT (k : tl σ H fun x H1 => ∃ a, x = .ref a ∧ (∃ xs, SqT K H1 a xs) ∧ WFor (Itt K a) g tb nx rt σ H1) : tFor (iTup K tl) g tb ⟨nx, rt, bk, ct⟩ σ H := k
theorem w_forR1 (k : ta σ H fun vs H1 => ∃ j : Int, vs = [.int j] ∧ -(2 ^ 62) ≤ j ∧ j < 2 ^ 62 ∧ WFor (Itr 0 j.toNat) g tb nx rt σ H1) : tFor (iRng1 ta) g tb ⟨nx, rt, bk, ct⟩ σ H := k
theorem w_forR2 (k : ta σ H fun vs H1 => ∃ i j : Int, vs = [.int i, .int j] ∧ (-(2 ^ 62) ≤ i ∧ i < 2 ^ 62 ∧ -(2 ^ 62) ≤ j ∧ j < 2 ^ 62) ∧ WFor (Itr i (j - i).toNat) g tb nx rt σ H1) : tFor (iRng2 ta) g tb ⟨nx, rt, bk, ct⟩ σ H := k
/-- over a list that stands: the word by the turn, the slots, the heap -/
theorem fl_list (xs : List V) (Pv : Nat → L2.St → Hp → Prop) (hS : SqL K H a xs) (h0 : Pv 0 σ H) (hl : ∀ i σ H, i ≤ xs.length → Pv i σ H → SqL K H a xs)
    (hs : ∀ i x σ H, xs[i]? = some x → Pv i σ H → g x σ H fun σ2 H2 => tb ⟨Pv (i + 1), rt, nx, Pv (i + 1)⟩ σ2 H2) (hd : ∀ σ H, Pv xs.length σ H → nx σ H) :
    ∃ b, V.ref a = .ref b ∧ (∃ xs, SqL K H b xs) ∧ WFor (Itl K b) g tb nx rt σ H := ⟨a, rfl, ⟨xs, hS⟩, for_list (D := ⟨nx, rt, fun _ _ => False, fun _ _ => False⟩) Pv h0 hl hs hd⟩
theorem fl_tup (xs : List V) (Pv : Nat → L2.St → Hp → Prop) (hS : SqT K H a xs) (h0 : Pv 0 σ H) (hl : ∀ i σ H, i ≤ xs.length → Pv i σ H → SqT K H a xs)
    (hs : ∀ i x σ H, xs[i]? = some x → Pv i σ H → g x σ H fun σ2 H2 => tb ⟨Pv (i + 1), rt, nx, Pv (i + 1)⟩ σ2 H2) (hd : ∀ σ H, Pv xs.length σ H → nx σ H) :
    ∃ b, V.ref a = .ref b ∧ (∃ xs, SqT K H b xs) ∧ WFor (Itt K b) g tb nx rt σ H := ⟨a, rfl, ⟨xs, hS⟩, for_tup (D := ⟨nx, rt, fun _ _ => False, fun _ _ => False⟩) Pv h0 hl hs hd⟩
theorem fl_rng1 {n : Int} (Pv : Nat → L2.St → Hp → Prop) (hb : n < 2 ^ 62) (hb0 : -(2 ^ 62) ≤ n) (h0 : Pv 0 σ H)
    (hs : ∀ i σ H, i < n.toNat → Pv i σ H → g (.int (i : Int)) σ H fun σ2 H2 => tb ⟨Pv (i + 1), rt, nx, Pv (i + 1)⟩ σ2 H2) (hd : ∀ σ H, Pv n.toNat σ H → nx σ H) :
    ∃ j : Int, [V.int n] = [.int j] ∧ -(2 ^ 62) ≤ j ∧ j < 2 ^ 62 ∧ WFor (Itr 0 j.toNat) g tb nx rt σ H := by
  refine ⟨n, rfl, hb0, hb, for_range (D := ⟨nx, rt, fun _ _ => False, fun _ _ => False⟩) Pv h0 (fun i σ H hi p => ?_) hd⟩
  rw [Int.zero_add]
  exact hs i σ H hi p
theorem fl_rng2 {m n : Int} (Pv : Nat → L2.St → Hp → Prop) (hb : -(2 ^ 62) ≤ m ∧ m < 2 ^ 62 ∧ -(2 ^ 62) ≤ n ∧ n < 2 ^ 62) (h0 : Pv 0 σ H)
    (hs : ∀ i σ H, i < (n - m).toNat → Pv i σ H → g (.int (m + (i : Int))) σ H fun σ2 H2 => tb ⟨Pv (i + 1), rt, nx, Pv (i + 1)⟩ σ2 H2) (hd : ∀ σ H, Pv (n - m).toNat σ H → nx σ H) :
    ∃ i j : Int, [V.int m, V.int n] = [.int i, .int j] ∧ (-(2 ^ 62) ≤ i ∧ i < 2 ^ 62 ∧ -(2 ^ 62) ≤ j ∧ j < 2 ^ 62) ∧ WFor (Itr i (j - i).toNat) g tb nx rt σ H :=
  ⟨m, n, rfl, hb, for_range (D := ⟨nx, rt, fun _ _ => False, fun _ _ => False⟩) Pv h0 hs hd⟩
/-- over a short list, turn by turn -/
def runL (K : PySem.W.Frag) (a : Addr) (all : List V) (g : TG) (tb : TS) (nx : L2.St → Hp → Prop) (rt : VK) : List V → L2.St → Hp → Prop
  | [], σ, H => nx σ H
  | x :: r, σ, H => g x σ H fun σ2 H2 => tb ⟨fun σ' H' => SqL K H' a all ∧ runL K a all g tb nx rt r σ' H', rt, nx, fun σ' H' => SqL K H' a all ∧ runL K a all g tb nx rt r σ' H'⟩ σ2 H2
theorem fl_run (xs : List V) (hS : SqL K H a xs) (k : runL K a xs g tb nx rt xs σ H) : ∃ b, V.ref a = .ref b ∧ (∃ xs, SqL K H b xs) ∧ WFor (Itl K b) g tb nx rt σ H := by
  refine fl_list xs (fun i σ H => SqL K H a xs ∧ runL K a xs g tb nx rt (xs.drop i) σ H) hS ⟨hS, by rw [List.drop_zero]; exact k⟩ (fun _ _ _ _ h => h.1) (fun i x σ H hi h => ?_) (fun σ H h => ?_)
  · have e : xs.drop i = x :: xs.drop (i + 1) := by
      obtain ⟨hl, rfl⟩ := List.getElem?_eq_some_iff.mp hi
      exact List.drop_eq_getElem_cons hl
    have h2 := h.2
    rw [e] at h2
    exact h2
  · have h2 := h.2
    rw [List.drop_length] at h2
    exact h2
theorem w_runN (k : nx σ H) : runL K a xs g tb nx rt [] σ H := k
theorem w_runC {x : V} {r : List V} (k : g x σ H fun σ2 H2 => tb ⟨fun σ' H' => SqL K H' a xs ∧ runL K a xs g tb nx rt r σ' H', rt, nx, fun σ' H' => SqL K H' a xs ∧ runL K a xs g tb nx rt r σ' H'⟩ σ2 H2) :
    runL K a xs g tb nx rt (x :: r) σ H := k
/-- the first of two, by what stands -/
theorem w_both {A B : Prop} (h : A) (k : B) : A ∧ B := ⟨h, k⟩
/-! comprehensions -/
def WLc (J : It) (g : TG) (tt : TT) (te : TE) (vs : List Nat) (σ : L2.St) (D : Addr) (H1 : Hp) (Q : VK) : Prop := ∃ W : Nat → Nat → Hp → Prop, (∃ m, W 0 m (upd H1 D (.lst []))) ∧ ∀ i m H, W i m H →
  (J.stop i H ∧ Q (.ref D) H) ∨ (J.go i H ∧ ∃ Nx : Hp → Prop, (∀ H', Nx H' → ∃ m', m' < m ∧ W (i + 1) m' H') ∧ ∀ x H', J.yld i H x H' → g x (wipe σ vs) H' fun σ2 H2 => wipe σ2 vs = wipe σ vs ∧ tt σ2 H2 fun b H3 =>
    if b = true then te σ2 H3 fun y H4 => ∃ acc, H4 D = some (.lst acc) ∧ acc.length < sizeLine ∧ Nx (upd H4 D (.lst (acc ++ [y]))) else Nx H3)
theorem w_lcL (k : tl σ H fun x H1 => ∃ a, x = .ref a ∧ (∃ xs, SqL K H1 a xs) ∧ ∀ D, H1 D = none → WLc (Itl K a) g tt te vs σ D H1 Q) : tLc (iList K tl) g tt te vs σ H Q := k
theorem w_lcT (k : tl σ H fun x H1 => ∃ a, x = .ref a ∧ (∃ xs, SqT K H1 a xs) ∧ ∀ D, H1 D = none → WLc (Itt K a) g tt te vs σ D H1 Q) : tLc (iTup K tl) g tt te vs σ H Q := k
theorem w_lcR1 (k : ta σ H fun us H1 => ∃ j : Int, us = [.int j] ∧ -(2 ^ 62) ≤ j ∧ j < 2 ^ 62 ∧ ∀ D, H1 D = none → WLc (Itr 0 j.toNat) g tt te vs σ D H1 Q) : tLc (iRng1 ta) g tt te vs σ H Q := k
theorem wipe1 (σ : L2.St) (j : Nat) (x : Option V) : wipe ((wipe σ [j]).set j x) [j] = wipe σ [j] := by
  show (((σ.set j none).set j x).set j none) = σ.set j none
  rw [List.set_set, List.set_set]
def LcEnd (D : Addr) (Pv : Nat → List V → Hp → Prop) (i : Nat) (y : V) (H4 : Hp) : Prop := ∃ acc, H4 D = some (.lst acc) ∧ acc.length < sizeLine ∧
  ∃ ys, ys.length ≤ i + 1 ∧ upd H4 D (.lst (acc ++ [y])) D = some (.lst ys) ∧ Pv (i + 1) ys (upd H4 D (.lst (acc ++ [y])))
theorem lc_end {D : Addr} {Pv : Nat → List V → Hp → Prop} {i : Nat} {y : V} {H4 : Hp} {ys : List V} (h : H4 D = some (.lst ys)) (hl : ys.length ≤ i) (hz : ys.length < sizeLine) (k : ∀ H', But D H4 H' → H' D = some (.lst (ys ++ [y])) → Pv (i + 1) (ys ++ [y]) H') : LcEnd D Pv i y H4 :=
  ⟨ys, h, hz, ys ++ [y], by rw [List.length_append]; exact Nat.succ_le_succ hl, upd_same, k _ (But.upd _ _ _) upd_same⟩
def LcSkip (D : Addr) (Pv : Nat → List V → Hp → Prop) (i : Nat) (H4 : Hp) : Prop := ∃ ys, ys.length ≤ i + 1 ∧ H4 D = some (.lst ys) ∧ Pv (i + 1) ys H4
theorem lc_skip {D : Addr} {Pv : Nat → List V → Hp → Prop} {i : Nat} {H4 : Hp} {ys : List V} (h : H4 D = some (.lst ys)) (hl : ys.length ≤ i) (k : Pv (i + 1) ys H4) : LcSkip D Pv i H4 := ⟨ys, Nat.le_succ_of_le hl, h, k⟩
/-- over a list: the word by the turn, the list so far, the heap; any test -/
theorem lc_L (xs : List V) (Pv : Addr → Nat → List V → Hp → Prop) (hS : SqL K H a xs) (h0 : ∀ D H', H D = none → Same H H' → H' D = some (.lst []) → Pv D 0 [] H')
    (hl : ∀ D, H D = none → ∀ i ys H', i ≤ xs.length → H' D = some (.lst ys) → Pv D i ys H' → SqL K H' a xs)
    (hs : ∀ D, H D = none → ∀ i x ys H', xs[i]? = some x → ys.length ≤ i → H' D = some (.lst ys) → Pv D i ys H' → tt ((wipe σ [j]).set j (some x)) H' fun b H3 => if b = true then te ((wipe σ [j]).set j (some x)) H3 fun y H4 => LcEnd D (Pv D) i y H4 else LcSkip D (Pv D) i H3)
    (hd : ∀ D, H D = none → ∀ ys H', ys.length ≤ xs.length → H' D = some (.lst ys) → Pv D xs.length ys H' → Q (.ref D) H') :
    ∃ b, V.ref a = .ref b ∧ (∃ xs, SqL K H b xs) ∧ ∀ D, H D = none → WLc (Itl K b) (gName j) tt te [j] σ D H Q :=
  ⟨a, rfl, ⟨xs, hS⟩, fun D hD => lc_list (xs := xs) (fun i H' => ∃ ys, ys.length ≤ i ∧ H' D = some (.lst ys) ∧ Pv D i ys H') ⟨[], Nat.le_refl _, upd_same, h0 D _ hD (Same.one hD) upd_same⟩ (fun i H' hi ⟨ys, _, e, p⟩ => hl D hD i ys H' hi e p)
    (fun i x H' hi ⟨ys, e, e2, p⟩ => ⟨wipe1 _ _ _, hs D hD i x ys H' hi e e2 p⟩) (fun H' ⟨ys, e, e2, p⟩ => hd D hD ys H' e e2 p)⟩
theorem lc_T (xs : List V) (Pv : Addr → Nat → List V → Hp → Prop) (hS : SqT K H a xs) (h0 : ∀ D H', H D = none → Same H H' → H' D = some (.lst []) → Pv D 0 [] H')
    (hl : ∀ D, H D = none → ∀ i ys H', i ≤ xs.length → H' D = some (.lst ys) → Pv D i ys H' → SqT K H' a xs)
    (hs : ∀ D, H D = none → ∀ i x ys H', xs[i]? = some x → ys.length ≤ i → H' D = some (.lst ys) → Pv D i ys H' → tt ((wipe σ [j]).set j (some x)) H' fun b H3 => if b = true then te ((wipe σ [j]).set j (some x)) H3 fun y H4 => LcEnd D (Pv D) i y H4 else LcSkip D (Pv D) i H3)
    (hd : ∀ D, H D = none → ∀ ys H', ys.length ≤ xs.length → H' D = some (.lst ys) → Pv D xs.length ys H' → Q (.ref D) H') :
    ∃ b, V.ref a = .ref b ∧ (∃ xs, SqT K H b xs) ∧ ∀ D, H D = none → WLc (Itt K b) (gName j) tt te [j] σ D H Q :=
  ⟨a, rfl, ⟨xs, hS⟩, fun D hD => lc_tup (xs := xs) (fun i H' => ∃ ys, ys.length ≤ i ∧ H' D = some (.lst ys) ∧ Pv D i ys H') ⟨[], Nat.le_refl _, upd_same, h0 D _ hD (Same.one hD) upd_same⟩ (fun i H' hi ⟨ys, _, e, p⟩ => hl D hD i ys H' hi e p)
    (fun i x H' hi ⟨ys, e, e2, p⟩ => ⟨wipe1 _ _ _, hs D hD i x ys H' hi e e2 p⟩) (fun H' ⟨ys, e, e2, p⟩ => hd D hD ys H' e e2 p)⟩
theorem lc_R1 {n : Int} (Pv : Addr → Nat → List V → Hp → Prop) (hb0 : -(2 ^ 62) ≤ n) (hb : n < 2 ^ 62) (h0 : ∀ D H', H D = none → Same H H' → H' D = some (.lst []) → Pv D 0 [] H')
    (hs : ∀ D, H D = none → ∀ (i : Nat) ys H', i < n.toNat → ys.length ≤ i → H' D = some (.lst ys) → Pv D i ys H' → tt ((wipe σ [j]).set j (some (.int (i : Int)))) H' fun b H3 => if b = true then te ((wipe σ [j]).set j (some (.int (i : Int)))) H3 fun y H4 => LcEnd D (Pv D) i y H4 else LcSkip D (Pv D) i H3)
    (hd : ∀ D, H D = none → ∀ ys H', ys.length ≤ n.toNat → H' D = some (.lst ys) → Pv D n.toNat ys H' → Q (.ref D) H') :
    ∃ m : Int, [V.int n] = [.int m] ∧ -(2 ^ 62) ≤ m ∧ m < 2 ^ 62 ∧ ∀ D, H D = none → WLc (Itr 0 m.toNat) (gName j) tt te [j] σ D H Q :=
  ⟨n, rfl, hb0, hb, fun D hD => lc_range (lo := 0) (n := n.toNat) (fun i H' => ∃ ys, ys.length ≤ i ∧ H' D = some (.lst ys) ∧ Pv D i ys H') ⟨[], Nat.le_refl _, upd_same, h0 D _ hD (Same.one hD) upd_same⟩
    (fun i H' hi ⟨ys, e, e2, p⟩ => by
      rw [Int.zero_add]
      exact ⟨wipe1 _ _ _, hs D hD i ys H' hi e e2 p⟩) (fun H' ⟨ys, e, e2, p⟩ => hd D hD ys H' e e2 p)⟩
theorem w_yes {R : Bool → Hp → Prop} (k : R true H) : tYes σ H R := k
end

/-! ### data -/
mutual
/-- data of None, ints, texts, lists, tuples, not too deep: what == tells of it is whether it is the same -/
def clean : PyData → Bool
  | .none => true
  | .int _ => true
  | .str x => PyData.strOk x
  | .list xs => cleanAll xs
  | .tuple xs => cleanAll xs
  | .bool _ => false
  | .dict _ => false
def cleanAll : List PyData → Bool
  | [] => true
  | x :: xs => clean x && cleanAll xs
end
mutual
theorem clean_lay : ∀ d : PyData, clean d = true → d.canLay0 = true
  | .none, _ => by rw [PyData.canLay0]
  | .int _, _ => by rw [PyData.canLay0]
  | .str x, h => by rw [PyData.canLay0]; rw [clean] at h; exact h
  | .list xs, h => by rw [PyData.canLay0]; rw [clean] at h; exact cleanAll_lay xs h
  | .tuple xs, h => by rw [PyData.canLay0]; rw [clean] at h; exact cleanAll_lay xs h
  | .bool _, h => by rw [clean] at h; cases h
  | .dict _, h => by rw [clean] at h; cases h
theorem cleanAll_lay : ∀ ds : List PyData, cleanAll ds = true → PyData.canLayAll0 ds = true
  | [], _ => by rw [PyData.canLayAll0]
  | x :: xs, h => by
    rw [cleanAll, Bool.and_eq_true] at h
    rw [PyData.canLayAll0, clean_lay x h.1, cleanAll_lay xs h.2]; rfl
end
mutual
theorem clean_eqv : ∀ d e : PyData, clean d = true → clean e = true → (PyData.eqv d e = true ↔ d = e)
  | .none, e, _, _ => by cases e <;> simp [PyData.eqv]
  | .int i, e, _, he => by cases e <;> simp [PyData.eqv]; simp [clean] at he
  | .str x, e, _, _ => by cases e <;> simp [PyData.eqv]
  | .list xs, e, h, he => by
    cases e <;> simp [PyData.eqv]
    simp only [clean] at h he
    exact cleanAll_eqv xs _ h he
  | .tuple xs, e, h, he => by
    cases e <;> simp [PyData.eqv]
    simp only [clean] at h he
    exact cleanAll_eqv xs _ h he
  | .bool _, _, h, _ => by simp [clean] at h
  | .dict _, _, h, _ => by simp [clean] at h
theorem cleanAll_eqv : ∀ ds es : List PyData, cleanAll ds = true → cleanAll es = true → (PyData.eqvAll ds es = true ↔ ds = es)
  | [], es, _, _ => by cases es <;> simp [PyData.eqvAll]
  | x :: xs, [], _, _ => by simp [PyData.eqvAll]
  | x :: xs, y :: ys, h, he => by
    simp only [cleanAll, Bool.and_eq_true] at h he
    simp only [PyData.eqvAll, Bool.and_eq_true, clean_eqv x y h.1 he.1, cleanAll_eqv xs ys h.2 he.2, List.cons.injEq]
end
/-- to be compared by == -/
structure Cmp (d : PyData) : Prop where
  clean : clean d = true
  depth : d.depth ≤ 64
theorem Cmp.shaped {d : PyData} (c : Cmp d) : SeqAt.shaped d = true := by
  unfold SeqAt.shaped
  rw [clean_lay d c.clean, Bool.true_and, decide_eq_true_eq]
  exact c.depth
theorem eqv_iff {d e : PyData} (c : Cmp d) (c' : Cmp e) : PyData.eqv d e = true ↔ d = e := clean_eqv d e c.clean c'.clean
open Classical in
theorem w_eqP {K : PySem.W.Frag} {H : Hp} {x y : V} {Q : VK} {d e : PyData} (hd : Dp K H x d) (he : Dp K H y e) (cd : Cmp d) (ce : Cmp e) (k : ∀ b : Bool, (b = true ↔ d = e) → Q (.bl b) H) : rEqA K x y H Q :=
  w_eqD hd he cd.shaped ce.shaped (k _ (eqv_iff cd ce))
theorem w_neP {K : PySem.W.Frag} {H : Hp} {x y : V} {Q : VK} {d e : PyData} (hd : Dp K H x d) (he : Dp K H y e) (cd : Cmp d) (ce : Cmp e) (k : ∀ b : Bool, (b = true ↔ d ≠ e) → Q (.bl b) H) : rNeA K x y H Q :=
  w_neD hd he cd.shaped ce.shaped (k _ (by
    have h := eqv_iff cd ce
    cases hb : PyData.eqv d e <;> rw [hb] at h <;> simp at h ⊢ <;> exact h))
theorem dpAll_ints {K : PySem.W.Frag} {H : Hp} : ∀ ns : List Int, DpAll K H (ns.map V.int) (ns.map PyData.int)
  | [] => .nil
  | n :: ns => .cons (.int n) (dpAll_ints ns)
theorem dp_ints {K : PySem.W.Frag} {H : Hp} {a : Addr} {ns : List Int} (h : SqL K H a (ns.map V.int)) : Dp K H (.ref a) (.list (ns.map PyData.int)) := .lst h (dpAll_ints ns)
theorem cleanAll_ints : ∀ ns : List Int, cleanAll (ns.map PyData.int) = true
  | [] => by simp [cleanAll]
  | n :: ns => by rw [List.map_cons, cleanAll, cleanAll_ints ns, clean]; rfl
theorem depthAll_ints : ∀ ns : List Int, PyData.depthAll (ns.map PyData.int) = 0
  | [] => by simp [PyData.depthAll]
  | n :: ns => by rw [List.map_cons, PyData.depthAll, depthAll_ints ns, PyData.depth]; rfl
theorem cmp_ints (ns : List Int) : Cmp (.list (ns.map PyData.int)) := ⟨by rw [clean]; exact cleanAll_ints ns, by rw [PyData.depth, depthAll_ints]; decide⟩
theorem map_int_inj {ns ms : List Int} : PyData.list (ns.map PyData.int) = .list (ms.map PyData.int) ↔ ns = ms := by
  constructor
  · intro h
    have h2 : ns.map PyData.int = ms.map PyData.int := by injection h
    exact (List.map_inj_right (f := PyData.int) (fun x y e => by injection e)).mp h2
  · intro h; rw [h]
theorem w_eqIL {K : PySem.W.Frag} {H : Hp} {p q : Addr} {Q : VK} {ns ms : List Int} (h1 : SqL K H p (ns.map V.int)) (h2 : SqL K H q (ms.map V.int)) (k : Q (.bl (decide (ns = ms))) H) : rEqA K (.ref p) (.ref q) H Q :=
  w_eqP (dp_ints h1) (dp_ints h2) (cmp_ints _) (cmp_ints _) fun b hb => by
    rw [map_int_inj] at hb
    rw [show b = decide (ns = ms) by rw [Bool.eq_iff_iff, hb, decide_eq_true_eq]]
    exact k
theorem w_neIL {K : PySem.W.Frag} {H : Hp} {p q : Addr} {Q : VK} {ns ms : List Int} (h1 : SqL K H p (ns.map V.int)) (h2 : SqL K H q (ms.map V.int)) (k : Q (.bl (!decide (ns = ms))) H) : rNeA K (.ref p) (.ref q) H Q :=
  w_neP (dp_ints h1) (dp_ints h2) (cmp_ints _) (cmp_ints _) fun b hb => by
    rw [ne_eq, map_int_inj] at hb
    rw [show b = !decide (ns = ms) by rw [Bool.eq_iff_iff, hb]; simp]
    exact k
/-! slices -/
section
variable {K : PySem.W.Frag} {σ : L2.St} {H : Hp} {te : TE} {tl th : TO} {Q : VK} {a : Addr} {xs : List V} {lo hi : Option Int}
theorem sl_any {X : Cx} {K : PySem.W.Frag} (hK : X.K = K) : SlR X (rSlAny K) := by
  subst hK
  exact sl_list.or (sl_str.or sl_tupA)
theorem w_sl {r : V → Option Int → Option Int → Hp → VK → Prop} (k : te σ H fun x H1 => tl σ H1 fun l H2 => th σ H2 fun u H3 => r x l u H3 Q) : tSl r te tl th σ H Q := k
theorem w_noPart {R : Option Int → Hp → Prop} (k : R none H) : tNoPart σ H R := k
theorem w_part {R : Option Int → Hp → Prop} (k : te σ H fun x H1 => ∃ i, x = .int i ∧ R (some i) H1) : tPart te σ H R := k
theorem w_int {R : Int → Prop} {n : Int} (k : R n) : ∃ i, V.int n = .int i ∧ R i := ⟨n, rfl, k⟩
theorem w_slL (h : SqL K H a xs) (k : NewO (.lst (cutV xs lo hi)) H Q) : rSlAny K (.ref a) lo hi H Q := .inl ⟨a, xs, rfl, h, k⟩
theorem w_slS {z : Str} (h : z.length ≤ sizeLine) (k : Q (.str (cutS z lo hi)) H) : rSlAny K (.str z) lo hi H Q := .inr (.inl ⟨z, rfl, h, k⟩)
theorem w_rep {l : Addr} {n : Int} (h : H l = some (.lst xs)) (h0 : -(2 ^ 63) ≤ n) (h1 : n < 2 ^ 63) (hz : xs.length * n.toNat ≤ sizeLine) (k : NewO (.lst (List.replicate n.toNat xs).flatten) H Q) : rMulA (.ref l) (.int n) H Q :=
  .inr ⟨l, n, xs, rfl, rfl, h, h0, h1, hz, k⟩
end

/-! ### unpacking: a tuple or a list -/
def gSeq (K : PySem.W.Frag) (n : Nat) (t : TGs) : TG := fun v σ H Q => gLst K n t v σ H Q ∨ gTup K n t v σ H Q
theorem pg_seq {X : Cx} {K : PySem.W.Frag} {pos : Pos} {es : List Expr} {k : Nat} {t : TGs} (n : Nat) (hK : X.K = K) (hc : X.calm = true) (h : PGs X es t)
    (hn : (assignEach es X.env).length = n := by rfl) (hst : (assignEach es X.env).findIdx? (·.1) = none := by rfl) : PG X (.Tuple es k pos) (gSeq K n t) := by
  subst hK
  refine ⟨fun pins s σ H v u Q I r hw => ?_⟩
  rcases hw with hw | hw
  · exact (pg_lst hc h hn hst).run pins s σ H v u Q I r hw
  · exact (pg_tup hc h hn hst).run pins s σ H v u Q I r hw
section
variable {K : PySem.W.Frag} {σ : L2.St} {H : Hp} {R : L2.St → Hp → Prop} {t : TGs} {g : TG} {xs : List V} {a : Addr} {v : V} {n : Nat}
theorem w_seqL (h : SqL K H a xs) (hl : xs.length = n) (k : t xs σ H R) : gSeq K n t (.ref a) σ H R := .inl ⟨a, xs, rfl, h, hl, k⟩
theorem w_seqT (h : SqT K H a xs) (hl : xs.length = n) (k : t xs σ H R) : gSeq K n t (.ref a) σ H R := .inr ⟨a, xs, rfl, h, hl, k⟩
theorem w_gNil (k : R σ H) : gNil [] σ H R := ⟨rfl, k⟩
theorem w_gCons (k : g v σ H fun σ' H' => t xs σ' H' R) : gCons g t (v :: xs) σ H R := ⟨v, xs, rfl, k⟩
end

/-! ### walks of any kind -/
section
variable {K : PySem.W.Frag} {σ : L2.St} {H : Hp} {a b D : Addr} {xs ys : List V} {g : TG} {tb : TS} {nx : L2.St → Hp → Prop} {rt : VK} {bk ct : L2.St → Hp → Prop} {tl te : TE} {ta : TA} {tt : TT} {Q : VK} {vs : List Nat} {J : It} {n : Nat} {G : Hp → Prop} {Y : Nat → Hp → V → Hp → Prop}
theorem wfor_it (w : Walk J n G Y) (Pv : Nat → L2.St → Hp → Prop) (h0 : Pv 0 σ H) (hG : ∀ i σ H, i ≤ n → Pv i σ H → G H)
    (hs : ∀ i x σ H H', i < n → Pv i σ H → Y i H x H' → g x σ H' fun σ2 H2 => tb ⟨Pv (i + 1), rt, nx, Pv (i + 1)⟩ σ2 H2) (hd : ∀ σ H, Pv n σ H → nx σ H) : WFor J g tb nx rt σ H :=
  for_it (D := ⟨nx, rt, fun _ _ => False, fun _ _ => False⟩) w Pv h0 hG hs hd
theorem wlc_it (w : Walk J n G Y) (Pv : Addr → Nat → List V → Hp → Prop) (h0 : ∀ D H', H D = none → Same H H' → H' D = some (.lst []) → Pv D 0 [] H') (hG : ∀ D, H D = none → ∀ i ys H', i ≤ n → H' D = some (.lst ys) → Pv D i ys H' → G H')
    (hs : ∀ D, H D = none → ∀ i x ys H0 H', i < n → ys.length ≤ i → H0 D = some (.lst ys) → Pv D i ys H0 → Y i H0 x H' → g x (wipe σ vs) H' fun σ2 H2 => wipe σ2 vs = wipe σ vs ∧ tt σ2 H2 fun b H3 => if b = true then te σ2 H3 fun y H4 => LcEnd D (Pv D) i y H4 else LcSkip D (Pv D) i H3)
    (hd : ∀ D, H D = none → ∀ ys H', ys.length ≤ n → H' D = some (.lst ys) → Pv D n ys H' → Q (.ref D) H') : ∀ D, H D = none → WLc J g tt te vs σ D H Q := fun D hD =>
  lc_it w (fun i H' => ∃ ys, ys.length ≤ i ∧ H' D = some (.lst ys) ∧ Pv D i ys H') ⟨[], Nat.le_refl _, upd_same, h0 D _ hD (Same.one hD) upd_same⟩ (fun i H' hi ⟨ys, _, e, p⟩ => hG D hD i ys H' hi e p)
    (fun i x H0 H' hi ⟨ys, e, e2, p⟩ y => hs D hD i x ys H0 H' hi e e2 p y) (fun H' ⟨ys, e, e2, p⟩ => hd D hD ys H' e e2 p)
theorem w_forZ (k : ta σ H fun vs H1 => ∃ a b xs ys, vs = [.ref a, .ref b] ∧ SqL K H1 a xs ∧ SqL K H1 b ys ∧ WFor (Itz K a b) g tb nx rt σ H1) : tFor (iZip K ta) g tb ⟨nx, rt, bk, ct⟩ σ H := k
theorem w_forE (k : ta σ H fun vs H1 => ∃ a xs, vs = [.ref a] ∧ SqL K H1 a xs ∧ WFor (Ite K a) g tb nx rt σ H1) : tFor (iEnum K ta) g tb ⟨nx, rt, bk, ct⟩ σ H := k
theorem w_forV (k : te σ H fun v H1 => ∃ (a : Addr) (xs : List V), v = .ref a ∧ ((SqL K H1 a xs ∧ WFor (Itv K a xs.length) g tb nx rt σ H1) ∨ (SqT K H1 a xs ∧ WFor (RT.ItvT K a xs.length) g tb nx rt σ H1))) : tFor (RT.iRevA K te) g tb ⟨nx, rt, bk, ct⟩ σ H := k
theorem w_lcZ (k : ta σ H fun us H1 => ∃ a b xs ys, us = [.ref a, .ref b] ∧ SqL K H1 a xs ∧ SqL K H1 b ys ∧ ∀ D, H1 D = none → WLc (Itz K a b) g tt te vs σ D H1 Q) : tLc (iZip K ta) g tt te vs σ H Q := k
theorem w_lcE (k : ta σ H fun us H1 => ∃ a xs, us = [.ref a] ∧ SqL K H1 a xs ∧ ∀ D, H1 D = none → WLc (Ite K a) g tt te vs σ D H1 Q) : tLc (iEnum K ta) g tt te vs σ H Q := k
/-- zip of two lists, each turn a new pair -/
theorem fl_zip (Pv : Nat → L2.St → Hp → Prop) (hx : SqL K H a xs) (hy : SqL K H b ys) (h0 : Pv 0 σ H) (hG : ∀ i σ H, i ≤ min xs.length ys.length → Pv i σ H → SqL K H a xs ∧ SqL K H b ys)
    (hs : ∀ i x y T σ H H', xs[i]? = some x → ys[i]? = some y → Pv i σ H → H T = none → Same H H' → H' T = some (.tup [x, y]) → g (.ref T) σ H' fun σ2 H2 => tb ⟨Pv (i + 1), rt, nx, Pv (i + 1)⟩ σ2 H2) (hd : ∀ σ H, Pv (min xs.length ys.length) σ H → nx σ H) :
    ∃ p q us ws, [V.ref a, .ref b] = [.ref p, .ref q] ∧ SqL K H p us ∧ SqL K H q ws ∧ WFor (Itz K p q) g tb nx rt σ H :=
  ⟨a, b, xs, ys, rfl, hx, hy, wfor_it (walk_zip rfl) Pv h0 hG (fun i v σ H H' hi p ⟨T, x, y, e, nT, e2, h1, h2⟩ => by subst e e2; exact hs i x y T σ H _ h1 h2 p nT (Same.one nT) upd_same) hd⟩
theorem fl_enum (Pv : Nat → L2.St → Hp → Prop) (hx : SqL K H a xs) (h0 : Pv 0 σ H) (hG : ∀ i σ H, i ≤ xs.length → Pv i σ H → SqL K H a xs)
    (hs : ∀ i x T σ H H', xs[i]? = some x → Pv i σ H → H T = none → Same H H' → H' T = some (.tup [.int (i : Nat), x]) → g (.ref T) σ H' fun σ2 H2 => tb ⟨Pv (i + 1), rt, nx, Pv (i + 1)⟩ σ2 H2) (hd : ∀ σ H, Pv xs.length σ H → nx σ H) :
    ∃ p us, [V.ref a] = [.ref p] ∧ SqL K H p us ∧ WFor (Ite K p) g tb nx rt σ H :=
  ⟨a, xs, rfl, hx, wfor_it walk_enum Pv h0 hG (fun i v σ H H' hi p ⟨T, x, y, e, nT, e2, h1, h2⟩ => by
    subst e e2
    obtain rfl : V.int (i : Nat) = x := Option.some.inj h1
    exact hs i y T σ H _ h2 p nT (Same.one nT) upd_same) hd⟩
theorem fl_rev (Pv : Nat → L2.St → Hp → Prop) (hx : SqL K H a xs) (h0 : Pv 0 σ H) (hG : ∀ i σ H, i ≤ xs.length → Pv i σ H → SqL K H a xs)
    (hs : ∀ i x σ H, i < xs.length → xs[xs.length - 1 - i]? = some x → Pv i σ H → g x σ H fun σ2 H2 => tb ⟨Pv (i + 1), rt, nx, Pv (i + 1)⟩ σ2 H2) (hd : ∀ σ H, Pv xs.length σ H → nx σ H) :
    ∃ (p : Addr) (us : List V), V.ref a = .ref p ∧ ((SqL K H p us ∧ WFor (Itv K p us.length) g tb nx rt σ H) ∨ (SqT K H p us ∧ WFor (RT.ItvT K p us.length) g tb nx rt σ H)) :=
  ⟨a, xs, rfl, .inl ⟨hx, wfor_it walk_rev Pv h0 hG (fun i x σ H H' hi p ⟨e, h⟩ => by subst e; exact hs i x σ _ hi h p) hd⟩⟩
/-- [e for x, y in zip(xs, ys) if ..], its names at i and j -/
theorem wipe2 (σ : L2.St) (i j : Nat) (x y : Option V) (h : i ≠ j) : wipe (((wipe σ [i, j]).set i x).set j y) [i, j] = wipe σ [i, j] := by
  show ((((((σ.set j none).set i none).set i x).set j y).set j none).set i none) = (σ.set j none).set i none
  apply List.ext_getElem?
  intro k
  simp only [List.getElem?_set, List.length_set]
  grind
theorem lc_zip {i0 j0 : Nat} (hij : i0 ≠ j0) (Pv : Addr → Nat → List V → Hp → Prop) (hx : SqL K H a xs) (hy : SqL K H b ys) (h0 : ∀ D H', H D = none → Same H H' → H' D = some (.lst []) → Pv D 0 [] H')
    (hG : ∀ D, H D = none → ∀ i zs H', i ≤ min xs.length ys.length → H' D = some (.lst zs) → Pv D i zs H' → SqL K H' a xs ∧ SqL K H' b ys)
    (hs : ∀ D, H D = none → ∀ i x y zs H0 H', xs[i]? = some x → ys[i]? = some y → zs.length ≤ i → H0 D = some (.lst zs) → Pv D i zs H0 → Same H0 H' → tt (((wipe σ [i0, j0]).set i0 (some x)).set j0 (some y)) H' fun b H3 => if b = true then te (((wipe σ [i0, j0]).set i0 (some x)).set j0 (some y)) H3 fun y H4 => LcEnd D (Pv D) i y H4 else LcSkip D (Pv D) i H3)
    (hd : ∀ D, H D = none → ∀ zs H', zs.length ≤ min xs.length ys.length → H' D = some (.lst zs) → Pv D (min xs.length ys.length) zs H' → Q (.ref D) H') :
    ∃ p q us ws, [V.ref a, .ref b] = [.ref p, .ref q] ∧ SqL K H p us ∧ SqL K H q ws ∧ ∀ D, H D = none → WLc (Itz K p q) (gSeq K 2 (gCons (gName i0) (gCons (gName j0) gNil))) tt te [i0, j0] σ D H Q :=
  ⟨a, b, xs, ys, rfl, hx, hy, wlc_it (walk_zip rfl) Pv h0 hG (fun D hD i v zs H0 H' hi hl e p ⟨T, x, y, ev, nT, e2, h1, h2⟩ => by
    subst ev e2
    exact w_seqT (SqT.of upd_same) rfl (w_gCons (w_gName (w_gCons (w_gName (w_gNil ⟨wipe2 _ _ _ _ _ hij, hs D hD i x y zs H0 _ h1 h2 hl e p (Same.one nT)⟩)))))) hd⟩
end
/-! ### isinstance -/
section
variable {K : PySem.W.Frag} {H : Hp} {Q : VK} {x : V}
theorem call_isiA {X : Cx} {K : PySem.W.Frag} (hK : X.K = K) : CallR X (.builtin "isinstance") (rIsi K) := by
  subst hK
  exact call_isi
theorem pe_gS {X : Cx} {x z : Str} {pos : Pos} (hg : Gl X x) (hm : ∃ t, X.mg x = some (.str z t)) (hd : (x == ("__debug__" : Str)) = false := by decide) : PE X (.Name x pos) (tC (.str z)) := by
  obtain ⟨t, hm⟩ := hm
  exact pe_glob hg hm ⟨t, rfl⟩ hd
theorem pe_gI {X : Cx} {x : Str} {z : Int} {pos : Pos} (hg : Gl X x) (hm : ∃ t, X.mg x = some (.int z t)) (hd : (x == ("__debug__" : Str)) = false := by decide) : PE X (.Name x pos) (tC (.int z)) := by
  obtain ⟨t, hm⟩ := hm
  exact pe_glob hg hm ⟨t, rfl⟩ hd
theorem w_isi {T : String} {a : String} {b : Bool} (h : TyX K H x (.type a)) (e : kitB a T = some b) (k : Q (.bl b) H) : rIsi K [x, .ty T] H Q := ⟨x, .ty T, .type a, .type T, b, rfl, .ty T, h, kit_ty e, k⟩
theorem ty_int {n : Int} : TyX K H (.int n) (.type "int") := .base (.int n)
theorem ty_bl {n : Bool} : TyX K H (.bl n) (.type "bool") := .base (.bl n)
theorem ty_str {n : Str} : TyX K H (.str n) (.type "str") := .base (.str n)
theorem ty_non : TyX K H .non (.type "NoneType") := .base .non
theorem ty_lst {a : Addr} {xs : List V} (h : H a = some (.lst xs)) : TyX K H (.ref a) (.type "list") := .base (.lst h)
theorem ty_sqT {a : Addr} {xs : List V} (h : SqT K H a xs) : TyX K H (.ref a) (.type "tuple") := by
  rcases h with (h | ⟨o, h⟩) | ⟨o, its, n, e, c, _⟩
  · exact .base (.tup h)
  · exact .fTuple h
  · exact .kTuple e c
theorem ty_tup {a : Addr} {xs : List V} (h : H a = some (.tup xs)) : TyX K H (.ref a) (.type "tuple") := .base (.tup h)
theorem ty_dic {a : Addr} {xs : List (Key × V)} (h : H a = some (.dK xs)) : TyX K H (.ref a) (.type "dict") := .base (.dK h)
/-- isinstance with a written tuple of classes -/
def kitAnyB (a : String) : List String → Option Bool
  | [] => some false
  | T :: r => match kitB a T with
    | some true => some true
    | some false => kitAnyB a r
    | none => none
theorem kitAnyB_ok {a : String} : ∀ {Ts : List String} {b : Bool}, kitAnyB a Ts = some b → PySem.W.kitAny K (.type a) (Ts.map Value.type) = some b
  | [], b, h => by
    have : some false = some b := h
    rw [← this]; exact kitAny_nil
  | T :: r, b, h => by
    unfold kitAnyB at h
    cases e : kitB a T with
    | none => rw [e] at h; cases h
    | some c =>
      rw [e] at h
      cases c with
      | true =>
        have : some true = some b := h
        cases this
        exact kitAny_cons (kit_ty e) (fun z => nomatch z) (fun _ => rfl)
      | false => exact kitAny_cons (kit_ty e) (fun _ => kitAnyB_ok h) (fun z => nomatch z)
theorem paired_ty : ∀ Ts : List String, Paired ClsV (Ts.map V.ty) (Ts.map Value.type)
  | [] => .nil
  | T :: r => .cons (.ty T) (paired_ty r)
theorem call_isiTA {X : Cx} {K : PySem.W.Frag} (hK : X.K = K) : CallR X (.builtin "isinstance") (rIsiT K) := by
  subst hK
  exact call_isiT
theorem w_isiT {tp : Addr} {a : String} {b : Bool} (Ts : List String) (h1 : H tp = some (.tup (Ts.map V.ty))) (h : TyX K H x (.type a)) (e : kitAnyB a Ts = some b) (k : Q (.bl b) H) : rIsiT K [x, .ref tp] H Q :=
  ⟨x, tp, _, .type a, _, b, rfl, h1, paired_ty Ts, h, kitAnyB_ok e, k⟩
/-- tuple(xs), list(xs) -/
def rTupOf (K : PySem.W.Frag) : List V → Hp → VK → Prop := fun xs H Q => ∃ p ys, xs = [.ref p] ∧ ((SqL K H p ys ∧ NewO (.tup ys) H Q) ∨ (SqT K H p ys ∧ Q (.ref p) H))
theorem call_tupA {X : Cx} {K : PySem.W.Frag} (hK : X.K = K) : CallR X (.type "tuple") (rTupOf K) := by
  subst hK
  exact call_tuple_of
theorem w_tupL {p : Addr} {ys : List V} (h : SqL K H p ys) (k : NewO (.tup ys) H Q) : rTupOf K [.ref p] H Q := ⟨p, ys, rfl, .inl ⟨h, k⟩⟩
theorem w_tupT {p : Addr} {ys : List V} (h : SqT K H p ys) (k : Q (.ref p) H) : rTupOf K [.ref p] H Q := ⟨p, ys, rfl, .inr ⟨h, k⟩⟩
def rListOf (K : PySem.W.Frag) : List V → Hp → VK → Prop := fun xs H Q => ∃ p ys, xs = [.ref p] ∧ (SqL K H p ys ∨ SqT K H p ys) ∧ NewO (.lst ys) H Q
theorem call_listA {X : Cx} {K : PySem.W.Frag} (hK : X.K = K) : CallR X (.type "list") (rListOf K) := by
  subst hK
  exact call_list_of
theorem w_listL {p : Addr} {ys : List V} (h : SqL K H p ys) (k : NewO (.lst ys) H Q) : rListOf K [.ref p] H Q := ⟨p, ys, rfl, .inl h, k⟩
theorem w_listT {p : Addr} {ys : List V} (h : SqT K H p ys) (k : NewO (.lst ys) H Q) : rListOf K [.ref p] H Q := ⟨p, ys, rfl, .inr h, k⟩
theorem w_slT {σ : L2.St} {lo hi : Option Int} {a : Addr} {xs : List V} (h : SqT K H a xs) (n : ¬ (HT.sIx xs.length 0 lo = 0 ∧ HT.sIx xs.length xs.length hi = xs.length)) (k : NewO (.tup (cutV xs lo hi)) H Q) : rSlAny K (.ref a) lo hi H Q :=
  .inr (.inr ⟨a, xs, rfl, h, fun z => (n z).elim, fun _ => k⟩)
/-- t[1:] -/
theorem cut1 (x : V) (xs : List V) : cutV (x :: xs) (some 1) none = xs := by
  unfold cutV
  have e : HT.sIx (x :: xs).length 0 (some 1) = 1 := by
    show (if (1 : Int) < 0 then ((1 : Int) + ((x :: xs).length : Int)).toNat else min (1 : Int).toNat (x :: xs).length) = 1
    rw [if_neg (by decide), List.length_cons]
    show min 1 (xs.length + 1) = 1
    omega
  rw [e, HT.sIx_none, List.drop_one, List.tail_cons, List.take_of_length_le (by rw [List.length_cons]; omega)]
theorem w_slT1 {σ : L2.St} {a : Addr} {x : V} {xs : List V} (h : SqT K H a (x :: xs)) (k : NewO (.tup xs) H Q) : rSlAny K (.ref a) (some 1) none H Q := w_slT (σ := σ) h (by
  intro ⟨z, _⟩
  have e : HT.sIx (x :: xs).length 0 (some 1) = 1 := by
    show (if (1 : Int) < 0 then ((1 : Int) + ((x :: xs).length : Int)).toNat else min (1 : Int).toNat (x :: xs).length) = 1
    rw [if_neg (by decide), List.length_cons]
    show min 1 (xs.length + 1) = 1
    omega
  rw [e] at z
  cases z) (by rw [cut1]; exact k)
/-- xs[::-1] -/
theorem w_revL {σ : L2.St} {te : TE} (k : te σ H fun x H1 => ∃ a xs, x = .ref a ∧ SqL K H1 a xs ∧ NewO (.lst xs.reverse) H1 Q) : tRevL K te σ H Q := k
theorem w_ref2 {a : Addr} {xs : List V} {R : Addr → List V → Prop} (k : R a xs) : ∃ b ys, V.ref a = .ref b ∧ R b ys := ⟨a, xs, rfl, k⟩
/-- dicts: displays, look-ups -/
theorem w_disp {σ : L2.St} {trs : List (TE × TE)} (k : ∀ p H', H p = none → Same H H' → H' p = some (.dK []) → tPairs trs σ H' fun ps H2 => H2 p = some (.dK []) ∧ ∃ kvs : List (Key × V), ps = kvs.map (fun kv => (kV kv.1, kv.2)) ∧ kvs.length ≤ 15 ∧ ChgO p (.dK (mergeK [] kvs)) H2 (Q (.ref p))) : tDisp trs σ H Q :=
  fun p hp => k p _ hp (Same.one hp) upd_same
theorem w_pairN {σ : L2.St} {R : List (V × V) → Hp → Prop} (k : R [] H) : tPairs [] σ H R := k
theorem w_pairC {σ : L2.St} {tk tv : TE} {r : List (TE × TE)} {R : List (V × V) → Hp → Prop} (k : tk σ H fun x H1 => tv σ H1 fun y H2 => tPairs r σ H2 fun ps H3 => R ((x, y) :: ps) H3) : tPairs ((tk, tv) :: r) σ H R := k
theorem w_dget {σ : L2.St} {td ty : TE} (k : td σ H fun x H1 => ty σ H1 fun y H2 => ∃ a v, x = .ref a ∧ DGet H2 a y (some v) ∧ Q v H2) : tDGet td ty σ H Q := k
theorem w_dgotS {a : Addr} {kvs : List (Key × V)} {z : Str} {v : V} {R : V → Prop} (h : H a = some (.dK kvs)) (e : valV kvs (.inr z) = some v) (k : R v) : ∃ b v, V.ref a = .ref b ∧ DGet H b (.str z) (some v) ∧ R v := ⟨a, v, rfl, by rw [← e]; exact DGet.k (k := .inr z) h, k⟩
theorem w_dgotI {a : Addr} {kvs : List (Key × V)} {z : Int} {v : V} {R : V → Prop} (h : H a = some (.dK kvs)) (e : valV kvs (.inl z) = some v) (k : R v) : ∃ b v, V.ref a = .ref b ∧ DGet H b (.int z) (some v) ∧ R v := ⟨a, v, rfl, by rw [← e]; exact DGet.k (k := .inl z) h, k⟩
/-- texts in lists, and their == -/
theorem dpAll_strs : ∀ ns : List Str, DpAll K H (ns.map V.str) (ns.map PyData.str)
  | [] => .nil
  | n :: ns => .cons (.str n) (dpAll_strs ns)
theorem dp_strs {a : Addr} {ns : List Str} (h : SqL K H a (ns.map V.str)) : Dp K H (.ref a) (.list (ns.map PyData.str)) := .lst h (dpAll_strs ns)
theorem cleanAll_strs : ∀ ns : List Str, (ns.all PyData.strOk) = true → cleanAll (ns.map PyData.str) = true
  | [], _ => by simp [cleanAll]
  | n :: ns, h => by
    rw [List.all_cons, Bool.and_eq_true] at h
    rw [List.map_cons, cleanAll, cleanAll_strs ns h.2, clean, h.1]; rfl
theorem depthAll_strs : ∀ ns : List Str, PyData.depthAll (ns.map PyData.str) = 0
  | [] => by simp [PyData.depthAll]
  | n :: ns => by rw [List.map_cons, PyData.depthAll, depthAll_strs ns, PyData.depth]; rfl
theorem cmp_strs {ns : List Str} (h : (ns.all PyData.strOk) = true) : Cmp (.list (ns.map PyData.str)) := ⟨by rw [clean]; exact cleanAll_strs ns h, by rw [PyData.depth, depthAll_strs]; decide⟩
theorem map_str_inj {ns ms : List Str} : PyData.list (ns.map PyData.str) = .list (ms.map PyData.str) ↔ ns = ms := by
  constructor
  · intro h
    have h2 : ns.map PyData.str = ms.map PyData.str := by injection h
    exact (List.map_inj_right (f := PyData.str) (fun x y e => by injection e)).mp h2
  · intro h; rw [h]
theorem w_eqSL {p q : Addr} {ns ms : List Str} (h1 : SqL K H p (ns.map V.str)) (h2 : SqL K H q (ms.map V.str)) (o1 : (ns.all PyData.strOk) = true) (o2 : (ms.all PyData.strOk) = true) (k : Q (.bl (decide (ns = ms))) H) : rEqA K (.ref p) (.ref q) H Q :=
  w_eqP (dp_strs h1) (dp_strs h2) (cmp_strs o1) (cmp_strs o2) fun b hb => by
    rw [map_str_inj] at hb
    rw [show b = decide (ns = ms) by rw [Bool.eq_iff_iff, hb, decide_eq_true_eq]]
    exact k
theorem w_neSL {p q : Addr} {ns ms : List Str} (h1 : SqL K H p (ns.map V.str)) (h2 : SqL K H q (ms.map V.str)) (o1 : (ns.all PyData.strOk) = true) (o2 : (ms.all PyData.strOk) = true) (k : Q (.bl (!decide (ns = ms))) H) : rNeA K (.ref p) (.ref q) H Q :=
  w_neP (dp_strs h1) (dp_strs h2) (cmp_strs o1) (cmp_strs o2) fun b hb => by
    rw [ne_eq, map_str_inj] at hb
    rw [show b = !decide (ns = ms) by rw [Bool.eq_iff_iff, hb]; simp]
    exact k
/-- a text cut by another one -/
def rSplit : V → List V → Hp → VK → Prop := fun x xs H Q => ∃ a b, x = .str a ∧ xs = [.str b] ∧ (b.length == 0) = false ∧ a.length + 2 ≤ sizeLine ∧ rNewStrs (Txt.split a b) H Q
theorem mt_splitA {X : Cx} : MtR X "str.split" rSplit := mt_split
theorem w_split {a b : Str} {ys : List Str} (e : Txt.split a b = ys) (hb : (b.length == 0) = false) (ha : a.length + 2 ≤ sizeLine) (k : NewO (.lst (ys.map V.str)) H Q) : rSplit (.str a) [.str b] H Q := ⟨a, b, rfl, rfl, hb, ha, by rw [e]; exact k⟩
end

/-! ### what no tuple loses -/
def TS (H H' : Hp) : Prop := ∀ b xs, (H b = some (.tup xs) → H' b = some (.tup xs)) ∧ ∀ u, H b = some (.frz u (.tup xs)) → H' b = some (.frz u (.tup xs))
theorem TS.of {H H' : Hp} (e : Same H H') : TS H H' := fun b _ => ⟨e b _, fun _ => e b _⟩
theorem TS.butL {s : Addr} {H H' : Hp} {ys : List V} (e : But s H H') (t : H s = some (.lst ys)) : TS H H' := fun b _ => ⟨fun h => e b _ (ne_of h t (by intro q; cases q)) h, fun _ h => e b _ (ne_of h t (by intro q; cases q)) h⟩
theorem TS.butS {s : Addr} {H H' : Hp} (e : But s H H') (t : Stm H s) : TS H H' := by
  obtain ⟨_, _, _, t⟩ := t
  exact TS.butL e t
theorem TS.butI {s C dx : Addr} {fs : List (Str × V)} {H H' : Hp} (e : But s H H') (t : H s = some (.ins C dx fs)) : TS H H' := fun b _ => ⟨fun h => e b _ (ne_of h t (by intro q; cases q)) h, fun _ h => e b _ (ne_of h t (by intro q; cases q)) h⟩
theorem TS.trans {H H1 H2 : Hp} (a : TS H H1) (b : TS H1 H2) : TS H H2 := fun c xs => ⟨fun h => (b c xs).1 ((a c xs).1 h), fun u h => (b c xs).2 u ((a c xs).2 u h)⟩
theorem TS.refl (H : Hp) : TS H H := fun _ _ => ⟨fun h => h, fun _ h => h⟩
theorem TS.sqT {K : PySem.W.Frag} {H H' : Hp} {a : Addr} {xs : List V} (e : TS H H') (h : SqT K H a xs) : SqT K H' a xs := by
  rcases h with (h | ⟨o, h⟩) | h
  · exact .inl (.inl ((e a xs).1 h))
  · exact .inl (.inr ⟨o, (e a xs).2 o h⟩)
  · exact .inr h
mutual
/-- tuples all the way -/
def tupD : PyData → Bool
  | .none => true
  | .int _ => true
  | .str _ => true
  | .bool _ => true
  | .list _ => false
  | .tuple xs => tupAll xs
  | .dict _ => false
def tupAll : List PyData → Bool
  | [] => true
  | x :: xs => tupD x && tupAll xs
end
mutual
theorem dp_ts {K : PySem.W.Frag} {H H' : Hp} (e : TS H H') : ∀ (d : PyData) (v : V), tupD d = true → Dp K H v d → Dp K H' v d
  | .none, _, _, h => by cases h; exact .non
  | .int _, _, _, h => by cases h; exact .int _
  | .str _, _, _, h => by cases h; exact .str _
  | .bool _, _, _, h => by cases h; exact .bl _
  | .list _, _, t, _ => by simp [tupD] at t
  | .tuple ds, _, t, h => by
    cases h with
    | tup hs ha => exact .tup (e.sqT hs) (dpAll_ts e ds _ (by simpa [tupD] using t) ha)
  | .dict _, _, t, _ => by simp [tupD] at t
theorem dpAll_ts {K : PySem.W.Frag} {H H' : Hp} (e : TS H H') : ∀ (ds : List PyData) (vs : List V), tupAll ds = true → DpAll K H vs ds → DpAll K H' vs ds
  | [], _, _, h => by cases h; exact .nil
  | d :: ds, _, t, h => by
    rw [tupAll, Bool.and_eq_true] at t
    cases h with
    | cons h1 h2 => exact .cons (dp_ts e d _ t.1 h1) (dpAll_ts e ds _ t.2 h2)
end
section
variable {K : PySem.W.Frag} {H : Hp}
theorem dp_tup {v : V} {ds : List PyData} (h : Dp K H v (.tuple ds)) : ∃ a xs, v = .ref a ∧ SqT K H a xs ∧ DpAll K H xs ds := by
  cases h with
  | tup hs ha => exact ⟨_, _, rfl, hs, ha⟩
theorem dp_str {v : V} {x : Str} (h : Dp K H v (.str x)) : v = .str x := by cases h; rfl
theorem dp_int {v : V} {x : Int} (h : Dp K H v (.int x)) : v = .int x := by cases h; rfl
theorem dpa_nil {vs : List V} (h : DpAll K H vs []) : vs = [] := by cases h; rfl
theorem dpa_cons {vs : List V} {d : PyData} {ds : List PyData} (h : DpAll K H vs (d :: ds)) : ∃ v r, vs = v :: r ∧ Dp K H v d ∧ DpAll K H r ds := by
  cases h with
  | cons a b => exact ⟨_, _, rfl, a, b⟩
theorem dpa_len : ∀ {ds : List PyData} {vs : List V}, DpAll K H vs ds → vs.length = ds.length
  | [], _, h => by cases h; rfl
  | d :: ds, _, h => by
    cases h with
    | cons a b => rw [List.length_cons, List.length_cons, dpa_len b]
theorem dpa_app : ∀ {ds es : List PyData} {vs us : List V}, DpAll K H vs ds → DpAll K H us es → DpAll K H (vs ++ us) (ds ++ es)
  | [], _, _, _, h, h' => by cases h; exact h'
  | d :: ds, _, _, _, h, h' => by
    cases h with
    | cons a b => exact .cons a (dpa_app b h')
theorem dpa_one {v : V} {d : PyData} (h : Dp K H v d) : DpAll K H [v] [d] := .cons h .nil
theorem dpa_at : ∀ {ds : List PyData} {vs : List V} {i : Nat} {d : PyData}, DpAll K H vs ds → ds[i]? = some d → ∃ v, vs[i]? = some v ∧ Dp K H v d
  | [], _, i, _, _, e => by simp at e
  | d :: ds, _, 0, _, h, e => by
    cases h with
    | cons a b => simp at e; subst e; exact ⟨_, rfl, a⟩
  | d :: ds, _, i + 1, _, h, e => by
    cases h with
    | cons a b =>
      have q := dpa_at (ds := ds) (i := i) b (by simpa using e)
      exact q
theorem dpa_at' : ∀ {ds : List PyData} {vs : List V} {i : Nat} {v : V}, DpAll K H vs ds → vs[i]? = some v → ∃ d, ds[i]? = some d ∧ Dp K H v d
  | [], _, i, _, h, e => by cases h; simp at e
  | d :: ds, _, 0, _, h, e => by
    cases h with
    | cons a b => simp at e; subst e; exact ⟨_, rfl, a⟩
  | d :: ds, _, i + 1, _, h, e => by
    cases h with
    | cons a b =>
      have q := dpa_at' (ds := ds) (i := i) b (by simpa using e)
      exact q
theorem tupAll_app : ∀ (a b : List PyData), tupAll (a ++ b) = (tupAll a && tupAll b)
  | [], _ => by simp [tupAll]
  | x :: a, b => by rw [List.cons_append, tupAll, tupAll, tupAll_app a b, Bool.and_assoc]
theorem cleanAll_app : ∀ (a b : List PyData), cleanAll (a ++ b) = (cleanAll a && cleanAll b)
  | [], _ => by simp [cleanAll]
  | x :: a, b => by rw [List.cons_append, cleanAll, cleanAll, cleanAll_app a b, Bool.and_assoc]
end

/-! ### places -/
theorem atI_of {α : Type} {xs : List α} {n : Int} {v : α} (h0 : 0 ≤ n) (h : xs[n.toNat]? = some v) : atI xs n = some v := by
  have e : ((n.toNat : Nat) : Int) = n := Int.toNat_of_nonneg h0
  have q := atI_nat h
  rw [e] at q
  exact q
theorem at0 {α : Type} {a : α} {xs : List α} : atI (a :: xs) 0 = some a := atI_of (Int.le_refl 0) rfl
theorem at1 {α : Type} {a b : α} {xs : List α} : atI (a :: b :: xs) 1 = some b := atI_of (by decide) rfl
theorem at2 {α : Type} {a b c : α} {xs : List α} : atI (a :: b :: c :: xs) 2 = some c := atI_of (by decide) rfl
theorem atI_some {α : Type} {xs : List α} {n : Int} (h0 : 0 ≤ n) (h : n < xs.length) : ∃ v, atI xs n = some v ∧ v ∈ xs ∧ xs[n.toNat]? = some v := by
  have hl : n.toNat < xs.length := by omega
  refine ⟨xs[n.toNat], atI_of h0 (List.getElem?_eq_getElem hl), List.getElem_mem hl, List.getElem?_eq_getElem hl⟩

theorem cdw {i j : Int} (h : 0 < j) (h2 : j < 2 ^ 200) : CDivW i j := wide_div (b := 200) h (by omega) (by decide) (by decide)
/-! ### defs by names -/
/-- the def at f keeps the promise sp -/
def FnA (P : Program) (w : World) (K : PySem.W.Frag) (mg : Str → Option Value) (f : Addr) (k : Nat) (ps : List Str) (sp : Sp) : Prop :=
  ∃ fd, (∀ base, FnOk P w K mg base CX0 k f fd ps sp) ∧ Binds K fd ps [] ∧ ∀ (s : Shared) (us : List Value), us.length = ps.length → BindsTo s fd ⟨us, []⟩ (ps.zip us)
/-- the def of the name x keeps the promise sp -/
structure Fn (P : Program) (w : World) (K : PySem.W.Frag) (mg : Str → Option Value) (x : Str) (k : Nat) (ps : List Str) (sp : Sp) : Prop where
  ex : FnA P w K mg (He.ga K x) k ps sp
  gl : mg x = some (.ref (He.ga K x))
  kp : PySem.W.keepIn K (.ref (He.ga K x)) = true
section
variable {X : Cx} {k : Nat} {x : Str} {ps : List Str} {sp : Sp} {p pos : Pos} {e : Expr} {es : List Expr} {t : TA}
theorem pe_fn (F : Fn X.prog X.w X.K X.mg x k ps sp) (hr : Room k X.A) (hg : Gl X x) (ha : PA X (e :: es) t)
    (hdb : (x == ("__debug__" : Str)) = false := by decide) (he : starEach (e :: es) X.env = (false, eval e X.env) :: starEach es X.env := by rfl) (hpl : (backTo pos (starEach es X.env)).any (·.1) = false := by rfl) :
    PE X (.Call (.Name x p) (e :: es) [] pos) (tCall sp [] E0 t) := by
  obtain ⟨fd, G, b, _⟩ := F.ex
  exact pe_call (G X.base) hr hg F.gl F.kp b .nil pass0 ha hdb he hpl
theorem pe_fn0 (F : Fn X.prog X.w X.K X.mg x k ps sp) (hr : Room k X.A) (hg : Gl X x) (hdb : (x == ("__debug__" : Str)) = false := by decide) :
    PE X (.Call (.Name x p) [] [] pos) (tCall sp [] E0 tNil) := by
  obtain ⟨fd, G, b, _⟩ := F.ex
  exact pe_call0 (G X.base) hr hg F.gl F.kp b .nil pass0 hdb
end
/-- a def's data as the head tells it -/
theorem FnA.mk' {P : Program} {w : World} {K : PySem.W.Frag} {mg : Str → Option Value} {x q : Str} {k : Nat} {N ps : List Str} {sp : Sp} {args : Arguments} {body : List Stmt} {sc : Scope} {f : Addr} {fd : FuncData}
    (F : FunD K x q args body sc [] [] f fd) (S : FnScope N ps sc) (len : ∀ vs H Q E, sp vs H Q E → vs.length = ps.length)
    (hb : ∀ (kV doc pm : Value) (an : Option Addr) (cdv ct : Value) (us : List Value), us.length = ps.length → bindArgs (PySem.W.fnOf x q args body sc .none kV doc pm an cdv ct) ⟨us, []⟩ = pure (ps.zip us))
    (hbody : ∀ (base : Heap) (cdv : Value) (A : Around) (outer : List Env) (s : Shared) (H : Hp) (vs : List V) (Q : VK) (E : XK), Room k (A.deeper (envOfC q sc s.heap.objs.size f cdv)) → sp vs H Q E →
      ∃ t, PSs (cxOf CX0 P w K mg base N q sc f cdv A outer s H E).nox body t ∧ t ⟨fun _ H' => Q .non H', Q, fun _ _ => False, fun _ _ => False⟩ (start N vs) H) : FnA P w K mg f (k + 1) ps sp :=
  ⟨fd, fun base => F.ok S len fun cdv A outer s H vs Q E hr h => by
      obtain ⟨t, d, q⟩ := hbody base cdv A outer s H vs Q E hr h
      exact ⟨t, d.nox, q⟩, F.bindsN hb, F.bindsA hb⟩
theorem Fn.mk' {P : Program} {w : World} {K : PySem.W.Frag} {mg : Str → Option Value} {x : Str} {k : Nat} {N ps : List Str} {sp : Sp} {args : Arguments} {body : List Stmt} {sc : Scope} {fd : FuncData}
    (F : FunD K x x args body sc [] [] (He.ga K x) fd) (gl : mg x = some (.ref (He.ga K x))) (S : FnScope N ps sc) (len : ∀ vs H Q E, sp vs H Q E → vs.length = ps.length)
    (hb : ∀ (kV doc pm : Value) (an : Option Addr) (cdv ct : Value) (us : List Value), us.length = ps.length → bindArgs (PySem.W.fnOf x x args body sc .none kV doc pm an cdv ct) ⟨us, []⟩ = pure (ps.zip us))
    (hbody : ∀ (base : Heap) (cdv : Value) (A : Around) (outer : List Env) (s : Shared) (H : Hp) (vs : List V) (Q : VK) (E : XK), Room k (A.deeper (envOfC x sc s.heap.objs.size (He.ga K x) cdv)) → sp vs H Q E →
      ∃ t, PSs (cxOf CX0 P w K mg base N x sc (He.ga K x) cdv A outer s H E).nox body t ∧ t ⟨fun _ H' => Q .non H', Q, fun _ _ => False, fun _ _ => False⟩ (start N vs) H) : Fn P w K mg x (k + 1) ps sp :=
  ⟨FnA.mk' F S len hb hbody, gl, F.kp⟩
/-! ### classes of the text -/
def tMet (C : Addr) (m : Str) (sp : Sp) (to : TE) (t : TA) : TE := fun σ H Q => to σ H fun x H1 => ∃ a dx fs, x = .ref a ∧ H1 a = some (.ins C dx fs) ∧ fs.lookup m = none ∧ t σ H1 fun vs H2 => sp (x :: vs) H2 Q E0
def tMkI (C : Addr) (sp : Sp) (t : TA) : TE := fun σ H Q => t σ H fun vs H1 => ∀ x dx, H1 x = none → H1 dx = none → dx ≠ x → sp (.ref x :: vs) (upd (upd H1 dx (.own x)) x (.ins C dx [])) (fun v H2 => v = .non ∧ Q (.ref x) H2) E0
theorem tMet_eq (C : Addr) (m : Str) (sp : Sp) (to : TE) (t : TA) : tMeth C m sp [] E0 to t = tMet C m sp to t := by
  unfold tMeth tMet
  simp only [List.append_nil]
theorem tMkI_eq (C : Addr) (sp : Sp) (t : TA) : tMake C sp [] E0 t = tMkI C sp t := by
  unfold tMake tMkI
  simp only [List.append_nil]
theorem PE.or {X : Cx} {e : Expr} {t u : TE} (h : PE X e t) (h' : PE X e u) : PE X e (fun σ H Q => t σ H Q ∨ u σ H Q) := ⟨fun pins s σ H Q I q => by
  rcases q with q | q
  · exact h.run pins s σ H Q I q
  · exact h'.run pins s σ H Q I q⟩
section
variable {X : Cx} {K : PySem.W.Frag} {k : Nat} {m x : Str} {ps : List Str} {sp : Sp} {p pos apos : Pos} {o e : Expr} {es : List Expr} {to : TE} {t : TA} {C : Addr}
theorem pe_met {pl : Sem Bool} (F : FnA X.prog X.w X.K X.mg (He.ma K C m) k ps sp) (hK : X.K = K) (cl : Cls K C) (me : Meth K C m (He.ma K C m)) (hr : Room k X.A) (he : PE X o to) (ha : PA X (e :: es) t)
    (hst : starEach (e :: es) X.env = (false, eval e X.env) :: starEach es X.env := by rfl) (hpl : (backTo pos (starEach es X.env)).any (·.1) = false := by rfl)
    (ht : eval (.Call (.Attribute o m apos) (e :: es) [] pos) X.env = (do
      let ov ← eval o X.env
      standAt apos.atName
      let (f, first) ← holding [ov] (getMethod ov m pl)
      callWith pos f first (backTo pos (starEach (e :: es) X.env)) (backToKw pos (keywordEach [] X.env))) := by rfl) : PE X (.Call (.Attribute o m apos) (e :: es) [] pos) (tMet C m sp to t) := by
  subst hK
  obtain ⟨fd, G, b, _⟩ := F
  rw [← tMet_eq]
  exact pe_meth he cl me (G X.base) hr b .nil pass0 ha hst hpl ht
theorem pe_met0 {pl : Sem Bool} (F : FnA X.prog X.w X.K X.mg (He.ma K C m) k ps sp) (hK : X.K = K) (cl : Cls K C) (me : Meth K C m (He.ma K C m)) (hr : Room k X.A) (he : PE X o to)
    (ht : eval (.Call (.Attribute o m apos) [] [] pos) X.env = (do
      let ov ← eval o X.env
      standAt apos.atName
      let (f, first) ← holding [ov] (getMethod ov m pl)
      callWith pos f first (backTo pos (starEach [] X.env)) (backToKw pos (keywordEach [] X.env))) := by rfl) : PE X (.Call (.Attribute o m apos) [] [] pos) (tMet C m sp to tNil) := by
  subst hK
  obtain ⟨fd, G, b, _⟩ := F
  rw [← tMet_eq]
  exact pe_meth0 he cl me (G X.base) hr b .nil pass0 ht
theorem pe_mkI (F : FnA X.prog X.w X.K X.mg (He.ma K C "__init__") k ps sp) (hK : X.K = K) (M : Mk K C (He.ma K C "__init__")) (hm : X.mg x = some (.ref C)) (hr : Room (k + 1) X.A) (hg : Gl X x) (ha : PA X (e :: es) t)
    (hdb : (x == ("__debug__" : Str)) = false := by decide) (he : starEach (e :: es) X.env = (false, eval e X.env) :: starEach es X.env := by rfl) (hpl : (backTo pos (starEach es X.env)).any (·.1) = false := by rfl) :
    PE X (.Call (.Name x p) (e :: es) [] pos) (tMkI C sp t) := by
  subst hK
  obtain ⟨fd, G, b, _⟩ := F
  rw [← tMkI_eq]
  exact pe_make M (G X.base) hr hg hm b .nil pass0 ha hdb he hpl
theorem pe_mkI0 (F : FnA X.prog X.w X.K X.mg (He.ma K C "__init__") k ps sp) (hK : X.K = K) (M : Mk K C (He.ma K C "__init__")) (hm : X.mg x = some (.ref C)) (hr : Room (k + 1) X.A) (hg : Gl X x)
    (hdb : (x == ("__debug__" : Str)) = false := by decide) : PE X (.Call (.Name x p) [] [] pos) (tMkI C sp tNil) := by
  subst hK
  obtain ⟨fd, G, b, _⟩ := F
  rw [← tMkI_eq]
  exact pe_make0 M (G X.base) hr hg hm b .nil pass0 hdb
theorem pe_fldK {f : Str} (hK : X.K = K) (he : PE X o to) (hb : attributeBase o f X.env (eval o X.env) = eval o X.env := by rfl) : PE X (.Attribute o f pos) (tFld K to f) := by
  subst hK
  exact pe_fld he hb
end
section
variable {K : PySem.W.Frag} {σ : L2.St} {H : Hp} {Q : VK} {p C dx : Addr} {fs : List (Str × V)} {m f : Str} {v y : V} {sp : Sp} {to tv : TE} {t : TA} {nx : L2.St → Hp → Prop} {rt : VK} {bk ct : L2.St → Hp → Prop}
theorem w_met (k : to σ H fun x H1 => ∃ a dx fs, x = .ref a ∧ H1 a = some (.ins C dx fs) ∧ fs.lookup m = none ∧ t σ H1 fun vs H2 => sp (x :: vs) H2 Q E0) : tMet C m sp to t σ H Q := k
theorem w_metAt {R : Prop} (h : H p = some (.ins C dx fs)) (l : fs.lookup m = none) (k : R) : ∃ a dx fs, V.ref p = .ref a ∧ H a = some (.ins C dx fs) ∧ fs.lookup m = none ∧ R := ⟨p, dx, fs, rfl, h, l, k⟩
def NewI (C : Addr) (sp : Sp) (vs : List V) (H : Hp) (Q : VK) : Prop := ∀ x dx, H x = none → H dx = none → dx ≠ x → sp (.ref x :: vs) (upd (upd H dx (.own x)) x (.ins C dx [])) (fun v H2 => v = .non ∧ Q (.ref x) H2) E0
theorem w_mkI (k : t σ H fun vs H1 => NewI C sp vs H1 Q) : tMkI C sp t σ H Q := k
theorem w_newI {vs : List V} (k : ∀ x dx H', H x = none → Same H H' → H' x = some (.ins C dx []) → sp (.ref x :: vs) H' (fun v H2 => v = .non ∧ Q (.ref x) H2) E0) : NewI C sp vs H Q := fun x dx hx hdx ne =>
  k x dx _ hx (fun b o e => by
    rw [upd_ne (ne_of_none e hx), upd_ne (ne_of_none e hdx)]
    exact e) upd_same
theorem w_fld (k : to σ H fun x H1 => ∃ a C dx fs v, x = .ref a ∧ H1 a = some (.ins C dx fs) ∧ Cls K C ∧ NoAttr K C f ∧ fs.lookup f = some v ∧ Q v H1) : tFld K to f σ H Q := k
theorem w_fldAt {R : V → Prop} (h : H p = some (.ins C dx fs)) (cl : Cls K C) (na : NoAttr K C f) (l : fs.lookup f = some v) (k : R v) : ∃ a C dx fs v, V.ref p = .ref a ∧ H a = some (.ins C dx fs) ∧ Cls K C ∧ NoAttr K C f ∧ fs.lookup f = some v ∧ R v := ⟨p, C, dx, fs, v, rfl, h, cl, na, l, k⟩
theorem w_sfld (k : tv σ H fun y H1 => to σ H1 fun x H2 => ∃ a C dx fs, x = .ref a ∧ H2 a = some (.ins C dx fs) ∧ Cls K C ∧ NoAttr K C f ∧ fs.length < 1000 ∧ ChgO a (.ins C dx (putF f y fs)) H2 (nx σ)) : sFld K to tv f ⟨nx, rt, bk, ct⟩ σ H := k
theorem w_sfldAt {S : Hp → Prop} {gs : List (Str × V)} (h : H p = some (.ins C dx fs)) (cl : Cls K C) (na : NoAttr K C f) (hl : fs.length < 1000) (e : putF f y fs = gs) (k : ChgO p (.ins C dx gs) H S) :
    ∃ a C dx fs, V.ref p = .ref a ∧ H a = some (.ins C dx fs) ∧ Cls K C ∧ NoAttr K C f ∧ fs.length < 1000 ∧ ChgO a (.ins C dx (putF f y fs)) H S := ⟨p, C, dx, fs, rfl, h, cl, na, hl, by rw [e]; exact k⟩
end

end J
namespace J
open PySem PySem.Spec PyProof.Rows L2
def top (i : Nat) : Stmt := PySem.Challenge.pw_rowsjoined_k31_steps_for_parts.main.body.getD i (.Pass ⟨0, 0, 0, 0⟩)
abbrev s_wall : Stmt := top 0
abbrev N_wall : List Str := ["k"]
theorem sc_wall : FnScope N_wall ["k"] (defScope s_wall) := ⟨rfl, rfl, rfl, by decide +kernel, rfl, by decide +kernel, by decide +kernel⟩
abbrev s_Step_told : Stmt := inClass (top 2) 0
abbrev N_Step_told : List Str := ["self"]
theorem sc_Step_told : FnScope N_Step_told ["self"] (defScope s_Step_told) := ⟨rfl, rfl, rfl, by decide +kernel, rfl, by decide +kernel, by decide +kernel⟩
abbrev s_Step_sources : Stmt := inClass (top 2) 1
abbrev N_Step_sources : List Str := ["self"]
theorem sc_Step_sources : FnScope N_Step_sources ["self"] (defScope s_Step_sources) := ⟨rfl, rfl, rfl, by decide +kernel, rfl, by decide +kernel, by decide +kernel⟩
abbrev s_Step_changed_places : Stmt := inClass (top 2) 2
abbrev N_Step_changed_places : List Str := ["self"]
theorem sc_Step_changed_places : FnScope N_Step_changed_places ["self"] (defScope s_Step_changed_places) := ⟨rfl, rfl, rfl, by decide +kernel, rfl, by decide +kernel, by decide +kernel⟩
abbrev s_Step_uses_way : Stmt := inClass (top 2) 3
abbrev N_Step_uses_way : List Str := ["self"]
theorem sc_Step_uses_way : FnScope N_Step_uses_way ["self"] (defScope s_Step_uses_way) := ⟨rfl, rfl, rfl, by decide +kernel, rfl, by decide +kernel, by decide +kernel⟩
abbrev s_Step_reads : Stmt := inClass (top 2) 4
abbrev N_Step_reads : List Str := ["self"]
theorem sc_Step_reads : FnScope N_Step_reads ["self"] (defScope s_Step_reads) := ⟨rfl, rfl, rfl, by decide +kernel, rfl, by decide +kernel, by decide +kernel⟩
abbrev s_Step_writes : Stmt := inClass (top 2) 5
abbrev N_Step_writes : List Str := ["self"]
theorem sc_Step_writes : FnScope N_Step_writes ["self"] (defScope s_Step_writes) := ⟨rfl, rfl, rfl, by decide +kernel, rfl, by decide +kernel, by decide +kernel⟩
abbrev s_Step_words : Stmt := inClass (top 2) 6
abbrev N_Step_words : List Str := ["self"]
theorem sc_Step_words : FnScope N_Step_words ["self"] (defScope s_Step_words) := ⟨rfl, rfl, rfl, by decide +kernel, rfl, by decide +kernel, by decide +kernel⟩
abbrev s_Step_taken : Stmt := inClass (top 2) 7
abbrev N_Step_taken : List Str := ["self", "bench"]
theorem sc_Step_taken : FnScope N_Step_taken ["self", "bench"] (defScope s_Step_taken) := ⟨rfl, rfl, rfl, by decide +kernel, rfl, by decide +kernel, by decide +kernel⟩
abbrev s_Step_left : Stmt := inClass (top 2) 8
abbrev N_Step_left : List Str := ["self", "bench", "found"]
theorem sc_Step_left : FnScope N_Step_left ["self", "bench", "found"] (defScope s_Step_left) := ⟨rfl, rfl, rfl, by decide +kernel, rfl, by decide +kernel, by decide +kernel⟩
abbrev s_Getu_initu : Stmt := inClass (top 3) 0
abbrev N_Getu_initu : List Str := ["self", "to", "sel"]
theorem sc_Getu_initu : FnScope N_Getu_initu ["self", "to", "sel"] (defScope s_Getu_initu) := ⟨rfl, rfl, rfl, by decide +kernel, rfl, by decide +kernel, by decide +kernel⟩
abbrev s_Get_told : Stmt := inClass (top 3) 1
abbrev N_Get_told : List Str := ["self"]
theorem sc_Get_told : FnScope N_Get_told ["self"] (defScope s_Get_told) := ⟨rfl, rfl, rfl, by decide +kernel, rfl, by decide +kernel, by decide +kernel⟩
abbrev s_Get_changed_places : Stmt := inClass (top 3) 2
abbrev N_Get_changed_places : List Str := ["self"]
theorem sc_Get_changed_places : FnScope N_Get_changed_places ["self"] (defScope s_Get_changed_places) := ⟨rfl, rfl, rfl, by decide +kernel, rfl, by decide +kernel, by decide +kernel⟩
abbrev s_Get_words : Stmt := inClass (top 3) 3
abbrev N_Get_words : List Str := ["self"]
theorem sc_Get_words : FnScope N_Get_words ["self"] (defScope s_Get_words) := ⟨rfl, rfl, rfl, by decide +kernel, rfl, by decide +kernel, by decide +kernel⟩
abbrev s_Get_taken : Stmt := inClass (top 3) 4
abbrev N_Get_taken : List Str := ["self", "bench"]
theorem sc_Get_taken : FnScope N_Get_taken ["self", "bench"] (defScope s_Get_taken) := ⟨rfl, rfl, rfl, by decide +kernel, rfl, by decide +kernel, by decide +kernel⟩
abbrev s_Asku_initu : Stmt := inClass (top 4) 0
abbrev N_Asku_initu : List Str := ["self", "to", "sel"]
theorem sc_Asku_initu : FnScope N_Asku_initu ["self", "to", "sel"] (defScope s_Asku_initu) := ⟨rfl, rfl, rfl, by decide +kernel, rfl, by decide +kernel, by decide +kernel⟩
abbrev s_Ask_told : Stmt := inClass (top 4) 1
abbrev N_Ask_told : List Str := ["self"]
theorem sc_Ask_told : FnScope N_Ask_told ["self"] (defScope s_Ask_told) := ⟨rfl, rfl, rfl, by decide +kernel, rfl, by decide +kernel, by decide +kernel⟩
abbrev s_Ask_changed_places : Stmt := inClass (top 4) 2
abbrev N_Ask_changed_places : List Str := ["self"]
theorem sc_Ask_changed_places : FnScope N_Ask_changed_places ["self"] (defScope s_Ask_changed_places) := ⟨rfl, rfl, rfl, by decide +kernel, rfl, by decide +kernel, by decide +kernel⟩
abbrev s_Ask_words : Stmt := inClass (top 4) 3
abbrev N_Ask_words : List Str := ["self"]
theorem sc_Ask_words : FnScope N_Ask_words ["self"] (defScope s_Ask_words) := ⟨rfl, rfl, rfl, by decide +kernel, rfl, by decide +kernel, by decide +kernel⟩
abbrev s_Ask_taken : Stmt := inClass (top 4) 4
abbrev N_Ask_taken : List Str := ["self", "bench"]
theorem sc_Ask_taken : FnScope N_Ask_taken ["self", "bench"] (defScope s_Ask_taken) := ⟨rfl, rfl, rfl, by decide +kernel, rfl, by decide +kernel, by decide +kernel⟩
abbrev s_Cellu_initu : Stmt := inClass (top 5) 0
abbrev N_Cellu_initu : List Str := ["self", "to", "source"]
theorem sc_Cellu_initu : FnScope N_Cellu_initu ["self", "to", "source"] (defScope s_Cellu_initu) := ⟨rfl, rfl, rfl, by decide +kernel, rfl, by decide +kernel, by decide +kernel⟩
abbrev s_Cell_told : Stmt := inClass (top 5) 1
abbrev N_Cell_told : List Str := ["self"]
theorem sc_Cell_told : FnScope N_Cell_told ["self"] (defScope s_Cell_told) := ⟨rfl, rfl, rfl, by decide +kernel, rfl, by decide +kernel, by decide +kernel⟩
abbrev s_Cell_sources : Stmt := inClass (top 5) 2
abbrev N_Cell_sources : List Str := ["self"]
theorem sc_Cell_sources : FnScope N_Cell_sources ["self"] (defScope s_Cell_sources) := ⟨rfl, rfl, rfl, by decide +kernel, rfl, by decide +kernel, by decide +kernel⟩
abbrev s_Cell_changed_places : Stmt := inClass (top 5) 3
abbrev N_Cell_changed_places : List Str := ["self"]
theorem sc_Cell_changed_places : FnScope N_Cell_changed_places ["self"] (defScope s_Cell_changed_places) := ⟨rfl, rfl, rfl, by decide +kernel, rfl, by decide +kernel, by decide +kernel⟩
abbrev s_Cell_words : Stmt := inClass (top 5) 4
abbrev N_Cell_words : List Str := ["self"]
theorem sc_Cell_words : FnScope N_Cell_words ["self"] (defScope s_Cell_words) := ⟨rfl, rfl, rfl, by decide +kernel, rfl, by decide +kernel, by decide +kernel⟩
abbrev s_Cell_taken : Stmt := inClass (top 5) 5
abbrev N_Cell_taken : List Str := ["self", "bench"]
theorem sc_Cell_taken : FnScope N_Cell_taken ["self", "bench"] (defScope s_Cell_taken) := ⟨rfl, rfl, rfl, by decide +kernel, rfl, by decide +kernel, by decide +kernel⟩
abbrev s_Twou_initu : Stmt := inClass (top 6) 0
abbrev N_Twou_initu : List Str := ["self", "to", "op", "one", "other"]
theorem sc_Twou_initu : FnScope N_Twou_initu ["self", "to", "op", "one", "other"] (defScope s_Twou_initu) := ⟨rfl, rfl, rfl, by decide +kernel, rfl, by decide +kernel, by decide +kernel⟩
abbrev s_Two_told : Stmt := inClass (top 6) 1
abbrev N_Two_told : List Str := ["self"]
theorem sc_Two_told : FnScope N_Two_told ["self"] (defScope s_Two_told) := ⟨rfl, rfl, rfl, by decide +kernel, rfl, by decide +kernel, by decide +kernel⟩
abbrev s_Two_sources : Stmt := inClass (top 6) 2
abbrev N_Two_sources : List Str := ["self"]
theorem sc_Two_sources : FnScope N_Two_sources ["self"] (defScope s_Two_sources) := ⟨rfl, rfl, rfl, by decide +kernel, rfl, by decide +kernel, by decide +kernel⟩
abbrev s_Two_changed_places : Stmt := inClass (top 6) 3
abbrev N_Two_changed_places : List Str := ["self"]
theorem sc_Two_changed_places : FnScope N_Two_changed_places ["self"] (defScope s_Two_changed_places) := ⟨rfl, rfl, rfl, by decide +kernel, rfl, by decide +kernel, by decide +kernel⟩
abbrev s_Two_uses_way : Stmt := inClass (top 6) 4
abbrev N_Two_uses_way : List Str := ["self"]
theorem sc_Two_uses_way : FnScope N_Two_uses_way ["self"] (defScope s_Two_uses_way) := ⟨rfl, rfl, rfl, by decide +kernel, rfl, by decide +kernel, by decide +kernel⟩
abbrev s_Two_words : Stmt := inClass (top 6) 5
abbrev N_Two_words : List Str := ["self"]
theorem sc_Two_words : FnScope N_Two_words ["self"] (defScope s_Two_words) := ⟨rfl, rfl, rfl, by decide +kernel, rfl, by decide +kernel, by decide +kernel⟩
abbrev s_Two_taken : Stmt := inClass (top 6) 6
abbrev N_Two_taken : List Str := ["self", "bench"]
theorem sc_Two_taken : FnScope N_Two_taken ["self", "bench"] (defScope s_Two_taken) := ⟨rfl, rfl, rfl, by decide +kernel, rfl, by decide +kernel, by decide +kernel⟩
abbrev s_Putu_initu : Stmt := inClass (top 7) 0
abbrev N_Putu_initu : List Str := ["self", "sel", "source"]
theorem sc_Putu_initu : FnScope N_Putu_initu ["self", "sel", "source"] (defScope s_Putu_initu) := ⟨rfl, rfl, rfl, by decide +kernel, rfl, by decide +kernel, by decide +kernel⟩
abbrev s_Put_told : Stmt := inClass (top 7) 1
abbrev N_Put_told : List Str := ["self"]
theorem sc_Put_told : FnScope N_Put_told ["self"] (defScope s_Put_told) := ⟨rfl, rfl, rfl, by decide +kernel, rfl, by decide +kernel, by decide +kernel⟩
abbrev s_Put_sources : Stmt := inClass (top 7) 2
abbrev N_Put_sources : List Str := ["self"]
theorem sc_Put_sources : FnScope N_Put_sources ["self"] (defScope s_Put_sources) := ⟨rfl, rfl, rfl, by decide +kernel, rfl, by decide +kernel, by decide +kernel⟩
abbrev s_Put_words : Stmt := inClass (top 7) 3
abbrev N_Put_words : List Str := ["self"]
theorem sc_Put_words : FnScope N_Put_words ["self"] (defScope s_Put_words) := ⟨rfl, rfl, rfl, by decide +kernel, rfl, by decide +kernel, by decide +kernel⟩
abbrev s_Put_left : Stmt := inClass (top 7) 4
abbrev N_Put_left : List Str := ["self", "bench", "found"]
theorem sc_Put_left : FnScope N_Put_left ["self", "bench", "found"] (defScope s_Put_left) := ⟨rfl, rfl, rfl, by decide +kernel, rfl, by decide +kernel, by decide +kernel⟩
abbrev s_Tellu_initu : Stmt := inClass (top 8) 0
abbrev N_Tellu_initu : List Str := ["self", "sel", "source"]
theorem sc_Tellu_initu : FnScope N_Tellu_initu ["self", "sel", "source"] (defScope s_Tellu_initu) := ⟨rfl, rfl, rfl, by decide +kernel, rfl, by decide +kernel, by decide +kernel⟩
abbrev s_Tell_told : Stmt := inClass (top 8) 1
abbrev N_Tell_told : List Str := ["self"]
theorem sc_Tell_told : FnScope N_Tell_told ["self"] (defScope s_Tell_told) := ⟨rfl, rfl, rfl, by decide +kernel, rfl, by decide +kernel, by decide +kernel⟩
abbrev s_Tell_sources : Stmt := inClass (top 8) 2
abbrev N_Tell_sources : List Str := ["self"]
theorem sc_Tell_sources : FnScope N_Tell_sources ["self"] (defScope s_Tell_sources) := ⟨rfl, rfl, rfl, by decide +kernel, rfl, by decide +kernel, by decide +kernel⟩
abbrev s_Tell_words : Stmt := inClass (top 8) 3
abbrev N_Tell_words : List Str := ["self"]
theorem sc_Tell_words : FnScope N_Tell_words ["self"] (defScope s_Tell_words) := ⟨rfl, rfl, rfl, by decide +kernel, rfl, by decide +kernel, by decide +kernel⟩
abbrev s_Tell_left : Stmt := inClass (top 8) 4
abbrev N_Tell_left : List Str := ["self", "bench", "found"]
theorem sc_Tell_left : FnScope N_Tell_left ["self", "bench", "found"] (defScope s_Tell_left) := ⟨rfl, rfl, rfl, by decide +kernel, rfl, by decide +kernel, by decide +kernel⟩
abbrev s_Storeu_initu : Stmt := inClass (top 9) 0
abbrev N_Storeu_initu : List Str := ["self", "at", "source"]
theorem sc_Storeu_initu : FnScope N_Storeu_initu ["self", "at", "source"] (defScope s_Storeu_initu) := ⟨rfl, rfl, rfl, by decide +kernel, rfl, by decide +kernel, by decide +kernel⟩
abbrev s_Store_told : Stmt := inClass (top 9) 1
abbrev N_Store_told : List Str := ["self"]
theorem sc_Store_told : FnScope N_Store_told ["self"] (defScope s_Store_told) := ⟨rfl, rfl, rfl, by decide +kernel, rfl, by decide +kernel, by decide +kernel⟩
abbrev s_Store_sources : Stmt := inClass (top 9) 2
abbrev N_Store_sources : List Str := ["self"]
theorem sc_Store_sources : FnScope N_Store_sources ["self"] (defScope s_Store_sources) := ⟨rfl, rfl, rfl, by decide +kernel, rfl, by decide +kernel, by decide +kernel⟩
abbrev s_Store_words : Stmt := inClass (top 9) 3
abbrev N_Store_words : List Str := ["self"]
theorem sc_Store_words : FnScope N_Store_words ["self"] (defScope s_Store_words) := ⟨rfl, rfl, rfl, by decide +kernel, rfl, by decide +kernel, by decide +kernel⟩
abbrev s_Store_taken : Stmt := inClass (top 9) 4
abbrev N_Store_taken : List Str := ["self", "bench"]
theorem sc_Store_taken : FnScope N_Store_taken ["self", "bench"] (defScope s_Store_taken) := ⟨rfl, rfl, rfl, by decide +kernel, rfl, by decide +kernel, by decide +kernel⟩
abbrev s_Store_left : Stmt := inClass (top 9) 5
abbrev N_Store_left : List Str := ["self", "bench", "found"]
theorem sc_Store_left : FnScope N_Store_left ["self", "bench", "found"] (defScope s_Store_left) := ⟨rfl, rfl, rfl, by decide +kernel, rfl, by decide +kernel, by decide +kernel⟩
abbrev s_Partsu_initu : Stmt := inClass (top 11) 0
abbrev N_Partsu_initu : List Str := ["self"]
theorem sc_Partsu_initu : FnScope N_Partsu_initu ["self"] (defScope s_Partsu_initu) := ⟨rfl, rfl, rfl, by decide +kernel, rfl, by decide +kernel, by decide +kernel⟩
abbrev s_Parts_part_in : Stmt := inClass (top 11) 1
abbrev N_Parts_part_in : List Str := ["self", "e", "own", "one"]
theorem sc_Parts_part_in : FnScope N_Parts_part_in ["self", "e"] (defScope s_Parts_part_in) := ⟨rfl, rfl, rfl, by decide +kernel, rfl, by decide +kernel, by decide +kernel⟩
abbrev s_rests_of : Stmt := top 12
abbrev N_rests_of : List Str := ["one"]
theorem sc_rests_of : FnScope N_rests_of ["one"] (defScope s_rests_of) := ⟨rfl, rfl, rfl, by decide +kernel, rfl, by decide +kernel, by decide +kernel⟩
abbrev s_parts_and_roots : Stmt := top 13
abbrev N_parts_and_roots : List Str := ["sets", "parts", "roots", "one", "e"]
theorem sc_parts_and_roots : FnScope N_parts_and_roots ["sets"] (defScope s_parts_and_roots) := ⟨rfl, rfl, rfl, by decide +kernel, rfl, by decide +kernel, by decide +kernel⟩
abbrev s_parts_of : Stmt := top 14
abbrev N_parts_of : List Str := ["sets", "parts", "roots"]
theorem sc_parts_of : FnScope N_parts_of ["sets"] (defScope s_parts_of) := ⟨rfl, rfl, rfl, by decide +kernel, rfl, by decide +kernel, by decide +kernel⟩
abbrev s_roots_of : Stmt := top 15
abbrev N_roots_of : List Str := ["sets", "parts", "roots"]
theorem sc_roots_of : FnScope N_roots_of ["sets"] (defScope s_roots_of) := ⟨rfl, rfl, rfl, by decide +kernel, rfl, by decide +kernel, by decide +kernel⟩
abbrev s_own_parts : Stmt := top 16
abbrev N_own_parts : List Str := ["part", "one"]
theorem sc_own_parts : FnScope N_own_parts ["part"] (defScope s_own_parts) := ⟨rfl, rfl, rfl, by decide +kernel, rfl, by decide +kernel, by decide +kernel⟩
abbrev s_needs_of : Stmt := top 17
abbrev N_needs_of : List Str := ["e", "one", "other"]
theorem sc_needs_of : FnScope N_needs_of ["e"] (defScope s_needs_of) := ⟨rfl, rfl, rfl, by decide +kernel, rfl, by decide +kernel, by decide +kernel⟩
abbrev s_falling : Stmt := top 18
abbrev N_falling : List Str := ["sets", "roots", "found", "one", "root", "e", "number"]
theorem sc_falling : FnScope N_falling ["sets"] (defScope s_falling) := ⟨rfl, rfl, rfl, by decide +kernel, rfl, by decide +kernel, by decide +kernel⟩
abbrev s_Orderu_initu : Stmt := inClass (top 19) 0
abbrev N_Orderu_initu : List Str := ["self", "parts", "part"]
theorem sc_Orderu_initu : FnScope N_Orderu_initu ["self", "parts"] (defScope s_Orderu_initu) := ⟨rfl, rfl, rfl, by decide +kernel, rfl, by decide +kernel, by decide +kernel⟩
abbrev s_Order_need_at : Stmt := inClass (top 19) 1
abbrev N_Order_need_at : List Str := ["self", "one"]
theorem sc_Order_need_at : FnScope N_Order_need_at ["self", "one"] (defScope s_Order_need_at) := ⟨rfl, rfl, rfl, by decide +kernel, rfl, by decide +kernel, by decide +kernel⟩
abbrev s_Order_need_of : Stmt := inClass (top 19) 2
abbrev N_Order_need_of : List Str := ["self", "part", "needs", "one"]
theorem sc_Order_need_of : FnScope N_Order_need_of ["self", "part"] (defScope s_Order_need_of) := ⟨rfl, rfl, rfl, by decide +kernel, rfl, by decide +kernel, by decide +kernel⟩
abbrev s_Order_go_through : Stmt := inClass (top 19) 3
abbrev N_Order_go_through : List Str := ["self", "number", "own", "one"]
theorem sc_Order_go_through : FnScope N_Order_go_through ["self", "number"] (defScope s_Order_go_through) := ⟨rfl, rfl, rfl, by decide +kernel, rfl, by decide +kernel, by decide +kernel⟩
abbrev s_best_order : Stmt := top 20
abbrev N_best_order : List Str := ["sets", "order", "less", "told", "number"]
theorem sc_best_order : FnScope N_best_order ["sets"] (defScope s_best_order) := ⟨rfl, rfl, rfl, by decide +kernel, rfl, by decide +kernel, by decide +kernel⟩
abbrev s_as_source : Stmt := top 21
abbrev N_as_source : List Str := ["inner", "one"]
theorem sc_as_source : FnScope N_as_source ["inner", "one"] (defScope s_as_source) := ⟨rfl, rfl, rfl, by decide +kernel, rfl, by decide +kernel, by decide +kernel⟩
abbrev s_step_for : Stmt := top 22
abbrev N_step_for : List Str := ["part", "to", "inner"]
theorem sc_step_for : FnScope N_step_for ["part", "to", "inner"] (defScope s_step_for) := ⟨rfl, rfl, rfl, by decide +kernel, rfl, by decide +kernel, by decide +kernel⟩
abbrev s_step_giving : Stmt := top 23
abbrev N_step_giving : List Str := ["one", "root", "inner", "sources", "part"]
theorem sc_step_giving : FnScope N_step_giving ["one", "root", "inner"] (defScope s_step_giving) := ⟨rfl, rfl, rfl, by decide +kernel, rfl, by decide +kernel, by decide +kernel⟩
abbrev s_steps_of : Stmt := top 24
abbrev N_steps_of : List Str := ["sets", "many", "parts", "roots", "free", "inner", "steps", "number", "to", "one", "root", "own"]
theorem sc_steps_of : FnScope N_steps_of ["sets", "many"] (defScope s_steps_of) := ⟨rfl, rfl, rfl, by decide +kernel, rfl, by decide +kernel, by decide +kernel⟩
abbrev s_law_cell : Stmt := top 26
abbrev N_law_cell : List Str := ["script", "k"]
theorem sc_law_cell : FnScope N_law_cell ["script", "k"] (defScope s_law_cell) := ⟨rfl, rfl, rfl, by decide +kernel, rfl, by decide +kernel, by decide +kernel⟩
abbrev s_law_stream : Stmt := top 27
abbrev N_law_stream : List Str := ["cell"]
theorem sc_law_stream : FnScope N_law_stream ["cell"] (defScope s_law_stream) := ⟨rfl, rfl, rfl, by decide +kernel, rfl, by decide +kernel, by decide +kernel⟩
abbrev s_law_take : Stmt := top 28
abbrev N_law_take : List Str := ["stream", "many", "digit", "number"]
theorem sc_law_take : FnScope N_law_take ["stream", "many"] (defScope s_law_take) := ⟨rfl, rfl, rfl, by decide +kernel, rfl, by decide +kernel, by decide +kernel⟩
abbrev s_law_e : Stmt := top 29
abbrev N_law_e : List Str := ["stream", "deep", "way", "sel", "number", "field", "op"]
theorem sc_law_e : FnScope N_law_e ["stream", "deep"] (defScope s_law_e) := ⟨rfl, rfl, rfl, by decide +kernel, rfl, by decide +kernel, by decide +kernel⟩
abbrev s_law_sets : Stmt := top 30
abbrev N_law_sets : List Str := ["stream", "sets", "deep", "k", "way", "sel", "one"]
theorem sc_law_sets : FnScope N_law_sets ["stream"] (defScope s_law_sets) := ⟨rfl, rfl, rfl, by decide +kernel, rfl, by decide +kernel, by decide +kernel⟩
abbrev s_law_part : Stmt := top 31
abbrev N_law_part : List Str := ["e", "parts", "inner", "one", "other"]
theorem sc_law_part : FnScope N_law_part ["e", "parts"] (defScope s_law_part) := ⟨rfl, rfl, rfl, by decide +kernel, rfl, by decide +kernel, by decide +kernel⟩
abbrev s_law_parts : Stmt := top 32
abbrev N_law_parts : List Str := ["sets", "parts", "roots", "one", "first"]
theorem sc_law_parts : FnScope N_law_parts ["sets"] (defScope s_law_parts) := ⟨rfl, rfl, rfl, by decide +kernel, rfl, by decide +kernel, by decide +kernel⟩
abbrev s_law_own : Stmt := top 33
abbrev N_law_own : List Str := ["part", "one"]
theorem sc_law_own : FnScope N_law_own ["part"] (defScope s_law_own) := ⟨rfl, rfl, rfl, by decide +kernel, rfl, by decide +kernel, by decide +kernel⟩
abbrev s_law_need : Stmt := top 34
abbrev N_law_need : List Str := ["e", "needs", "one"]
theorem sc_law_need : FnScope N_law_need ["e"] (defScope s_law_need) := ⟨rfl, rfl, rfl, by decide +kernel, rfl, by decide +kernel, by decide +kernel⟩
abbrev s_law_trees : Stmt := top 35
abbrev N_law_trees : List Str := ["sets", "trees", "one"]
theorem sc_law_trees : FnScope N_law_trees ["sets"] (defScope s_law_trees) := ⟨rfl, rfl, rfl, by decide +kernel, rfl, by decide +kernel, by decide +kernel⟩
abbrev s_law_needs : Stmt := top 36
abbrev N_law_needs : List Str := ["sets", "needs", "tree", "need", "k"]
theorem sc_law_needs : FnScope N_law_needs ["sets"] (defScope s_law_needs) := ⟨rfl, rfl, rfl, by decide +kernel, rfl, by decide +kernel, by decide +kernel⟩
abbrev s_law_source : Stmt := top 37
abbrev N_law_source : List Str := ["one", "inner"]
theorem sc_law_source : FnScope N_law_source ["one", "inner"] (defScope s_law_source) := ⟨rfl, rfl, rfl, by decide +kernel, rfl, by decide +kernel, by decide +kernel⟩
abbrev s_law_step : Stmt := top 38
abbrev N_law_step : List Str := ["part", "to", "inner"]
theorem sc_law_step : FnScope N_law_step ["part", "to", "inner"] (defScope s_law_step) := ⟨rfl, rfl, rfl, by decide +kernel, rfl, by decide +kernel, by decide +kernel⟩
abbrev s_law_giving : Stmt := top 39
abbrev N_law_giving : List Str := ["one", "root", "inner"]
theorem sc_law_giving : FnScope N_law_giving ["one", "root", "inner"] (defScope s_law_giving) := ⟨rfl, rfl, rfl, by decide +kernel, rfl, by decide +kernel, by decide +kernel⟩
abbrev s_law_due : Stmt := top 40
abbrev N_law_due : List Str := ["sets", "order", "many", "parts", "roots", "free", "inner", "steps", "holds", "number", "own", "to", "one", "root", "place", "part"]
theorem sc_law_due : FnScope N_law_due ["sets", "order", "many"] (defScope s_law_due) := ⟨rfl, rfl, rfl, by decide +kernel, rfl, by decide +kernel, by decide +kernel⟩
abbrev s_law : Stmt := top 41
abbrev N_law : List Str := ["script", "k", "stream", "sets", "needed", "many", "due", "turn", "steps", "one"]
theorem sc_law : FnScope N_law ["script"] (defScope s_law) := ⟨rfl, rfl, rfl, by decide +kernel, rfl, by decide +kernel, by decide +kernel⟩
def fn : List He.DefD := [⟨("_wall", none), "_wall", "_wall", defArgs s_wall, defBody s_wall, defScope s_wall, [], []⟩,
  ⟨("rests_of", none), "rests_of", "rests_of", defArgs s_rests_of, defBody s_rests_of, defScope s_rests_of, [], []⟩,
  ⟨("parts_and_roots", none), "parts_and_roots", "parts_and_roots", defArgs s_parts_and_roots, defBody s_parts_and_roots, defScope s_parts_and_roots, [], []⟩,
  ⟨("parts_of", none), "parts_of", "parts_of", defArgs s_parts_of, defBody s_parts_of, defScope s_parts_of, [], []⟩,
  ⟨("roots_of", none), "roots_of", "roots_of", defArgs s_roots_of, defBody s_roots_of, defScope s_roots_of, [], []⟩,
  ⟨("own_parts", none), "own_parts", "own_parts", defArgs s_own_parts, defBody s_own_parts, defScope s_own_parts, [], []⟩,
  ⟨("needs_of", none), "needs_of", "needs_of", defArgs s_needs_of, defBody s_needs_of, defScope s_needs_of, [], []⟩,
  ⟨("falling", none), "falling", "falling", defArgs s_falling, defBody s_falling, defScope s_falling, [], []⟩,
  ⟨("best_order", none), "best_order", "best_order", defArgs s_best_order, defBody s_best_order, defScope s_best_order, [], []⟩,
  ⟨("as_source", none), "as_source", "as_source", defArgs s_as_source, defBody s_as_source, defScope s_as_source, [], []⟩,
  ⟨("step_for", none), "step_for", "step_for", defArgs s_step_for, defBody s_step_for, defScope s_step_for, [], []⟩,
  ⟨("step_giving", none), "step_giving", "step_giving", defArgs s_step_giving, defBody s_step_giving, defScope s_step_giving, [], []⟩,
  ⟨("steps_of", none), "steps_of", "steps_of", defArgs s_steps_of, defBody s_steps_of, defScope s_steps_of, [], []⟩,
  ⟨("_law_cell", none), "_law_cell", "_law_cell", defArgs s_law_cell, defBody s_law_cell, defScope s_law_cell, [], []⟩,
  ⟨("_law_stream", none), "_law_stream", "_law_stream", defArgs s_law_stream, defBody s_law_stream, defScope s_law_stream, [], []⟩,
  ⟨("_law_take", none), "_law_take", "_law_take", defArgs s_law_take, defBody s_law_take, defScope s_law_take, [], []⟩,
  ⟨("_law_e", none), "_law_e", "_law_e", defArgs s_law_e, defBody s_law_e, defScope s_law_e, [], []⟩,
  ⟨("_law_sets", none), "_law_sets", "_law_sets", defArgs s_law_sets, defBody s_law_sets, defScope s_law_sets, [], []⟩,
  ⟨("_law_part", none), "_law_part", "_law_part", defArgs s_law_part, defBody s_law_part, defScope s_law_part, [], []⟩,
  ⟨("_law_parts", none), "_law_parts", "_law_parts", defArgs s_law_parts, defBody s_law_parts, defScope s_law_parts, [], []⟩,
  ⟨("_law_own", none), "_law_own", "_law_own", defArgs s_law_own, defBody s_law_own, defScope s_law_own, [], []⟩,
  ⟨("_law_need", none), "_law_need", "_law_need", defArgs s_law_need, defBody s_law_need, defScope s_law_need, [], []⟩,
  ⟨("_law_trees", none), "_law_trees", "_law_trees", defArgs s_law_trees, defBody s_law_trees, defScope s_law_trees, [], []⟩,
  ⟨("_law_needs", none), "_law_needs", "_law_needs", defArgs s_law_needs, defBody s_law_needs, defScope s_law_needs, [], []⟩,
  ⟨("_law_source", none), "_law_source", "_law_source", defArgs s_law_source, defBody s_law_source, defScope s_law_source, [], []⟩,
  ⟨("_law_step", none), "_law_step", "_law_step", defArgs s_law_step, defBody s_law_step, defScope s_law_step, [], []⟩,
  ⟨("_law_giving", none), "_law_giving", "_law_giving", defArgs s_law_giving, defBody s_law_giving, defScope s_law_giving, [], []⟩,
  ⟨("_law_due", none), "_law_due", "_law_due", defArgs s_law_due, defBody s_law_due, defScope s_law_due, [], []⟩,
  ⟨("law", none), "law", "law", defArgs s_law, defBody s_law, defScope s_law, [], []⟩,
  ⟨("Step", some "told"), "told", "Step.told", defArgs s_Step_told, defBody s_Step_told, defScope s_Step_told, [], []⟩,
  ⟨("Step", some "sources"), "sources", "Step.sources", defArgs s_Step_sources, defBody s_Step_sources, defScope s_Step_sources, [], []⟩,
  ⟨("Step", some "changed_places"), "changed_places", "Step.changed_places", defArgs s_Step_changed_places, defBody s_Step_changed_places, defScope s_Step_changed_places, [], []⟩,
  ⟨("Step", some "uses_way"), "uses_way", "Step.uses_way", defArgs s_Step_uses_way, defBody s_Step_uses_way, defScope s_Step_uses_way, [], []⟩,
  ⟨("Step", some "reads"), "reads", "Step.reads", defArgs s_Step_reads, defBody s_Step_reads, defScope s_Step_reads, [], []⟩,
  ⟨("Step", some "writes"), "writes", "Step.writes", defArgs s_Step_writes, defBody s_Step_writes, defScope s_Step_writes, [], []⟩,
  ⟨("Step", some "words"), "words", "Step.words", defArgs s_Step_words, defBody s_Step_words, defScope s_Step_words, [], []⟩,
  ⟨("Step", some "taken"), "taken", "Step.taken", defArgs s_Step_taken, defBody s_Step_taken, defScope s_Step_taken, [], []⟩,
  ⟨("Step", some "left"), "left", "Step.left", defArgs s_Step_left, defBody s_Step_left, defScope s_Step_left, [], []⟩,
  ⟨("Get", some "__init__"), "__init__", "Get.__init__", defArgs s_Getu_initu, defBody s_Getu_initu, defScope s_Getu_initu, [], []⟩,
  ⟨("Get", some "told"), "told", "Get.told", defArgs s_Get_told, defBody s_Get_told, defScope s_Get_told, [], []⟩,
  ⟨("Get", some "changed_places"), "changed_places", "Get.changed_places", defArgs s_Get_changed_places, defBody s_Get_changed_places, defScope s_Get_changed_places, [], []⟩,
  ⟨("Get", some "words"), "words", "Get.words", defArgs s_Get_words, defBody s_Get_words, defScope s_Get_words, [], []⟩,
  ⟨("Get", some "taken"), "taken", "Get.taken", defArgs s_Get_taken, defBody s_Get_taken, defScope s_Get_taken, [], []⟩,
  ⟨("Get", some "sources"), "sources", "Step.sources", defArgs s_Step_sources, defBody s_Step_sources, defScope s_Step_sources, [], []⟩,
  ⟨("Get", some "uses_way"), "uses_way", "Step.uses_way", defArgs s_Step_uses_way, defBody s_Step_uses_way, defScope s_Step_uses_way, [], []⟩,
  ⟨("Get", some "reads"), "reads", "Step.reads", defArgs s_Step_reads, defBody s_Step_reads, defScope s_Step_reads, [], []⟩,
  ⟨("Get", some "writes"), "writes", "Step.writes", defArgs s_Step_writes, defBody s_Step_writes, defScope s_Step_writes, [], []⟩,
  ⟨("Get", some "left"), "left", "Step.left", defArgs s_Step_left, defBody s_Step_left, defScope s_Step_left, [], []⟩,
  ⟨("Ask", some "__init__"), "__init__", "Ask.__init__", defArgs s_Asku_initu, defBody s_Asku_initu, defScope s_Asku_initu, [], []⟩,
  ⟨("Ask", some "told"), "told", "Ask.told", defArgs s_Ask_told, defBody s_Ask_told, defScope s_Ask_told, [], []⟩,
  ⟨("Ask", some "changed_places"), "changed_places", "Ask.changed_places", defArgs s_Ask_changed_places, defBody s_Ask_changed_places, defScope s_Ask_changed_places, [], []⟩,
  ⟨("Ask", some "words"), "words", "Ask.words", defArgs s_Ask_words, defBody s_Ask_words, defScope s_Ask_words, [], []⟩,
  ⟨("Ask", some "taken"), "taken", "Ask.taken", defArgs s_Ask_taken, defBody s_Ask_taken, defScope s_Ask_taken, [], []⟩,
  ⟨("Ask", some "sources"), "sources", "Step.sources", defArgs s_Step_sources, defBody s_Step_sources, defScope s_Step_sources, [], []⟩,
  ⟨("Ask", some "uses_way"), "uses_way", "Step.uses_way", defArgs s_Step_uses_way, defBody s_Step_uses_way, defScope s_Step_uses_way, [], []⟩,
  ⟨("Ask", some "reads"), "reads", "Step.reads", defArgs s_Step_reads, defBody s_Step_reads, defScope s_Step_reads, [], []⟩,
  ⟨("Ask", some "writes"), "writes", "Step.writes", defArgs s_Step_writes, defBody s_Step_writes, defScope s_Step_writes, [], []⟩,
  ⟨("Ask", some "left"), "left", "Step.left", defArgs s_Step_left, defBody s_Step_left, defScope s_Step_left, [], []⟩,
  ⟨("Cell", some "__init__"), "__init__", "Cell.__init__", defArgs s_Cellu_initu, defBody s_Cellu_initu, defScope s_Cellu_initu, [], []⟩,
  ⟨("Cell", some "told"), "told", "Cell.told", defArgs s_Cell_told, defBody s_Cell_told, defScope s_Cell_told, [], []⟩,
  ⟨("Cell", some "sources"), "sources", "Cell.sources", defArgs s_Cell_sources, defBody s_Cell_sources, defScope s_Cell_sources, [], []⟩,
  ⟨("Cell", some "changed_places"), "changed_places", "Cell.changed_places", defArgs s_Cell_changed_places, defBody s_Cell_changed_places, defScope s_Cell_changed_places, [], []⟩,
  ⟨("Cell", some "words"), "words", "Cell.words", defArgs s_Cell_words, defBody s_Cell_words, defScope s_Cell_words, [], []⟩,
  ⟨("Cell", some "taken"), "taken", "Cell.taken", defArgs s_Cell_taken, defBody s_Cell_taken, defScope s_Cell_taken, [], []⟩,
  ⟨("Cell", some "uses_way"), "uses_way", "Step.uses_way", defArgs s_Step_uses_way, defBody s_Step_uses_way, defScope s_Step_uses_way, [], []⟩,
  ⟨("Cell", some "reads"), "reads", "Step.reads", defArgs s_Step_reads, defBody s_Step_reads, defScope s_Step_reads, [], []⟩,
  ⟨("Cell", some "writes"), "writes", "Step.writes", defArgs s_Step_writes, defBody s_Step_writes, defScope s_Step_writes, [], []⟩,
  ⟨("Cell", some "left"), "left", "Step.left", defArgs s_Step_left, defBody s_Step_left, defScope s_Step_left, [], []⟩,
  ⟨("Two", some "__init__"), "__init__", "Two.__init__", defArgs s_Twou_initu, defBody s_Twou_initu, defScope s_Twou_initu, [], []⟩,
  ⟨("Two", some "told"), "told", "Two.told", defArgs s_Two_told, defBody s_Two_told, defScope s_Two_told, [], []⟩,
  ⟨("Two", some "sources"), "sources", "Two.sources", defArgs s_Two_sources, defBody s_Two_sources, defScope s_Two_sources, [], []⟩,
  ⟨("Two", some "changed_places"), "changed_places", "Two.changed_places", defArgs s_Two_changed_places, defBody s_Two_changed_places, defScope s_Two_changed_places, [], []⟩,
  ⟨("Two", some "uses_way"), "uses_way", "Two.uses_way", defArgs s_Two_uses_way, defBody s_Two_uses_way, defScope s_Two_uses_way, [], []⟩,
  ⟨("Two", some "words"), "words", "Two.words", defArgs s_Two_words, defBody s_Two_words, defScope s_Two_words, [], []⟩,
  ⟨("Two", some "taken"), "taken", "Two.taken", defArgs s_Two_taken, defBody s_Two_taken, defScope s_Two_taken, [], []⟩,
  ⟨("Two", some "reads"), "reads", "Step.reads", defArgs s_Step_reads, defBody s_Step_reads, defScope s_Step_reads, [], []⟩,
  ⟨("Two", some "writes"), "writes", "Step.writes", defArgs s_Step_writes, defBody s_Step_writes, defScope s_Step_writes, [], []⟩,
  ⟨("Two", some "left"), "left", "Step.left", defArgs s_Step_left, defBody s_Step_left, defScope s_Step_left, [], []⟩,
  ⟨("Put", some "__init__"), "__init__", "Put.__init__", defArgs s_Putu_initu, defBody s_Putu_initu, defScope s_Putu_initu, [], []⟩,
  ⟨("Put", some "told"), "told", "Put.told", defArgs s_Put_told, defBody s_Put_told, defScope s_Put_told, [], []⟩,
  ⟨("Put", some "sources"), "sources", "Put.sources", defArgs s_Put_sources, defBody s_Put_sources, defScope s_Put_sources, [], []⟩,
  ⟨("Put", some "words"), "words", "Put.words", defArgs s_Put_words, defBody s_Put_words, defScope s_Put_words, [], []⟩,
  ⟨("Put", some "left"), "left", "Put.left", defArgs s_Put_left, defBody s_Put_left, defScope s_Put_left, [], []⟩,
  ⟨("Put", some "changed_places"), "changed_places", "Step.changed_places", defArgs s_Step_changed_places, defBody s_Step_changed_places, defScope s_Step_changed_places, [], []⟩,
  ⟨("Put", some "uses_way"), "uses_way", "Step.uses_way", defArgs s_Step_uses_way, defBody s_Step_uses_way, defScope s_Step_uses_way, [], []⟩,
  ⟨("Put", some "reads"), "reads", "Step.reads", defArgs s_Step_reads, defBody s_Step_reads, defScope s_Step_reads, [], []⟩,
  ⟨("Put", some "writes"), "writes", "Step.writes", defArgs s_Step_writes, defBody s_Step_writes, defScope s_Step_writes, [], []⟩,
  ⟨("Put", some "taken"), "taken", "Step.taken", defArgs s_Step_taken, defBody s_Step_taken, defScope s_Step_taken, [], []⟩,
  ⟨("Tell", some "__init__"), "__init__", "Tell.__init__", defArgs s_Tellu_initu, defBody s_Tellu_initu, defScope s_Tellu_initu, [], []⟩,
  ⟨("Tell", some "told"), "told", "Tell.told", defArgs s_Tell_told, defBody s_Tell_told, defScope s_Tell_told, [], []⟩,
  ⟨("Tell", some "sources"), "sources", "Tell.sources", defArgs s_Tell_sources, defBody s_Tell_sources, defScope s_Tell_sources, [], []⟩,
  ⟨("Tell", some "words"), "words", "Tell.words", defArgs s_Tell_words, defBody s_Tell_words, defScope s_Tell_words, [], []⟩,
  ⟨("Tell", some "left"), "left", "Tell.left", defArgs s_Tell_left, defBody s_Tell_left, defScope s_Tell_left, [], []⟩,
  ⟨("Tell", some "changed_places"), "changed_places", "Step.changed_places", defArgs s_Step_changed_places, defBody s_Step_changed_places, defScope s_Step_changed_places, [], []⟩,
  ⟨("Tell", some "uses_way"), "uses_way", "Step.uses_way", defArgs s_Step_uses_way, defBody s_Step_uses_way, defScope s_Step_uses_way, [], []⟩,
  ⟨("Tell", some "reads"), "reads", "Step.reads", defArgs s_Step_reads, defBody s_Step_reads, defScope s_Step_reads, [], []⟩,
  ⟨("Tell", some "writes"), "writes", "Step.writes", defArgs s_Step_writes, defBody s_Step_writes, defScope s_Step_writes, [], []⟩,
  ⟨("Tell", some "taken"), "taken", "Step.taken", defArgs s_Step_taken, defBody s_Step_taken, defScope s_Step_taken, [], []⟩,
  ⟨("Store", some "__init__"), "__init__", "Store.__init__", defArgs s_Storeu_initu, defBody s_Storeu_initu, defScope s_Storeu_initu, [], []⟩,
  ⟨("Store", some "told"), "told", "Store.told", defArgs s_Store_told, defBody s_Store_told, defScope s_Store_told, [], []⟩,
  ⟨("Store", some "sources"), "sources", "Store.sources", defArgs s_Store_sources, defBody s_Store_sources, defScope s_Store_sources, [], []⟩,
  ⟨("Store", some "words"), "words", "Store.words", defArgs s_Store_words, defBody s_Store_words, defScope s_Store_words, [], []⟩,
  ⟨("Store", some "taken"), "taken", "Store.taken", defArgs s_Store_taken, defBody s_Store_taken, defScope s_Store_taken, [], []⟩,
  ⟨("Store", some "left"), "left", "Store.left", defArgs s_Store_left, defBody s_Store_left, defScope s_Store_left, [], []⟩,
  ⟨("Store", some "changed_places"), "changed_places", "Step.changed_places", defArgs s_Step_changed_places, defBody s_Step_changed_places, defScope s_Step_changed_places, [], []⟩,
  ⟨("Store", some "uses_way"), "uses_way", "Step.uses_way", defArgs s_Step_uses_way, defBody s_Step_uses_way, defScope s_Step_uses_way, [], []⟩,
  ⟨("Store", some "reads"), "reads", "Step.reads", defArgs s_Step_reads, defBody s_Step_reads, defScope s_Step_reads, [], []⟩,
  ⟨("Store", some "writes"), "writes", "Step.writes", defArgs s_Step_writes, defBody s_Step_writes, defScope s_Step_writes, [], []⟩,
  ⟨("Parts", some "__init__"), "__init__", "Parts.__init__", defArgs s_Partsu_initu, defBody s_Partsu_initu, defScope s_Partsu_initu, [], []⟩,
  ⟨("Parts", some "part_in"), "part_in", "Parts.part_in", defArgs s_Parts_part_in, defBody s_Parts_part_in, defScope s_Parts_part_in, [], []⟩,
  ⟨("Order", some "__init__"), "__init__", "Order.__init__", defArgs s_Orderu_initu, defBody s_Orderu_initu, defScope s_Orderu_initu, [], []⟩,
  ⟨("Order", some "need_at"), "need_at", "Order.need_at", defArgs s_Order_need_at, defBody s_Order_need_at, defScope s_Order_need_at, [], []⟩,
  ⟨("Order", some "need_of"), "need_of", "Order.need_of", defArgs s_Order_need_of, defBody s_Order_need_of, defScope s_Order_need_of, [], []⟩,
  ⟨("Order", some "go_through"), "go_through", "Order.go_through", defArgs s_Order_go_through, defBody s_Order_go_through, defScope s_Order_go_through, [], []⟩]
def fa : List He.Fa := [.glo "_wall", .glo "rests_of", .glo "parts_and_roots", .glo "parts_of", .glo "roots_of", .glo "own_parts", .glo "needs_of", .glo "falling", .glo "best_order", .glo "as_source", .glo "step_for", .glo "step_giving", .glo "steps_of", .glo "_law_cell", .glo "_law_stream", .glo "_law_take", .glo "_law_e", .glo "_law_sets", .glo "_law_part", .glo "_law_parts", .glo "_law_own", .glo "_law_need", .glo "_law_trees", .glo "_law_needs", .glo "_law_source", .glo "_law_step", .glo "_law_giving", .glo "_law_due", .glo "law", .free "enumerate", .free "int", .free "isinstance", .free "len", .free "list", .free "max", .free "min", .free "range", .free "reversed", .free "sorted", .free "tuple", .free "zip", .glo "Step", .cls "Step", .meth "Step" "told", .meth "Step" "sources", .meth "Step" "changed_places", .meth "Step" "uses_way", .meth "Step" "reads", .meth "Step" "writes", .meth "Step" "words", .meth "Step" "taken", .meth "Step" "left", .glo "Get", .cls "Get", .mkr "Get", .noat "Get" "to", .noat "Get" "sel", .meth "Get" "told", .meth "Get" "changed_places", .meth "Get" "words", .meth "Get" "taken", .meth "Get" "sources", .meth "Get" "uses_way", .meth "Get" "reads", .meth "Get" "writes", .meth "Get" "left", .glo "Ask", .cls "Ask", .mkr "Ask", .noat "Ask" "to", .noat "Ask" "sel", .meth "Ask" "told", .meth "Ask" "changed_places", .meth "Ask" "words", .meth "Ask" "taken", .meth "Ask" "sources", .meth "Ask" "uses_way", .meth "Ask" "reads", .meth "Ask" "writes", .meth "Ask" "left", .glo "Cell", .cls "Cell", .mkr "Cell", .noat "Cell" "to", .noat "Cell" "source", .meth "Cell" "told", .meth "Cell" "sources", .meth "Cell" "changed_places", .meth "Cell" "words", .meth "Cell" "taken", .meth "Cell" "uses_way", .meth "Cell" "reads", .meth "Cell" "writes", .meth "Cell" "left", .glo "Two", .cls "Two", .mkr "Two", .noat "Two" "to", .noat "Two" "op", .noat "Two" "one", .noat "Two" "other", .meth "Two" "told", .meth "Two" "sources", .meth "Two" "changed_places", .meth "Two" "uses_way", .meth "Two" "words", .meth "Two" "taken", .meth "Two" "reads", .meth "Two" "writes", .meth "Two" "left", .glo "Put", .cls "Put", .mkr "Put", .noat "Put" "sel", .noat "Put" "source", .meth "Put" "told", .meth "Put" "sources", .meth "Put" "words", .meth "Put" "left", .meth "Put" "changed_places", .meth "Put" "uses_way", .meth "Put" "reads", .meth "Put" "writes", .meth "Put" "taken", .glo "Tell", .cls "Tell", .mkr "Tell", .noat "Tell" "sel", .noat "Tell" "source", .meth "Tell" "told", .meth "Tell" "sources", .meth "Tell" "words", .meth "Tell" "left", .meth "Tell" "changed_places", .meth "Tell" "uses_way", .meth "Tell" "reads", .meth "Tell" "writes", .meth "Tell" "taken", .glo "Store", .cls "Store", .mkr "Store", .noat "Store" "at", .noat "Store" "source", .meth "Store" "told", .meth "Store" "sources", .meth "Store" "words", .meth "Store" "taken", .meth "Store" "left", .meth "Store" "changed_places", .meth "Store" "uses_way", .meth "Store" "reads", .meth "Store" "writes", .glo "Parts", .cls "Parts", .mkr "Parts", .noat "Parts" "rows", .meth "Parts" "part_in", .glo "Order", .cls "Order", .mkr "Order", .noat "Order" "parts", .noat "Order" "order", .noat "Order" "needed", .meth "Order" "need_at", .meth "Order" "need_of", .meth "Order" "go_through"]
/-- the type of an instance is its class -/
structure TyI (K : PySem.W.Frag) (C : Addr) : Prop where
  ha : PySem.W.findIn K (.ref C) "__class__" = some (some (.builtin "object.__class__"))
  hn : PySem.W.specialIn K (.builtin "object.__class__") "__get__" = some (some (.builtin "getset_descriptor.__get__"))
  ht : PySem.W.takesIn K (.builtin "object.__class__") = some true
  hm : PySem.W.mroIn K C (.type "object") = some true
def tyiB (K : PySem.W.Frag) (C : Addr) : Bool := He.eqO (PySem.W.findIn K (.ref C) "__class__") (some (some (.builtin "object.__class__"))) && (He.eqO (PySem.W.specialIn K (.builtin "object.__class__") "__get__") (some (some (.builtin "getset_descriptor.__get__"))) &&
  (decide (PySem.W.takesIn K (.builtin "object.__class__") = some true) && decide (PySem.W.mroIn K C (.type "object") = some true)))
theorem tyi_ok {K : PySem.W.Frag} {C : Addr} (h : tyiB K C = true) : TyI K C := by
  obtain ⟨h1, h⟩ := He.ba h
  obtain ⟨h2, h⟩ := He.ba h
  obtain ⟨h3, h4⟩ := He.ba h
  exact ⟨He.eqO_ok h1, He.eqO_ok h2, of_decide_eq_true h3, of_decide_eq_true h4⟩
def exL (K : PySem.W.Frag) : List Bool := [tyiB K (He.ga K "Step"),
  tyiB K (He.ga K "Get"),
  tyiB K (He.ga K "Ask"),
  tyiB K (He.ga K "Cell"),
  tyiB K (He.ga K "Two"),
  tyiB K (He.ga K "Put"),
  tyiB K (He.ga K "Tell"),
  tyiB K (He.ga K "Store"),
  tyiB K (He.ga K "Parts"),
  tyiB K (He.ga K "Order"),
  decide (PySem.W.kitOne K (.ref (He.ga K "Step")) (.ref (He.ga K "Step")) = some true),
  decide (PySem.W.kitOne K (.ref (He.ga K "Get")) (.ref (He.ga K "Step")) = some true),
  decide (PySem.W.kitOne K (.ref (He.ga K "Ask")) (.ref (He.ga K "Step")) = some true),
  decide (PySem.W.kitOne K (.ref (He.ga K "Cell")) (.ref (He.ga K "Step")) = some true),
  decide (PySem.W.kitOne K (.ref (He.ga K "Two")) (.ref (He.ga K "Step")) = some true),
  decide (PySem.W.kitOne K (.ref (He.ga K "Put")) (.ref (He.ga K "Step")) = some true),
  decide (PySem.W.kitOne K (.ref (He.ga K "Tell")) (.ref (He.ga K "Step")) = some true),
  decide (PySem.W.kitOne K (.ref (He.ga K "Store")) (.ref (He.ga K "Step")) = some true),
  decide (PySem.W.kitOne K (.ref (He.ga K "Parts")) (.ref (He.ga K "Step")) = some false),
  decide (PySem.W.kitOne K (.ref (He.ga K "Order")) (.ref (He.ga K "Step")) = some false)]
def exB (K : PySem.W.Frag) : Bool := (exL K).all id
theorem exB_at {K : PySem.W.Frag} (h : exB K = true) (i : Nat) {b : Bool} (e : (exL K)[i]? = some b) : b = true := List.all_eq_true.mp h b (List.mem_of_getElem? e)
/-- what the head tells of the text -/
class Facts (K : PySem.W.Frag) (mg : outParam (Str → Option Value)) : Prop where
  d_wall : ∃ fd, FunD K "_wall" "_wall" (defArgs s_wall) (defBody s_wall) (defScope s_wall) [] [] (He.ga K "_wall") fd
  g_wall : mg "_wall" = some (.ref (He.ga K "_wall"))
  d_rests_of : ∃ fd, FunD K "rests_of" "rests_of" (defArgs s_rests_of) (defBody s_rests_of) (defScope s_rests_of) [] [] (He.ga K "rests_of") fd
  g_rests_of : mg "rests_of" = some (.ref (He.ga K "rests_of"))
  d_parts_and_roots : ∃ fd, FunD K "parts_and_roots" "parts_and_roots" (defArgs s_parts_and_roots) (defBody s_parts_and_roots) (defScope s_parts_and_roots) [] [] (He.ga K "parts_and_roots") fd
  g_parts_and_roots : mg "parts_and_roots" = some (.ref (He.ga K "parts_and_roots"))
  d_parts_of : ∃ fd, FunD K "parts_of" "parts_of" (defArgs s_parts_of) (defBody s_parts_of) (defScope s_parts_of) [] [] (He.ga K "parts_of") fd
  g_parts_of : mg "parts_of" = some (.ref (He.ga K "parts_of"))
  d_roots_of : ∃ fd, FunD K "roots_of" "roots_of" (defArgs s_roots_of) (defBody s_roots_of) (defScope s_roots_of) [] [] (He.ga K "roots_of") fd
  g_roots_of : mg "roots_of" = some (.ref (He.ga K "roots_of"))
  d_own_parts : ∃ fd, FunD K "own_parts" "own_parts" (defArgs s_own_parts) (defBody s_own_parts) (defScope s_own_parts) [] [] (He.ga K "own_parts") fd
  g_own_parts : mg "own_parts" = some (.ref (He.ga K "own_parts"))
  d_needs_of : ∃ fd, FunD K "needs_of" "needs_of" (defArgs s_needs_of) (defBody s_needs_of) (defScope s_needs_of) [] [] (He.ga K "needs_of") fd
  g_needs_of : mg "needs_of" = some (.ref (He.ga K "needs_of"))
  d_falling : ∃ fd, FunD K "falling" "falling" (defArgs s_falling) (defBody s_falling) (defScope s_falling) [] [] (He.ga K "falling") fd
  g_falling : mg "falling" = some (.ref (He.ga K "falling"))
  d_best_order : ∃ fd, FunD K "best_order" "best_order" (defArgs s_best_order) (defBody s_best_order) (defScope s_best_order) [] [] (He.ga K "best_order") fd
  g_best_order : mg "best_order" = some (.ref (He.ga K "best_order"))
  d_as_source : ∃ fd, FunD K "as_source" "as_source" (defArgs s_as_source) (defBody s_as_source) (defScope s_as_source) [] [] (He.ga K "as_source") fd
  g_as_source : mg "as_source" = some (.ref (He.ga K "as_source"))
  d_step_for : ∃ fd, FunD K "step_for" "step_for" (defArgs s_step_for) (defBody s_step_for) (defScope s_step_for) [] [] (He.ga K "step_for") fd
  g_step_for : mg "step_for" = some (.ref (He.ga K "step_for"))
  d_step_giving : ∃ fd, FunD K "step_giving" "step_giving" (defArgs s_step_giving) (defBody s_step_giving) (defScope s_step_giving) [] [] (He.ga K "step_giving") fd
  g_step_giving : mg "step_giving" = some (.ref (He.ga K "step_giving"))
  d_steps_of : ∃ fd, FunD K "steps_of" "steps_of" (defArgs s_steps_of) (defBody s_steps_of) (defScope s_steps_of) [] [] (He.ga K "steps_of") fd
  g_steps_of : mg "steps_of" = some (.ref (He.ga K "steps_of"))
  d_law_cell : ∃ fd, FunD K "_law_cell" "_law_cell" (defArgs s_law_cell) (defBody s_law_cell) (defScope s_law_cell) [] [] (He.ga K "_law_cell") fd
  g_law_cell : mg "_law_cell" = some (.ref (He.ga K "_law_cell"))
  d_law_stream : ∃ fd, FunD K "_law_stream" "_law_stream" (defArgs s_law_stream) (defBody s_law_stream) (defScope s_law_stream) [] [] (He.ga K "_law_stream") fd
  g_law_stream : mg "_law_stream" = some (.ref (He.ga K "_law_stream"))
  d_law_take : ∃ fd, FunD K "_law_take" "_law_take" (defArgs s_law_take) (defBody s_law_take) (defScope s_law_take) [] [] (He.ga K "_law_take") fd
  g_law_take : mg "_law_take" = some (.ref (He.ga K "_law_take"))
  d_law_e : ∃ fd, FunD K "_law_e" "_law_e" (defArgs s_law_e) (defBody s_law_e) (defScope s_law_e) [] [] (He.ga K "_law_e") fd
  g_law_e : mg "_law_e" = some (.ref (He.ga K "_law_e"))
  d_law_sets : ∃ fd, FunD K "_law_sets" "_law_sets" (defArgs s_law_sets) (defBody s_law_sets) (defScope s_law_sets) [] [] (He.ga K "_law_sets") fd
  g_law_sets : mg "_law_sets" = some (.ref (He.ga K "_law_sets"))
  d_law_part : ∃ fd, FunD K "_law_part" "_law_part" (defArgs s_law_part) (defBody s_law_part) (defScope s_law_part) [] [] (He.ga K "_law_part") fd
  g_law_part : mg "_law_part" = some (.ref (He.ga K "_law_part"))
  d_law_parts : ∃ fd, FunD K "_law_parts" "_law_parts" (defArgs s_law_parts) (defBody s_law_parts) (defScope s_law_parts) [] [] (He.ga K "_law_parts") fd
  g_law_parts : mg "_law_parts" = some (.ref (He.ga K "_law_parts"))
  d_law_own : ∃ fd, FunD K "_law_own" "_law_own" (defArgs s_law_own) (defBody s_law_own) (defScope s_law_own) [] [] (He.ga K "_law_own") fd
  g_law_own : mg "_law_own" = some (.ref (He.ga K "_law_own"))
  d_law_need : ∃ fd, FunD K "_law_need" "_law_need" (defArgs s_law_need) (defBody s_law_need) (defScope s_law_need) [] [] (He.ga K "_law_need") fd
  g_law_need : mg "_law_need" = some (.ref (He.ga K "_law_need"))
  d_law_trees : ∃ fd, FunD K "_law_trees" "_law_trees" (defArgs s_law_trees) (defBody s_law_trees) (defScope s_law_trees) [] [] (He.ga K "_law_trees") fd
  g_law_trees : mg "_law_trees" = some (.ref (He.ga K "_law_trees"))
  d_law_needs : ∃ fd, FunD K "_law_needs" "_law_needs" (defArgs s_law_needs) (defBody s_law_needs) (defScope s_law_needs) [] [] (He.ga K "_law_needs") fd
  g_law_needs : mg "_law_needs" = some (.ref (He.ga K "_law_needs"))
  d_law_source : ∃ fd, FunD K "_law_source" "_law_source" (defArgs s_law_source) (defBody s_law_source) (defScope s_law_source) [] [] (He.ga K "_law_source") fd
  g_law_source : mg "_law_source" = some (.ref (He.ga K "_law_source"))
  d_law_step : ∃ fd, FunD K "_law_step" "_law_step" (defArgs s_law_step) (defBody s_law_step) (defScope s_law_step) [] [] (He.ga K "_law_step") fd
  g_law_step : mg "_law_step" = some (.ref (He.ga K "_law_step"))
  d_law_giving : ∃ fd, FunD K "_law_giving" "_law_giving" (defArgs s_law_giving) (defBody s_law_giving) (defScope s_law_giving) [] [] (He.ga K "_law_giving") fd
  g_law_giving : mg "_law_giving" = some (.ref (He.ga K "_law_giving"))
  d_law_due : ∃ fd, FunD K "_law_due" "_law_due" (defArgs s_law_due) (defBody s_law_due) (defScope s_law_due) [] [] (He.ga K "_law_due") fd
  g_law_due : mg "_law_due" = some (.ref (He.ga K "_law_due"))
  d_law : ∃ fd, FunD K "law" "law" (defArgs s_law) (defBody s_law) (defScope s_law) [] [] (He.ga K "law") fd
  g_law : mg "law" = some (.ref (He.ga K "law"))
  f_enumerate : mg "enumerate" = none
  f_int : mg "int" = none
  f_isinstance : mg "isinstance" = none
  f_len : mg "len" = none
  f_list : mg "list" = none
  f_max : mg "max" = none
  f_min : mg "min" = none
  f_range : mg "range" = none
  f_reversed : mg "reversed" = none
  f_sorted : mg "sorted" = none
  f_tuple : mg "tuple" = none
  f_zip : mg "zip" = none
  dm_Step_told : ∃ fd, FunD K "told" "Step.told" (defArgs s_Step_told) (defBody s_Step_told) (defScope s_Step_told) [] [] (He.ma K (He.ga K "Step") "told") fd
  dm_Step_sources : ∃ fd, FunD K "sources" "Step.sources" (defArgs s_Step_sources) (defBody s_Step_sources) (defScope s_Step_sources) [] [] (He.ma K (He.ga K "Step") "sources") fd
  dm_Step_changed_places : ∃ fd, FunD K "changed_places" "Step.changed_places" (defArgs s_Step_changed_places) (defBody s_Step_changed_places) (defScope s_Step_changed_places) [] [] (He.ma K (He.ga K "Step") "changed_places") fd
  dm_Step_uses_way : ∃ fd, FunD K "uses_way" "Step.uses_way" (defArgs s_Step_uses_way) (defBody s_Step_uses_way) (defScope s_Step_uses_way) [] [] (He.ma K (He.ga K "Step") "uses_way") fd
  dm_Step_reads : ∃ fd, FunD K "reads" "Step.reads" (defArgs s_Step_reads) (defBody s_Step_reads) (defScope s_Step_reads) [] [] (He.ma K (He.ga K "Step") "reads") fd
  dm_Step_writes : ∃ fd, FunD K "writes" "Step.writes" (defArgs s_Step_writes) (defBody s_Step_writes) (defScope s_Step_writes) [] [] (He.ma K (He.ga K "Step") "writes") fd
  dm_Step_words : ∃ fd, FunD K "words" "Step.words" (defArgs s_Step_words) (defBody s_Step_words) (defScope s_Step_words) [] [] (He.ma K (He.ga K "Step") "words") fd
  dm_Step_taken : ∃ fd, FunD K "taken" "Step.taken" (defArgs s_Step_taken) (defBody s_Step_taken) (defScope s_Step_taken) [] [] (He.ma K (He.ga K "Step") "taken") fd
  dm_Step_left : ∃ fd, FunD K "left" "Step.left" (defArgs s_Step_left) (defBody s_Step_left) (defScope s_Step_left) [] [] (He.ma K (He.ga K "Step") "left") fd
  dm_Get___init__ : ∃ fd, FunD K "__init__" "Get.__init__" (defArgs s_Getu_initu) (defBody s_Getu_initu) (defScope s_Getu_initu) [] [] (He.ma K (He.ga K "Get") "__init__") fd
  dm_Get_told : ∃ fd, FunD K "told" "Get.told" (defArgs s_Get_told) (defBody s_Get_told) (defScope s_Get_told) [] [] (He.ma K (He.ga K "Get") "told") fd
  dm_Get_changed_places : ∃ fd, FunD K "changed_places" "Get.changed_places" (defArgs s_Get_changed_places) (defBody s_Get_changed_places) (defScope s_Get_changed_places) [] [] (He.ma K (He.ga K "Get") "changed_places") fd
  dm_Get_words : ∃ fd, FunD K "words" "Get.words" (defArgs s_Get_words) (defBody s_Get_words) (defScope s_Get_words) [] [] (He.ma K (He.ga K "Get") "words") fd
  dm_Get_taken : ∃ fd, FunD K "taken" "Get.taken" (defArgs s_Get_taken) (defBody s_Get_taken) (defScope s_Get_taken) [] [] (He.ma K (He.ga K "Get") "taken") fd
  dm_Get_sources : ∃ fd, FunD K "sources" "Step.sources" (defArgs s_Step_sources) (defBody s_Step_sources) (defScope s_Step_sources) [] [] (He.ma K (He.ga K "Get") "sources") fd
  dm_Get_uses_way : ∃ fd, FunD K "uses_way" "Step.uses_way" (defArgs s_Step_uses_way) (defBody s_Step_uses_way) (defScope s_Step_uses_way) [] [] (He.ma K (He.ga K "Get") "uses_way") fd
  dm_Get_reads : ∃ fd, FunD K "reads" "Step.reads" (defArgs s_Step_reads) (defBody s_Step_reads) (defScope s_Step_reads) [] [] (He.ma K (He.ga K "Get") "reads") fd
  dm_Get_writes : ∃ fd, FunD K "writes" "Step.writes" (defArgs s_Step_writes) (defBody s_Step_writes) (defScope s_Step_writes) [] [] (He.ma K (He.ga K "Get") "writes") fd
  dm_Get_left : ∃ fd, FunD K "left" "Step.left" (defArgs s_Step_left) (defBody s_Step_left) (defScope s_Step_left) [] [] (He.ma K (He.ga K "Get") "left") fd
  dm_Ask___init__ : ∃ fd, FunD K "__init__" "Ask.__init__" (defArgs s_Asku_initu) (defBody s_Asku_initu) (defScope s_Asku_initu) [] [] (He.ma K (He.ga K "Ask") "__init__") fd
  dm_Ask_told : ∃ fd, FunD K "told" "Ask.told" (defArgs s_Ask_told) (defBody s_Ask_told) (defScope s_Ask_told) [] [] (He.ma K (He.ga K "Ask") "told") fd
  dm_Ask_changed_places : ∃ fd, FunD K "changed_places" "Ask.changed_places" (defArgs s_Ask_changed_places) (defBody s_Ask_changed_places) (defScope s_Ask_changed_places) [] [] (He.ma K (He.ga K "Ask") "changed_places") fd
  dm_Ask_words : ∃ fd, FunD K "words" "Ask.words" (defArgs s_Ask_words) (defBody s_Ask_words) (defScope s_Ask_words) [] [] (He.ma K (He.ga K "Ask") "words") fd
  dm_Ask_taken : ∃ fd, FunD K "taken" "Ask.taken" (defArgs s_Ask_taken) (defBody s_Ask_taken) (defScope s_Ask_taken) [] [] (He.ma K (He.ga K "Ask") "taken") fd
  dm_Ask_sources : ∃ fd, FunD K "sources" "Step.sources" (defArgs s_Step_sources) (defBody s_Step_sources) (defScope s_Step_sources) [] [] (He.ma K (He.ga K "Ask") "sources") fd
  dm_Ask_uses_way : ∃ fd, FunD K "uses_way" "Step.uses_way" (defArgs s_Step_uses_way) (defBody s_Step_uses_way) (defScope s_Step_uses_way) [] [] (He.ma K (He.ga K "Ask") "uses_way") fd
  dm_Ask_reads : ∃ fd, FunD K "reads" "Step.reads" (defArgs s_Step_reads) (defBody s_Step_reads) (defScope s_Step_reads) [] [] (He.ma K (He.ga K "Ask") "reads") fd
  dm_Ask_writes : ∃ fd, FunD K "writes" "Step.writes" (defArgs s_Step_writes) (defBody s_Step_writes) (defScope s_Step_writes) [] [] (He.ma K (He.ga K "Ask") "writes") fd
  dm_Ask_left : ∃ fd, FunD K "left" "Step.left" (defArgs s_Step_left) (defBody s_Step_left) (defScope s_Step_left) [] [] (He.ma K (He.ga K "Ask") "left") fd
  dm_Cell___init__ : ∃ fd, FunD K "__init__" "Cell.__init__" (defArgs s_Cellu_initu) (defBody s_Cellu_initu) (defScope s_Cellu_initu) [] [] (He.ma K (He.ga K "Cell") "__init__") fd
  dm_Cell_told : ∃ fd, FunD K "told" "Cell.told" (defArgs s_Cell_told) (defBody s_Cell_told) (defScope s_Cell_told) [] [] (He.ma K (He.ga K "Cell") "told") fd
  dm_Cell_sources : ∃ fd, FunD K "sources" "Cell.sources" (defArgs s_Cell_sources) (defBody s_Cell_sources) (defScope s_Cell_sources) [] [] (He.ma K (He.ga K "Cell") "sources") fd
  dm_Cell_changed_places : ∃ fd, FunD K "changed_places" "Cell.changed_places" (defArgs s_Cell_changed_places) (defBody s_Cell_changed_places) (defScope s_Cell_changed_places) [] [] (He.ma K (He.ga K "Cell") "changed_places") fd
  dm_Cell_words : ∃ fd, FunD K "words" "Cell.words" (defArgs s_Cell_words) (defBody s_Cell_words) (defScope s_Cell_words) [] [] (He.ma K (He.ga K "Cell") "words") fd
  dm_Cell_taken : ∃ fd, FunD K "taken" "Cell.taken" (defArgs s_Cell_taken) (defBody s_Cell_taken) (defScope s_Cell_taken) [] [] (He.ma K (He.ga K "Cell") "taken") fd
  dm_Cell_uses_way : ∃ fd, FunD K "uses_way" "Step.uses_way" (defArgs s_Step_uses_way) (defBody s_Step_uses_way) (defScope s_Step_uses_way) [] [] (He.ma K (He.ga K "Cell") "uses_way") fd
  dm_Cell_reads : ∃ fd, FunD K "reads" "Step.reads" (defArgs s_Step_reads) (defBody s_Step_reads) (defScope s_Step_reads) [] [] (He.ma K (He.ga K "Cell") "reads") fd
  dm_Cell_writes : ∃ fd, FunD K "writes" "Step.writes" (defArgs s_Step_writes) (defBody s_Step_writes) (defScope s_Step_writes) [] [] (He.ma K (He.ga K "Cell") "writes") fd
  dm_Cell_left : ∃ fd, FunD K "left" "Step.left" (defArgs s_Step_left) (defBody s_Step_left) (defScope s_Step_left) [] [] (He.ma K (He.ga K "Cell") "left") fd
  dm_Two___init__ : ∃ fd, FunD K "__init__" "Two.__init__" (defArgs s_Twou_initu) (defBody s_Twou_initu) (defScope s_Twou_initu) [] [] (He.ma K (He.ga K "Two") "__init__") fd
  dm_Two_told : ∃ fd, FunD K "told" "Two.told" (defArgs s_Two_told) (defBody s_Two_told) (defScope s_Two_told) [] [] (He.ma K (He.ga K "Two") "told") fd
  dm_Two_sources : ∃ fd, FunD K "sources" "Two.sources" (defArgs s_Two_sources) (defBody s_Two_sources) (defScope s_Two_sources) [] [] (He.ma K (He.ga K "Two") "sources") fd
  dm_Two_changed_places : ∃ fd, FunD K "changed_places" "Two.changed_places" (defArgs s_Two_changed_places) (defBody s_Two_changed_places) (defScope s_Two_changed_places) [] [] (He.ma K (He.ga K "Two") "changed_places") fd
  dm_Two_uses_way : ∃ fd, FunD K "uses_way" "Two.uses_way" (defArgs s_Two_uses_way) (defBody s_Two_uses_way) (defScope s_Two_uses_way) [] [] (He.ma K (He.ga K "Two") "uses_way") fd
  dm_Two_words : ∃ fd, FunD K "words" "Two.words" (defArgs s_Two_words) (defBody s_Two_words) (defScope s_Two_words) [] [] (He.ma K (He.ga K "Two") "words") fd
  dm_Two_taken : ∃ fd, FunD K "taken" "Two.taken" (defArgs s_Two_taken) (defBody s_Two_taken) (defScope s_Two_taken) [] [] (He.ma K (He.ga K "Two") "taken") fd
  dm_Two_reads : ∃ fd, FunD K "reads" "Step.reads" (defArgs s_Step_reads) (defBody s_Step_reads) (defScope s_Step_reads) [] [] (He.ma K (He.ga K "Two") "reads") fd
  dm_Two_writes : ∃ fd, FunD K "writes" "Step.writes" (defArgs s_Step_writes) (defBody s_Step_writes) (defScope s_Step_writes) [] [] (He.ma K (He.ga K "Two") "writes") fd
  dm_Two_left : ∃ fd, FunD K "left" "Step.left" (defArgs s_Step_left) (defBody s_Step_left) (defScope s_Step_left) [] [] (He.ma K (He.ga K "Two") "left") fd
  dm_Put___init__ : ∃ fd, FunD K "__init__" "Put.__init__" (defArgs s_Putu_initu) (defBody s_Putu_initu) (defScope s_Putu_initu) [] [] (He.ma K (He.ga K "Put") "__init__") fd
  dm_Put_told : ∃ fd, FunD K "told" "Put.told" (defArgs s_Put_told) (defBody s_Put_told) (defScope s_Put_told) [] [] (He.ma K (He.ga K "Put") "told") fd
  dm_Put_sources : ∃ fd, FunD K "sources" "Put.sources" (defArgs s_Put_sources) (defBody s_Put_sources) (defScope s_Put_sources) [] [] (He.ma K (He.ga K "Put") "sources") fd
  dm_Put_words : ∃ fd, FunD K "words" "Put.words" (defArgs s_Put_words) (defBody s_Put_words) (defScope s_Put_words) [] [] (He.ma K (He.ga K "Put") "words") fd
  dm_Put_left : ∃ fd, FunD K "left" "Put.left" (defArgs s_Put_left) (defBody s_Put_left) (defScope s_Put_left) [] [] (He.ma K (He.ga K "Put") "left") fd
  dm_Put_changed_places : ∃ fd, FunD K "changed_places" "Step.changed_places" (defArgs s_Step_changed_places) (defBody s_Step_changed_places) (defScope s_Step_changed_places) [] [] (He.ma K (He.ga K "Put") "changed_places") fd
  dm_Put_uses_way : ∃ fd, FunD K "uses_way" "Step.uses_way" (defArgs s_Step_uses_way) (defBody s_Step_uses_way) (defScope s_Step_uses_way) [] [] (He.ma K (He.ga K "Put") "uses_way") fd
  dm_Put_reads : ∃ fd, FunD K "reads" "Step.reads" (defArgs s_Step_reads) (defBody s_Step_reads) (defScope s_Step_reads) [] [] (He.ma K (He.ga K "Put") "reads") fd
  dm_Put_writes : ∃ fd, FunD K "writes" "Step.writes" (defArgs s_Step_writes) (defBody s_Step_writes) (defScope s_Step_writes) [] [] (He.ma K (He.ga K "Put") "writes") fd
  dm_Put_taken : ∃ fd, FunD K "taken" "Step.taken" (defArgs s_Step_taken) (defBody s_Step_taken) (defScope s_Step_taken) [] [] (He.ma K (He.ga K "Put") "taken") fd
  dm_Tell___init__ : ∃ fd, FunD K "__init__" "Tell.__init__" (defArgs s_Tellu_initu) (defBody s_Tellu_initu) (defScope s_Tellu_initu) [] [] (He.ma K (He.ga K "Tell") "__init__") fd
  dm_Tell_told : ∃ fd, FunD K "told" "Tell.told" (defArgs s_Tell_told) (defBody s_Tell_told) (defScope s_Tell_told) [] [] (He.ma K (He.ga K "Tell") "told") fd
  dm_Tell_sources : ∃ fd, FunD K "sources" "Tell.sources" (defArgs s_Tell_sources) (defBody s_Tell_sources) (defScope s_Tell_sources) [] [] (He.ma K (He.ga K "Tell") "sources") fd
  dm_Tell_words : ∃ fd, FunD K "words" "Tell.words" (defArgs s_Tell_words) (defBody s_Tell_words) (defScope s_Tell_words) [] [] (He.ma K (He.ga K "Tell") "words") fd
  dm_Tell_left : ∃ fd, FunD K "left" "Tell.left" (defArgs s_Tell_left) (defBody s_Tell_left) (defScope s_Tell_left) [] [] (He.ma K (He.ga K "Tell") "left") fd
  dm_Tell_changed_places : ∃ fd, FunD K "changed_places" "Step.changed_places" (defArgs s_Step_changed_places) (defBody s_Step_changed_places) (defScope s_Step_changed_places) [] [] (He.ma K (He.ga K "Tell") "changed_places") fd
  dm_Tell_uses_way : ∃ fd, FunD K "uses_way" "Step.uses_way" (defArgs s_Step_uses_way) (defBody s_Step_uses_way) (defScope s_Step_uses_way) [] [] (He.ma K (He.ga K "Tell") "uses_way") fd
  dm_Tell_reads : ∃ fd, FunD K "reads" "Step.reads" (defArgs s_Step_reads) (defBody s_Step_reads) (defScope s_Step_reads) [] [] (He.ma K (He.ga K "Tell") "reads") fd
  dm_Tell_writes : ∃ fd, FunD K "writes" "Step.writes" (defArgs s_Step_writes) (defBody s_Step_writes) (defScope s_Step_writes) [] [] (He.ma K (He.ga K "Tell") "writes") fd
  dm_Tell_taken : ∃ fd, FunD K "taken" "Step.taken" (defArgs s_Step_taken) (defBody s_Step_taken) (defScope s_Step_taken) [] [] (He.ma K (He.ga K "Tell") "taken") fd
  dm_Store___init__ : ∃ fd, FunD K "__init__" "Store.__init__" (defArgs s_Storeu_initu) (defBody s_Storeu_initu) (defScope s_Storeu_initu) [] [] (He.ma K (He.ga K "Store") "__init__") fd
  dm_Store_told : ∃ fd, FunD K "told" "Store.told" (defArgs s_Store_told) (defBody s_Store_told) (defScope s_Store_told) [] [] (He.ma K (He.ga K "Store") "told") fd
  dm_Store_sources : ∃ fd, FunD K "sources" "Store.sources" (defArgs s_Store_sources) (defBody s_Store_sources) (defScope s_Store_sources) [] [] (He.ma K (He.ga K "Store") "sources") fd
  dm_Store_words : ∃ fd, FunD K "words" "Store.words" (defArgs s_Store_words) (defBody s_Store_words) (defScope s_Store_words) [] [] (He.ma K (He.ga K "Store") "words") fd
  dm_Store_taken : ∃ fd, FunD K "taken" "Store.taken" (defArgs s_Store_taken) (defBody s_Store_taken) (defScope s_Store_taken) [] [] (He.ma K (He.ga K "Store") "taken") fd
  dm_Store_left : ∃ fd, FunD K "left" "Store.left" (defArgs s_Store_left) (defBody s_Store_left) (defScope s_Store_left) [] [] (He.ma K (He.ga K "Store") "left") fd
  dm_Store_changed_places : ∃ fd, FunD K "changed_places" "Step.changed_places" (defArgs s_Step_changed_places) (defBody s_Step_changed_places) (defScope s_Step_changed_places) [] [] (He.ma K (He.ga K "Store") "changed_places") fd
  dm_Store_uses_way : ∃ fd, FunD K "uses_way" "Step.uses_way" (defArgs s_Step_uses_way) (defBody s_Step_uses_way) (defScope s_Step_uses_way) [] [] (He.ma K (He.ga K "Store") "uses_way") fd
  dm_Store_reads : ∃ fd, FunD K "reads" "Step.reads" (defArgs s_Step_reads) (defBody s_Step_reads) (defScope s_Step_reads) [] [] (He.ma K (He.ga K "Store") "reads") fd
  dm_Store_writes : ∃ fd, FunD K "writes" "Step.writes" (defArgs s_Step_writes) (defBody s_Step_writes) (defScope s_Step_writes) [] [] (He.ma K (He.ga K "Store") "writes") fd
  dm_Parts___init__ : ∃ fd, FunD K "__init__" "Parts.__init__" (defArgs s_Partsu_initu) (defBody s_Partsu_initu) (defScope s_Partsu_initu) [] [] (He.ma K (He.ga K "Parts") "__init__") fd
  dm_Parts_part_in : ∃ fd, FunD K "part_in" "Parts.part_in" (defArgs s_Parts_part_in) (defBody s_Parts_part_in) (defScope s_Parts_part_in) [] [] (He.ma K (He.ga K "Parts") "part_in") fd
  dm_Order___init__ : ∃ fd, FunD K "__init__" "Order.__init__" (defArgs s_Orderu_initu) (defBody s_Orderu_initu) (defScope s_Orderu_initu) [] [] (He.ma K (He.ga K "Order") "__init__") fd
  dm_Order_need_at : ∃ fd, FunD K "need_at" "Order.need_at" (defArgs s_Order_need_at) (defBody s_Order_need_at) (defScope s_Order_need_at) [] [] (He.ma K (He.ga K "Order") "need_at") fd
  dm_Order_need_of : ∃ fd, FunD K "need_of" "Order.need_of" (defArgs s_Order_need_of) (defBody s_Order_need_of) (defScope s_Order_need_of) [] [] (He.ma K (He.ga K "Order") "need_of") fd
  dm_Order_go_through : ∃ fd, FunD K "go_through" "Order.go_through" (defArgs s_Order_go_through) (defBody s_Order_go_through) (defScope s_Order_go_through) [] [] (He.ma K (He.ga K "Order") "go_through") fd
  gc_Step : mg "Step" = some (.ref (He.ga K "Step"))
  cl_Step : Cls K (He.ga K "Step")
  me_Step_told : Meth K (He.ga K "Step") "told" (He.ma K (He.ga K "Step") "told")
  me_Step_sources : Meth K (He.ga K "Step") "sources" (He.ma K (He.ga K "Step") "sources")
  me_Step_changed_places : Meth K (He.ga K "Step") "changed_places" (He.ma K (He.ga K "Step") "changed_places")
  me_Step_uses_way : Meth K (He.ga K "Step") "uses_way" (He.ma K (He.ga K "Step") "uses_way")
  me_Step_reads : Meth K (He.ga K "Step") "reads" (He.ma K (He.ga K "Step") "reads")
  me_Step_writes : Meth K (He.ga K "Step") "writes" (He.ma K (He.ga K "Step") "writes")
  me_Step_words : Meth K (He.ga K "Step") "words" (He.ma K (He.ga K "Step") "words")
  me_Step_taken : Meth K (He.ga K "Step") "taken" (He.ma K (He.ga K "Step") "taken")
  me_Step_left : Meth K (He.ga K "Step") "left" (He.ma K (He.ga K "Step") "left")
  gc_Get : mg "Get" = some (.ref (He.ga K "Get"))
  cl_Get : Cls K (He.ga K "Get")
  mk_Get : Mk K (He.ga K "Get") (He.ma K (He.ga K "Get") "__init__")
  na_Get_to : NoAttr K (He.ga K "Get") "to"
  na_Get_sel : NoAttr K (He.ga K "Get") "sel"
  me_Get_told : Meth K (He.ga K "Get") "told" (He.ma K (He.ga K "Get") "told")
  me_Get_changed_places : Meth K (He.ga K "Get") "changed_places" (He.ma K (He.ga K "Get") "changed_places")
  me_Get_words : Meth K (He.ga K "Get") "words" (He.ma K (He.ga K "Get") "words")
  me_Get_taken : Meth K (He.ga K "Get") "taken" (He.ma K (He.ga K "Get") "taken")
  me_Get_sources : Meth K (He.ga K "Get") "sources" (He.ma K (He.ga K "Get") "sources")
  me_Get_uses_way : Meth K (He.ga K "Get") "uses_way" (He.ma K (He.ga K "Get") "uses_way")
  me_Get_reads : Meth K (He.ga K "Get") "reads" (He.ma K (He.ga K "Get") "reads")
  me_Get_writes : Meth K (He.ga K "Get") "writes" (He.ma K (He.ga K "Get") "writes")
  me_Get_left : Meth K (He.ga K "Get") "left" (He.ma K (He.ga K "Get") "left")
  gc_Ask : mg "Ask" = some (.ref (He.ga K "Ask"))
  cl_Ask : Cls K (He.ga K "Ask")
  mk_Ask : Mk K (He.ga K "Ask") (He.ma K (He.ga K "Ask") "__init__")
  na_Ask_to : NoAttr K (He.ga K "Ask") "to"
  na_Ask_sel : NoAttr K (He.ga K "Ask") "sel"
  me_Ask_told : Meth K (He.ga K "Ask") "told" (He.ma K (He.ga K "Ask") "told")
  me_Ask_changed_places : Meth K (He.ga K "Ask") "changed_places" (He.ma K (He.ga K "Ask") "changed_places")
  me_Ask_words : Meth K (He.ga K "Ask") "words" (He.ma K (He.ga K "Ask") "words")
  me_Ask_taken : Meth K (He.ga K "Ask") "taken" (He.ma K (He.ga K "Ask") "taken")
  me_Ask_sources : Meth K (He.ga K "Ask") "sources" (He.ma K (He.ga K "Ask") "sources")
  me_Ask_uses_way : Meth K (He.ga K "Ask") "uses_way" (He.ma K (He.ga K "Ask") "uses_way")
  me_Ask_reads : Meth K (He.ga K "Ask") "reads" (He.ma K (He.ga K "Ask") "reads")
  me_Ask_writes : Meth K (He.ga K "Ask") "writes" (He.ma K (He.ga K "Ask") "writes")
  me_Ask_left : Meth K (He.ga K "Ask") "left" (He.ma K (He.ga K "Ask") "left")
  gc_Cell : mg "Cell" = some (.ref (He.ga K "Cell"))
  cl_Cell : Cls K (He.ga K "Cell")
  mk_Cell : Mk K (He.ga K "Cell") (He.ma K (He.ga K "Cell") "__init__")
  na_Cell_to : NoAttr K (He.ga K "Cell") "to"
  na_Cell_source : NoAttr K (He.ga K "Cell") "source"
  me_Cell_told : Meth K (He.ga K "Cell") "told" (He.ma K (He.ga K "Cell") "told")
  me_Cell_sources : Meth K (He.ga K "Cell") "sources" (He.ma K (He.ga K "Cell") "sources")
  me_Cell_changed_places : Meth K (He.ga K "Cell") "changed_places" (He.ma K (He.ga K "Cell") "changed_places")
  me_Cell_words : Meth K (He.ga K "Cell") "words" (He.ma K (He.ga K "Cell") "words")
  me_Cell_taken : Meth K (He.ga K "Cell") "taken" (He.ma K (He.ga K "Cell") "taken")
  me_Cell_uses_way : Meth K (He.ga K "Cell") "uses_way" (He.ma K (He.ga K "Cell") "uses_way")
  me_Cell_reads : Meth K (He.ga K "Cell") "reads" (He.ma K (He.ga K "Cell") "reads")
  me_Cell_writes : Meth K (He.ga K "Cell") "writes" (He.ma K (He.ga K "Cell") "writes")
  me_Cell_left : Meth K (He.ga K "Cell") "left" (He.ma K (He.ga K "Cell") "left")
  gc_Two : mg "Two" = some (.ref (He.ga K "Two"))
  cl_Two : Cls K (He.ga K "Two")
  mk_Two : Mk K (He.ga K "Two") (He.ma K (He.ga K "Two") "__init__")
  na_Two_to : NoAttr K (He.ga K "Two") "to"
  na_Two_op : NoAttr K (He.ga K "Two") "op"
  na_Two_one : NoAttr K (He.ga K "Two") "one"
  na_Two_other : NoAttr K (He.ga K "Two") "other"
  me_Two_told : Meth K (He.ga K "Two") "told" (He.ma K (He.ga K "Two") "told")
  me_Two_sources : Meth K (He.ga K "Two") "sources" (He.ma K (He.ga K "Two") "sources")
  me_Two_changed_places : Meth K (He.ga K "Two") "changed_places" (He.ma K (He.ga K "Two") "changed_places")
  me_Two_uses_way : Meth K (He.ga K "Two") "uses_way" (He.ma K (He.ga K "Two") "uses_way")
  me_Two_words : Meth K (He.ga K "Two") "words" (He.ma K (He.ga K "Two") "words")
  me_Two_taken : Meth K (He.ga K "Two") "taken" (He.ma K (He.ga K "Two") "taken")
  me_Two_reads : Meth K (He.ga K "Two") "reads" (He.ma K (He.ga K "Two") "reads")
  me_Two_writes : Meth K (He.ga K "Two") "writes" (He.ma K (He.ga K "Two") "writes")
  me_Two_left : Meth K (He.ga K "Two") "left" (He.ma K (He.ga K "Two") "left")
  gc_Put : mg "Put" = some (.ref (He.ga K "Put"))
  cl_Put : Cls K (He.ga K "Put")
  mk_Put : Mk K (He.ga K "Put") (He.ma K (He.ga K "Put") "__init__")
  na_Put_sel : NoAttr K (He.ga K "Put") "sel"
  na_Put_source : NoAttr K (He.ga K "Put") "source"
  me_Put_told : Meth K (He.ga K "Put") "told" (He.ma K (He.ga K "Put") "told")
  me_Put_sources : Meth K (He.ga K "Put") "sources" (He.ma K (He.ga K "Put") "sources")
  me_Put_words : Meth K (He.ga K "Put") "words" (He.ma K (He.ga K "Put") "words")
  me_Put_left : Meth K (He.ga K "Put") "left" (He.ma K (He.ga K "Put") "left")
  me_Put_changed_places : Meth K (He.ga K "Put") "changed_places" (He.ma K (He.ga K "Put") "changed_places")
  me_Put_uses_way : Meth K (He.ga K "Put") "uses_way" (He.ma K (He.ga K "Put") "uses_way")
  me_Put_reads : Meth K (He.ga K "Put") "reads" (He.ma K (He.ga K "Put") "reads")
  me_Put_writes : Meth K (He.ga K "Put") "writes" (He.ma K (He.ga K "Put") "writes")
  me_Put_taken : Meth K (He.ga K "Put") "taken" (He.ma K (He.ga K "Put") "taken")
  gc_Tell : mg "Tell" = some (.ref (He.ga K "Tell"))
  cl_Tell : Cls K (He.ga K "Tell")
  mk_Tell : Mk K (He.ga K "Tell") (He.ma K (He.ga K "Tell") "__init__")
  na_Tell_sel : NoAttr K (He.ga K "Tell") "sel"
  na_Tell_source : NoAttr K (He.ga K "Tell") "source"
  me_Tell_told : Meth K (He.ga K "Tell") "told" (He.ma K (He.ga K "Tell") "told")
  me_Tell_sources : Meth K (He.ga K "Tell") "sources" (He.ma K (He.ga K "Tell") "sources")
  me_Tell_words : Meth K (He.ga K "Tell") "words" (He.ma K (He.ga K "Tell") "words")
  me_Tell_left : Meth K (He.ga K "Tell") "left" (He.ma K (He.ga K "Tell") "left")
  me_Tell_changed_places : Meth K (He.ga K "Tell") "changed_places" (He.ma K (He.ga K "Tell") "changed_places")
  me_Tell_uses_way : Meth K (He.ga K "Tell") "uses_way" (He.ma K (He.ga K "Tell") "uses_way")
  me_Tell_reads : Meth K (He.ga K "Tell") "reads" (He.ma K (He.ga K "Tell") "reads")
  me_Tell_writes : Meth K (He.ga K "Tell") "writes" (He.ma K (He.ga K "Tell") "writes")
  me_Tell_taken : Meth K (He.ga K "Tell") "taken" (He.ma K (He.ga K "Tell") "taken")
  gc_Store : mg "Store" = some (.ref (He.ga K "Store"))
  cl_Store : Cls K (He.ga K "Store")
  mk_Store : Mk K (He.ga K "Store") (He.ma K (He.ga K "Store") "__init__")
  na_Store_at : NoAttr K (He.ga K "Store") "at"
  na_Store_source : NoAttr K (He.ga K "Store") "source"
  me_Store_told : Meth K (He.ga K "Store") "told" (He.ma K (He.ga K "Store") "told")
  me_Store_sources : Meth K (He.ga K "Store") "sources" (He.ma K (He.ga K "Store") "sources")
  me_Store_words : Meth K (He.ga K "Store") "words" (He.ma K (He.ga K "Store") "words")
  me_Store_taken : Meth K (He.ga K "Store") "taken" (He.ma K (He.ga K "Store") "taken")
  me_Store_left : Meth K (He.ga K "Store") "left" (He.ma K (He.ga K "Store") "left")
  me_Store_changed_places : Meth K (He.ga K "Store") "changed_places" (He.ma K (He.ga K "Store") "changed_places")
  me_Store_uses_way : Meth K (He.ga K "Store") "uses_way" (He.ma K (He.ga K "Store") "uses_way")
  me_Store_reads : Meth K (He.ga K "Store") "reads" (He.ma K (He.ga K "Store") "reads")
  me_Store_writes : Meth K (He.ga K "Store") "writes" (He.ma K (He.ga K "Store") "writes")
  gc_Parts : mg "Parts" = some (.ref (He.ga K "Parts"))
  cl_Parts : Cls K (He.ga K "Parts")
  mk_Parts : Mk K (He.ga K "Parts") (He.ma K (He.ga K "Parts") "__init__")
  na_Parts_rows : NoAttr K (He.ga K "Parts") "rows"
  me_Parts_part_in : Meth K (He.ga K "Parts") "part_in" (He.ma K (He.ga K "Parts") "part_in")
  gc_Order : mg "Order" = some (.ref (He.ga K "Order"))
  cl_Order : Cls K (He.ga K "Order")
  mk_Order : Mk K (He.ga K "Order") (He.ma K (He.ga K "Order") "__init__")
  na_Order_parts : NoAttr K (He.ga K "Order") "parts"
  na_Order_order : NoAttr K (He.ga K "Order") "order"
  na_Order_needed : NoAttr K (He.ga K "Order") "needed"
  me_Order_need_at : Meth K (He.ga K "Order") "need_at" (He.ma K (He.ga K "Order") "need_at")
  me_Order_need_of : Meth K (He.ga K "Order") "need_of" (He.ma K (He.ga K "Order") "need_of")
  me_Order_go_through : Meth K (He.ga K "Order") "go_through" (He.ma K (He.ga K "Order") "go_through")
  ty_Step : TyI K (He.ga K "Step")
  ty_Get : TyI K (He.ga K "Get")
  ty_Ask : TyI K (He.ga K "Ask")
  ty_Cell : TyI K (He.ga K "Cell")
  ty_Two : TyI K (He.ga K "Two")
  ty_Put : TyI K (He.ga K "Put")
  ty_Tell : TyI K (He.ga K "Tell")
  ty_Store : TyI K (He.ga K "Store")
  ty_Parts : TyI K (He.ga K "Parts")
  ty_Order : TyI K (He.ga K "Order")
  is_Step_Step : PySem.W.kitOne K (.ref (He.ga K "Step")) (.ref (He.ga K "Step")) = some true
  is_Get_Step : PySem.W.kitOne K (.ref (He.ga K "Get")) (.ref (He.ga K "Step")) = some true
  is_Ask_Step : PySem.W.kitOne K (.ref (He.ga K "Ask")) (.ref (He.ga K "Step")) = some true
  is_Cell_Step : PySem.W.kitOne K (.ref (He.ga K "Cell")) (.ref (He.ga K "Step")) = some true
  is_Two_Step : PySem.W.kitOne K (.ref (He.ga K "Two")) (.ref (He.ga K "Step")) = some true
  is_Put_Step : PySem.W.kitOne K (.ref (He.ga K "Put")) (.ref (He.ga K "Step")) = some true
  is_Tell_Step : PySem.W.kitOne K (.ref (He.ga K "Tell")) (.ref (He.ga K "Step")) = some true
  is_Store_Step : PySem.W.kitOne K (.ref (He.ga K "Store")) (.ref (He.ga K "Step")) = some true
  is_Parts_Step : PySem.W.kitOne K (.ref (He.ga K "Parts")) (.ref (He.ga K "Step")) = some false
  is_Order_Step : PySem.W.kitOne K (.ref (He.ga K "Order")) (.ref (He.ga K "Step")) = some false
theorem facts_of {h : Heap} {K : PySem.W.Frag} {mg : Str → Option Value} (X : K.In h) (G : h.Ns mainGlobals mg) (c : He.SaysD fa fn K) (cx : exB K = true) : Facts K mg where
  d_wall := c.def_ 0 rfl
  g_wall := He.glo_ok X G (c.fact 0 rfl)
  d_rests_of := c.def_ 1 rfl
  g_rests_of := He.glo_ok X G (c.fact 1 rfl)
  d_parts_and_roots := c.def_ 2 rfl
  g_parts_and_roots := He.glo_ok X G (c.fact 2 rfl)
  d_parts_of := c.def_ 3 rfl
  g_parts_of := He.glo_ok X G (c.fact 3 rfl)
  d_roots_of := c.def_ 4 rfl
  g_roots_of := He.glo_ok X G (c.fact 4 rfl)
  d_own_parts := c.def_ 5 rfl
  g_own_parts := He.glo_ok X G (c.fact 5 rfl)
  d_needs_of := c.def_ 6 rfl
  g_needs_of := He.glo_ok X G (c.fact 6 rfl)
  d_falling := c.def_ 7 rfl
  g_falling := He.glo_ok X G (c.fact 7 rfl)
  d_best_order := c.def_ 8 rfl
  g_best_order := He.glo_ok X G (c.fact 8 rfl)
  d_as_source := c.def_ 9 rfl
  g_as_source := He.glo_ok X G (c.fact 9 rfl)
  d_step_for := c.def_ 10 rfl
  g_step_for := He.glo_ok X G (c.fact 10 rfl)
  d_step_giving := c.def_ 11 rfl
  g_step_giving := He.glo_ok X G (c.fact 11 rfl)
  d_steps_of := c.def_ 12 rfl
  g_steps_of := He.glo_ok X G (c.fact 12 rfl)
  d_law_cell := c.def_ 13 rfl
  g_law_cell := He.glo_ok X G (c.fact 13 rfl)
  d_law_stream := c.def_ 14 rfl
  g_law_stream := He.glo_ok X G (c.fact 14 rfl)
  d_law_take := c.def_ 15 rfl
  g_law_take := He.glo_ok X G (c.fact 15 rfl)
  d_law_e := c.def_ 16 rfl
  g_law_e := He.glo_ok X G (c.fact 16 rfl)
  d_law_sets := c.def_ 17 rfl
  g_law_sets := He.glo_ok X G (c.fact 17 rfl)
  d_law_part := c.def_ 18 rfl
  g_law_part := He.glo_ok X G (c.fact 18 rfl)
  d_law_parts := c.def_ 19 rfl
  g_law_parts := He.glo_ok X G (c.fact 19 rfl)
  d_law_own := c.def_ 20 rfl
  g_law_own := He.glo_ok X G (c.fact 20 rfl)
  d_law_need := c.def_ 21 rfl
  g_law_need := He.glo_ok X G (c.fact 21 rfl)
  d_law_trees := c.def_ 22 rfl
  g_law_trees := He.glo_ok X G (c.fact 22 rfl)
  d_law_needs := c.def_ 23 rfl
  g_law_needs := He.glo_ok X G (c.fact 23 rfl)
  d_law_source := c.def_ 24 rfl
  g_law_source := He.glo_ok X G (c.fact 24 rfl)
  d_law_step := c.def_ 25 rfl
  g_law_step := He.glo_ok X G (c.fact 25 rfl)
  d_law_giving := c.def_ 26 rfl
  g_law_giving := He.glo_ok X G (c.fact 26 rfl)
  d_law_due := c.def_ 27 rfl
  g_law_due := He.glo_ok X G (c.fact 27 rfl)
  d_law := c.def_ 28 rfl
  g_law := He.glo_ok X G (c.fact 28 rfl)
  f_enumerate := He.free_ok X G (c.fact 29 rfl)
  f_int := He.free_ok X G (c.fact 30 rfl)
  f_isinstance := He.free_ok X G (c.fact 31 rfl)
  f_len := He.free_ok X G (c.fact 32 rfl)
  f_list := He.free_ok X G (c.fact 33 rfl)
  f_max := He.free_ok X G (c.fact 34 rfl)
  f_min := He.free_ok X G (c.fact 35 rfl)
  f_range := He.free_ok X G (c.fact 36 rfl)
  f_reversed := He.free_ok X G (c.fact 37 rfl)
  f_sorted := He.free_ok X G (c.fact 38 rfl)
  f_tuple := He.free_ok X G (c.fact 39 rfl)
  f_zip := He.free_ok X G (c.fact 40 rfl)
  dm_Step_told := c.def_ 29 rfl
  dm_Step_sources := c.def_ 30 rfl
  dm_Step_changed_places := c.def_ 31 rfl
  dm_Step_uses_way := c.def_ 32 rfl
  dm_Step_reads := c.def_ 33 rfl
  dm_Step_writes := c.def_ 34 rfl
  dm_Step_words := c.def_ 35 rfl
  dm_Step_taken := c.def_ 36 rfl
  dm_Step_left := c.def_ 37 rfl
  dm_Get___init__ := c.def_ 38 rfl
  dm_Get_told := c.def_ 39 rfl
  dm_Get_changed_places := c.def_ 40 rfl
  dm_Get_words := c.def_ 41 rfl
  dm_Get_taken := c.def_ 42 rfl
  dm_Get_sources := c.def_ 43 rfl
  dm_Get_uses_way := c.def_ 44 rfl
  dm_Get_reads := c.def_ 45 rfl
  dm_Get_writes := c.def_ 46 rfl
  dm_Get_left := c.def_ 47 rfl
  dm_Ask___init__ := c.def_ 48 rfl
  dm_Ask_told := c.def_ 49 rfl
  dm_Ask_changed_places := c.def_ 50 rfl
  dm_Ask_words := c.def_ 51 rfl
  dm_Ask_taken := c.def_ 52 rfl
  dm_Ask_sources := c.def_ 53 rfl
  dm_Ask_uses_way := c.def_ 54 rfl
  dm_Ask_reads := c.def_ 55 rfl
  dm_Ask_writes := c.def_ 56 rfl
  dm_Ask_left := c.def_ 57 rfl
  dm_Cell___init__ := c.def_ 58 rfl
  dm_Cell_told := c.def_ 59 rfl
  dm_Cell_sources := c.def_ 60 rfl
  dm_Cell_changed_places := c.def_ 61 rfl
  dm_Cell_words := c.def_ 62 rfl
  dm_Cell_taken := c.def_ 63 rfl
  dm_Cell_uses_way := c.def_ 64 rfl
  dm_Cell_reads := c.def_ 65 rfl
  dm_Cell_writes := c.def_ 66 rfl
  dm_Cell_left := c.def_ 67 rfl
  dm_Two___init__ := c.def_ 68 rfl
  dm_Two_told := c.def_ 69 rfl
  dm_Two_sources := c.def_ 70 rfl
  dm_Two_changed_places := c.def_ 71 rfl
  dm_Two_uses_way := c.def_ 72 rfl
  dm_Two_words := c.def_ 73 rfl
  dm_Two_taken := c.def_ 74 rfl
  dm_Two_reads := c.def_ 75 rfl
  dm_Two_writes := c.def_ 76 rfl
  dm_Two_left := c.def_ 77 rfl
  dm_Put___init__ := c.def_ 78 rfl
  dm_Put_told := c.def_ 79 rfl
  dm_Put_sources := c.def_ 80 rfl
  dm_Put_words := c.def_ 81 rfl
  dm_Put_left := c.def_ 82 rfl
  dm_Put_changed_places := c.def_ 83 rfl
  dm_Put_uses_way := c.def_ 84 rfl
  dm_Put_reads := c.def_ 85 rfl
  dm_Put_writes := c.def_ 86 rfl
  dm_Put_taken := c.def_ 87 rfl
  dm_Tell___init__ := c.def_ 88 rfl
  dm_Tell_told := c.def_ 89 rfl
  dm_Tell_sources := c.def_ 90 rfl
  dm_Tell_words := c.def_ 91 rfl
  dm_Tell_left := c.def_ 92 rfl
  dm_Tell_changed_places := c.def_ 93 rfl
  dm_Tell_uses_way := c.def_ 94 rfl
  dm_Tell_reads := c.def_ 95 rfl
  dm_Tell_writes := c.def_ 96 rfl
  dm_Tell_taken := c.def_ 97 rfl
  dm_Store___init__ := c.def_ 98 rfl
  dm_Store_told := c.def_ 99 rfl
  dm_Store_sources := c.def_ 100 rfl
  dm_Store_words := c.def_ 101 rfl
  dm_Store_taken := c.def_ 102 rfl
  dm_Store_left := c.def_ 103 rfl
  dm_Store_changed_places := c.def_ 104 rfl
  dm_Store_uses_way := c.def_ 105 rfl
  dm_Store_reads := c.def_ 106 rfl
  dm_Store_writes := c.def_ 107 rfl
  dm_Parts___init__ := c.def_ 108 rfl
  dm_Parts_part_in := c.def_ 109 rfl
  dm_Order___init__ := c.def_ 110 rfl
  dm_Order_need_at := c.def_ 111 rfl
  dm_Order_need_of := c.def_ 112 rfl
  dm_Order_go_through := c.def_ 113 rfl
  gc_Step := He.glo_ok X G (c.fact 41 rfl)
  cl_Step := He.cls_ok (c.fact 42 rfl)
  me_Step_told := He.meth_ok (c.fact 43 rfl)
  me_Step_sources := He.meth_ok (c.fact 44 rfl)
  me_Step_changed_places := He.meth_ok (c.fact 45 rfl)
  me_Step_uses_way := He.meth_ok (c.fact 46 rfl)
  me_Step_reads := He.meth_ok (c.fact 47 rfl)
  me_Step_writes := He.meth_ok (c.fact 48 rfl)
  me_Step_words := He.meth_ok (c.fact 49 rfl)
  me_Step_taken := He.meth_ok (c.fact 50 rfl)
  me_Step_left := He.meth_ok (c.fact 51 rfl)
  gc_Get := He.glo_ok X G (c.fact 52 rfl)
  cl_Get := He.cls_ok (c.fact 53 rfl)
  mk_Get := He.mkr_ok (c.fact 54 rfl)
  na_Get_to := He.noat_ok (c.fact 55 rfl)
  na_Get_sel := He.noat_ok (c.fact 56 rfl)
  me_Get_told := He.meth_ok (c.fact 57 rfl)
  me_Get_changed_places := He.meth_ok (c.fact 58 rfl)
  me_Get_words := He.meth_ok (c.fact 59 rfl)
  me_Get_taken := He.meth_ok (c.fact 60 rfl)
  me_Get_sources := He.meth_ok (c.fact 61 rfl)
  me_Get_uses_way := He.meth_ok (c.fact 62 rfl)
  me_Get_reads := He.meth_ok (c.fact 63 rfl)
  me_Get_writes := He.meth_ok (c.fact 64 rfl)
  me_Get_left := He.meth_ok (c.fact 65 rfl)
  gc_Ask := He.glo_ok X G (c.fact 66 rfl)
  cl_Ask := He.cls_ok (c.fact 67 rfl)
  mk_Ask := He.mkr_ok (c.fact 68 rfl)
  na_Ask_to := He.noat_ok (c.fact 69 rfl)
  na_Ask_sel := He.noat_ok (c.fact 70 rfl)
  me_Ask_told := He.meth_ok (c.fact 71 rfl)
  me_Ask_changed_places := He.meth_ok (c.fact 72 rfl)
  me_Ask_words := He.meth_ok (c.fact 73 rfl)
  me_Ask_taken := He.meth_ok (c.fact 74 rfl)
  me_Ask_sources := He.meth_ok (c.fact 75 rfl)
  me_Ask_uses_way := He.meth_ok (c.fact 76 rfl)
  me_Ask_reads := He.meth_ok (c.fact 77 rfl)
  me_Ask_writes := He.meth_ok (c.fact 78 rfl)
  me_Ask_left := He.meth_ok (c.fact 79 rfl)
  gc_Cell := He.glo_ok X G (c.fact 80 rfl)
  cl_Cell := He.cls_ok (c.fact 81 rfl)
  mk_Cell := He.mkr_ok (c.fact 82 rfl)
  na_Cell_to := He.noat_ok (c.fact 83 rfl)
  na_Cell_source := He.noat_ok (c.fact 84 rfl)
  me_Cell_told := He.meth_ok (c.fact 85 rfl)
  me_Cell_sources := He.meth_ok (c.fact 86 rfl)
  me_Cell_changed_places := He.meth_ok (c.fact 87 rfl)
  me_Cell_words := He.meth_ok (c.fact 88 rfl)
  me_Cell_taken := He.meth_ok (c.fact 89 rfl)
  me_Cell_uses_way := He.meth_ok (c.fact 90 rfl)
  me_Cell_reads := He.meth_ok (c.fact 91 rfl)
  me_Cell_writes := He.meth_ok (c.fact 92 rfl)
  me_Cell_left := He.meth_ok (c.fact 93 rfl)
  gc_Two := He.glo_ok X G (c.fact 94 rfl)
  cl_Two := He.cls_ok (c.fact 95 rfl)
  mk_Two := He.mkr_ok (c.fact 96 rfl)
  na_Two_to := He.noat_ok (c.fact 97 rfl)
  na_Two_op := He.noat_ok (c.fact 98 rfl)
  na_Two_one := He.noat_ok (c.fact 99 rfl)
  na_Two_other := He.noat_ok (c.fact 100 rfl)
  me_Two_told := He.meth_ok (c.fact 101 rfl)
  me_Two_sources := He.meth_ok (c.fact 102 rfl)
  me_Two_changed_places := He.meth_ok (c.fact 103 rfl)
  me_Two_uses_way := He.meth_ok (c.fact 104 rfl)
  me_Two_words := He.meth_ok (c.fact 105 rfl)
  me_Two_taken := He.meth_ok (c.fact 106 rfl)
  me_Two_reads := He.meth_ok (c.fact 107 rfl)
  me_Two_writes := He.meth_ok (c.fact 108 rfl)
  me_Two_left := He.meth_ok (c.fact 109 rfl)
  gc_Put := He.glo_ok X G (c.fact 110 rfl)
  cl_Put := He.cls_ok (c.fact 111 rfl)
  mk_Put := He.mkr_ok (c.fact 112 rfl)
  na_Put_sel := He.noat_ok (c.fact 113 rfl)
  na_Put_source := He.noat_ok (c.fact 114 rfl)
  me_Put_told := He.meth_ok (c.fact 115 rfl)
  me_Put_sources := He.meth_ok (c.fact 116 rfl)
  me_Put_words := He.meth_ok (c.fact 117 rfl)
  me_Put_left := He.meth_ok (c.fact 118 rfl)
  me_Put_changed_places := He.meth_ok (c.fact 119 rfl)
  me_Put_uses_way := He.meth_ok (c.fact 120 rfl)
  me_Put_reads := He.meth_ok (c.fact 121 rfl)
  me_Put_writes := He.meth_ok (c.fact 122 rfl)
  me_Put_taken := He.meth_ok (c.fact 123 rfl)
  gc_Tell := He.glo_ok X G (c.fact 124 rfl)
  cl_Tell := He.cls_ok (c.fact 125 rfl)
  mk_Tell := He.mkr_ok (c.fact 126 rfl)
  na_Tell_sel := He.noat_ok (c.fact 127 rfl)
  na_Tell_source := He.noat_ok (c.fact 128 rfl)
  me_Tell_told := He.meth_ok (c.fact 129 rfl)
  me_Tell_sources := He.meth_ok (c.fact 130 rfl)
  me_Tell_words := He.meth_ok (c.fact 131 rfl)
  me_Tell_left := He.meth_ok (c.fact 132 rfl)
  me_Tell_changed_places := He.meth_ok (c.fact 133 rfl)
  me_Tell_uses_way := He.meth_ok (c.fact 134 rfl)
  me_Tell_reads := He.meth_ok (c.fact 135 rfl)
  me_Tell_writes := He.meth_ok (c.fact 136 rfl)
  me_Tell_taken := He.meth_ok (c.fact 137 rfl)
  gc_Store := He.glo_ok X G (c.fact 138 rfl)
  cl_Store := He.cls_ok (c.fact 139 rfl)
  mk_Store := He.mkr_ok (c.fact 140 rfl)
  na_Store_at := He.noat_ok (c.fact 141 rfl)
  na_Store_source := He.noat_ok (c.fact 142 rfl)
  me_Store_told := He.meth_ok (c.fact 143 rfl)
  me_Store_sources := He.meth_ok (c.fact 144 rfl)
  me_Store_words := He.meth_ok (c.fact 145 rfl)
  me_Store_taken := He.meth_ok (c.fact 146 rfl)
  me_Store_left := He.meth_ok (c.fact 147 rfl)
  me_Store_changed_places := He.meth_ok (c.fact 148 rfl)
  me_Store_uses_way := He.meth_ok (c.fact 149 rfl)
  me_Store_reads := He.meth_ok (c.fact 150 rfl)
  me_Store_writes := He.meth_ok (c.fact 151 rfl)
  gc_Parts := He.glo_ok X G (c.fact 152 rfl)
  cl_Parts := He.cls_ok (c.fact 153 rfl)
  mk_Parts := He.mkr_ok (c.fact 154 rfl)
  na_Parts_rows := He.noat_ok (c.fact 155 rfl)
  me_Parts_part_in := He.meth_ok (c.fact 156 rfl)
  gc_Order := He.glo_ok X G (c.fact 157 rfl)
  cl_Order := He.cls_ok (c.fact 158 rfl)
  mk_Order := He.mkr_ok (c.fact 159 rfl)
  na_Order_parts := He.noat_ok (c.fact 160 rfl)
  na_Order_order := He.noat_ok (c.fact 161 rfl)
  na_Order_needed := He.noat_ok (c.fact 162 rfl)
  me_Order_need_at := He.meth_ok (c.fact 163 rfl)
  me_Order_need_of := He.meth_ok (c.fact 164 rfl)
  me_Order_go_through := He.meth_ok (c.fact 165 rfl)
  ty_Step := tyi_ok (exB_at cx 0 rfl)
  ty_Get := tyi_ok (exB_at cx 1 rfl)
  ty_Ask := tyi_ok (exB_at cx 2 rfl)
  ty_Cell := tyi_ok (exB_at cx 3 rfl)
  ty_Two := tyi_ok (exB_at cx 4 rfl)
  ty_Put := tyi_ok (exB_at cx 5 rfl)
  ty_Tell := tyi_ok (exB_at cx 6 rfl)
  ty_Store := tyi_ok (exB_at cx 7 rfl)
  ty_Parts := tyi_ok (exB_at cx 8 rfl)
  ty_Order := tyi_ok (exB_at cx 9 rfl)
  is_Step_Step := of_decide_eq_true (exB_at cx 10 rfl)
  is_Get_Step := of_decide_eq_true (exB_at cx 11 rfl)
  is_Ask_Step := of_decide_eq_true (exB_at cx 12 rfl)
  is_Cell_Step := of_decide_eq_true (exB_at cx 13 rfl)
  is_Two_Step := of_decide_eq_true (exB_at cx 14 rfl)
  is_Put_Step := of_decide_eq_true (exB_at cx 15 rfl)
  is_Tell_Step := of_decide_eq_true (exB_at cx 16 rfl)
  is_Store_Step := of_decide_eq_true (exB_at cx 17 rfl)
  is_Parts_Step := of_decide_eq_true (exB_at cx 18 rfl)
  is_Order_Step := of_decide_eq_true (exB_at cx 19 rfl)
end J
namespace J
open PySem PySem.Spec PyProof.Rows L2
def loose0 : List PySem.Str := ["_wall", "rests_of", "parts_and_roots", "parts_of", "roots_of", "own_parts", "needs_of", "falling", "best_order", "as_source", "step_for", "step_giving", "steps_of", "_law_cell", "_law_stream", "_law_take", "_law_e", "_law_sets", "_law_part", "_law_parts", "_law_own", "_law_need", "_law_trees", "_law_needs", "_law_source", "_law_step", "_law_giving", "_law_due", "Step", "Get"]
def loose1 : List PySem.Str := ["Ask", "Cell", "Two", "Put", "Tell", "Store", "Parts", "Order"]
def loose : List PySem.Str := loose0 ++ loose1
abbrev rowR : PySem.W.OpenRow := PySem.W.OpenLaw.row PySem.Challenge.rw_rowsjoined_k31_steps_for_parts
abbrev hk : PySem.W.Hook := He.hookX 4 fa fn [] [] exB
def ob (s : PySem.W.SharedT) : He.AlX := He.obsX 4 fa fn [] [] exB (HandSHeadRun.getT s)
theorem ob_eq (s : PySem.W.SharedT) : ob s = hk.obs s.abs := He.obsX_eq (HandSHeadRun.getT_eq s)
theorem run (w : World) : HandSHeadRun.RunEq rowR (PySem.W.view rowR.prog [41]) hk ob 12000 loose w := by
  intro os
  kernel_rfl
end J
namespace J
open PySem PySem.Spec PyProof.Rows L2
local macro_rules | `(tactic| walk_at "cls") => `(tactic| first
  | with_reducible exact Facts.cl_Step
  | with_reducible exact Facts.cl_Get
  | with_reducible exact Facts.cl_Ask
  | with_reducible exact Facts.cl_Cell
  | with_reducible exact Facts.cl_Two
  | with_reducible exact Facts.cl_Put
  | with_reducible exact Facts.cl_Tell
  | with_reducible exact Facts.cl_Store
  | with_reducible exact Facts.cl_Parts
  | with_reducible exact Facts.cl_Order)
local macro_rules | `(tactic| walk_at "na") => `(tactic| first
  | with_reducible exact Facts.na_Get_to
  | with_reducible exact Facts.na_Get_sel
  | with_reducible exact Facts.na_Ask_to
  | with_reducible exact Facts.na_Ask_sel
  | with_reducible exact Facts.na_Cell_to
  | with_reducible exact Facts.na_Cell_source
  | with_reducible exact Facts.na_Two_to
  | with_reducible exact Facts.na_Two_op
  | with_reducible exact Facts.na_Two_one
  | with_reducible exact Facts.na_Two_other
  | with_reducible exact Facts.na_Put_sel
  | with_reducible exact Facts.na_Put_source
  | with_reducible exact Facts.na_Tell_sel
  | with_reducible exact Facts.na_Tell_source
  | with_reducible exact Facts.na_Store_at
  | with_reducible exact Facts.na_Store_source
  | with_reducible exact Facts.na_Parts_rows
  | with_reducible exact Facts.na_Order_parts
  | with_reducible exact Facts.na_Order_order
  | with_reducible exact Facts.na_Order_needed)
local macro_rules | `(tactic| walk_at "ty") => `(tactic| first
  | with_reducible exact ty_int
  | with_reducible exact ty_bl
  | with_reducible exact ty_str
  | with_reducible exact ty_non
  | ((with_reducible refine' ty_lst ?vv); (case vv => walk_at "tr"))
  | ((with_reducible refine' ty_sqT ?vv); (case vv => walk_at "tr"))
  | ((with_reducible refine' ty_dic ?vv); (case vv => walk_at "tr")))
local macro_rules | `(tactic| walk_at "ix") => `(tactic| first | exact at0 | exact at1 | exact at2 | assumption)
local macro_rules | `(tactic| walk_at "size") => `(tactic| first
  | assumption
  | (show _ < sizeLine; rw [sizeLine_eq]; (try simp only [List.length_cons, List.length_nil, List.length_append, List.length_map]); omega)
  | (show _ ≤ sizeLine; rw [sizeLine_eq]; (try simp only [List.length_cons, List.length_nil, List.length_append, List.length_map]); omega))
local macro_rules | `(tactic| walk_at "side") => `(tactic| first
  | assumption
  | ((with_reducible refine cdw ?_ ?_) <;> omega)
  | omega
  | (exact ⟨by omega, by omega⟩)
  | (exact Or.inl ⟨by omega, by omega⟩)
  | (exact Or.inr ⟨by omega, by omega⟩)
  | decide
  | (simp only [List.length_cons, List.length_nil, List.length_append, List.length_map]; omega)
  | (show _ ≤ _; decide))
local macro_rules | `(tactic| walk_at "as") => `(tactic| with_reducible assumption)
local macro_rules | `(tactic| walk_at "tr") => `(tactic| first
  | with_reducible assumption
  | with_reducible exact upd_same
  | ((with_reducible refine' SqL.of ?hh); (case hh => walk_at "as"))
  | ((with_reducible refine' SqT.of ?hh); (case hh => walk_at "as"))
  | ((with_reducible refine' Same.stm ?ee ?gg); (case ee => walk_at "as"); (case gg => walk_at "tr"))
  | ((with_reducible refine' Same.sqT ?ee ?gg); (case ee => walk_at "as"); (case gg => walk_at "tr"))
  | ((with_reducible refine' Same.sqL ?ee ?gg); (case ee => walk_at "as"); (case gg => walk_at "tr"))
  | ((with_reducible refine' Same.at ?ee ?gg); (case ee => walk_at "as"); (case gg => walk_at "tr"))
  | ((with_reducible refine' But.stm ?ee ?ff ?gg); (case ee => walk_at "as"); (case ff => walk_at "ne"); (case gg => walk_at "tr"))
  | ((with_reducible refine' But.tup ?ee ?ff ?gg); (case ee => walk_at "as"); (case ff => walk_at "tr1"); (case gg => walk_at "tr"))
  | ((with_reducible refine' But.sqT ?ee ?ff ?gg); (case ee => walk_at "as"); (case ff => walk_at "tr1"); (case gg => walk_at "tr"))
  | ((with_reducible refine' But.tupL ?ee ?ff ?gg); (case ee => walk_at "as"); (case ff => walk_at "tr1"); (case gg => walk_at "tr"))
  | ((with_reducible refine' But.sqTL ?ee ?ff ?gg); (case ee => walk_at "as"); (case ff => walk_at "tr1"); (case gg => walk_at "tr"))
  | ((with_reducible refine' But.sqL ?ee ?ff ?gg); (case ee => walk_at "as"); (case ff => walk_at "ne"); (case gg => walk_at "tr"))
  | ((with_reducible refine' But.at ?ee ?ff ?gg); (case ee => walk_at "as"); (case ff => walk_at "ne"); (case gg => walk_at "tr")))
local macro_rules | `(tactic| walk_at "ts") => `(tactic| first
  | with_reducible assumption
  | with_reducible exact TS.refl _
  | ((with_reducible refine' TS.trans ?gg (TS.of ?ee)); (case ee => walk_at "as"); (case gg => walk_at "ts"))
  | ((with_reducible refine' TS.trans ?gg (TS.butS ?ee ?ff)); (case ee => walk_at "as"); (case ff => walk_at "tr1"); (case gg => walk_at "ts"))
  | ((with_reducible refine' TS.trans ?gg (TS.butL ?ee ?ff)); (case ee => walk_at "as"); (case ff => walk_at "tr1"); (case gg => walk_at "ts"))
  | ((with_reducible refine' TS.trans ?gg (TS.butI ?ee ?ff)); (case ee => walk_at "as"); (case ff => walk_at "tr1"); (case gg => walk_at "ts")))
local macro_rules | `(tactic| walk_at "sm") => `(tactic| first
  | with_reducible assumption
  | with_reducible exact Same.refl _
  | ((with_reducible refine' Same.trans ?gg ?ee); (case ee => walk_at "as"); (case gg => walk_at "sm"))
  | ((with_reducible refine' But.new ?gg ?nn ?ee); (case ee => walk_at "as"); (case nn => walk_at "fr"); (case gg => walk_at "sm")))
local macro_rules | `(tactic| walk_at "fr") => `(tactic| first
  | with_reducible assumption
  | ((with_reducible refine' Same.back ?ee ?nn); (case nn => walk_at "as"); (case ee => walk_at "sm"))
  | ((with_reducible refine' But.back ?ee ?ff ?nn); (case nn => walk_at "as"); (case ff => walk_at "ne0"); (case ee => walk_at "bu")))
local macro_rules | `(tactic| walk_at "bu") => `(tactic| first
  | with_reducible assumption
  | with_reducible exact But.refl _ _
  | ((with_reducible refine' But.trans ?gg ?ee); (case ee => walk_at "as"); (case gg => walk_at "bu"))
  | ((with_reducible refine' But.trans ?gg (But.of ?ee)); (case ee => walk_at "as"); (case gg => walk_at "bu"))
  | ((with_reducible refine' But.new2 ?gg ?nn ?ee); (case ee => walk_at "as"); (case nn => walk_at "frB"); (case gg => walk_at "bu")))
local macro_rules | `(tactic| walk_at "frB") => `(tactic| first
  | with_reducible assumption
  | ((with_reducible refine' Same.back ?ee ?nn); (case nn => walk_at "as"); (case ee => walk_at "sm"))
  | ((with_reducible refine' But.back' ?ee ?ff ?nn); (case nn => walk_at "as"); (case ee => walk_at "bu"); (case ff => walk_at "tr1")))
local macro_rules | `(tactic| walk_at "tr1") => `(tactic| first
  | with_reducible assumption
  | ((with_reducible refine' Same.stm ?ee ?gg); (case ee => walk_at "as"); (case gg => walk_at "tr1"))
  | ((with_reducible refine' Same.at ?ee ?gg); (case ee => walk_at "as"); (case gg => walk_at "tr1"))
  | ((with_reducible refine' But.at ?ee ?ff ?gg); (case ee => walk_at "as"); (case ff => walk_at "ne0"); (case gg => walk_at "tr1"))
  | ((with_reducible refine' But.stm ?ee ?ff ?gg); (case ee => walk_at "as"); (case ff => walk_at "ne0"); (case gg => walk_at "tr1")))
local macro_rules | `(tactic| walk_at "ne0") => `(tactic| first
  | with_reducible assumption
  | (with_reducible apply Ne.symm; with_reducible assumption))
local macro_rules | `(tactic| walk_at "ne") => `(tactic| first
  | with_reducible assumption
  | (with_reducible apply Ne.symm; with_reducible assumption)
  | ((with_reducible refine' stm_ne ?hh ?nn); (case nn => walk_at "as"); (case hh => walk_at "tr1"))
  | ((with_reducible refine' ne_of_none ?hh ?nn); (case nn => walk_at "as"); (case hh => walk_at "tr1"))
  | ((with_reducible apply Ne.symm); (with_reducible refine' ne_of_none ?hh ?nn); (case nn => walk_at "as"); (case hh => walk_at "tr1")))
local macro_rules | `(tactic| walk_at "v") => `(tactic| first
  | with_reducible refine w_seq ?_
  | ((with_reducible refine' w_var ?vv ?_); (case vv => exact rfl))
  | with_reducible refine w_c ?_
  | with_reducible refine w_op ?_
  | with_reducible refine w_asg ?_
  | with_reducible refine w_gName ?_
  | with_reducible refine w_ret ?_
  | with_reducible refine w_ifS ?_
  | with_reducible refine w_drop ?_
  | with_reducible refine w_next ?_
  | with_reducible refine w_cons ?_
  | with_reducible refine w_nil ?_
  | with_reducible refine w_call ?_
  | with_reducible refine w_cb ?_
  | with_reducible refine w_rI0 ?_
  | with_reducible refine w_addI ?_
  | with_reducible refine w_eqI ?_
  | with_reducible refine w_neI ?_
  | with_reducible refine w_eqS ?_
  | with_reducible refine w_neS ?_
  | with_reducible refine w_eqB ?_
  | with_reducible refine w_neB ?_
  | with_reducible refine w_chain ?_
  | with_reducible refine w_test ?_
  | with_reducible refine w_tB ?_
  | with_reducible refine w_bl ?_
  | ((with_reducible refine' w_mulI ?vv ?_); (case vv => walk_at "side"))
  | ((with_reducible refine' w_rI ?vv ?_); (case vv => walk_at "side"))
  | with_reducible refine w_int1 ?_
  | with_reducible refine w_int1b ?_
  | with_reducible refine w_tup ?_
  | with_reducible refine w_lst ?_
  | with_reducible refine w_un ?_
  | with_reducible refine w_rU ?_
  | with_reducible refine w_not ?_
  | with_reducible refine w_notV ?_
  | with_reducible refine w_ifE ?_
  | with_reducible refine w_nT ?_
  | with_reducible refine w_nF ?_
  | with_reducible refine iteT ?_
  | with_reducible refine iteF ?_
  | ((with_reducible refine' w_ixT ?vv ?ww ?_); (case vv => walk_at "tr"); (case ww => walk_at "ix"))
  | ((with_reducible refine' w_ixL ?vv ?ww ?_); (case vv => walk_at "tr"); (case ww => walk_at "ix"))
  | with_reducible refine w_gSub ?_
  | ((with_reducible refine' w_setL ?vv ?ww ?_); (case vv => walk_at "tr"); (case ww => first | rfl | decide | assumption))
  | ((with_reducible refine' w_lenL ?vv ?_); (case vv => walk_at "tr"))
  | ((with_reducible refine' w_lenT ?vv ?_); (case vv => walk_at "tr"))
  | with_reducible refine w_max2 ?_
  | with_reducible refine w_max3 ?_
  | with_reducible refine w_din ?_
  | with_reducible refine w_dnotin ?_
  | with_reducible refine w_dput ?_
  | with_reducible refine w_min2 ?_
  | with_reducible refine w_bm ?_
  | with_reducible refine w_bm0 ?_
  | ((with_reducible refine' w_tyL ?vv ?_); (case vv => walk_at "tr"))
  | ((with_reducible refine' w_append ?vv ?ww ?_); (case vv => walk_at "tr"); (case ww => walk_at "size"))
  | ((with_reducible refine' w_size ?vv ?_); (case vv => walk_at "size"))
  | with_reducible refine w_forL ?_
  | with_reducible refine w_forT ?_
  | with_reducible refine w_forR1 ?_
  | with_reducible refine w_forR2 ?_
  | with_reducible refine w_lcL ?_
  | with_reducible refine w_lcT ?_
  | with_reducible refine w_lcR1 ?_
  | with_reducible refine w_yes ?_
  | with_reducible refine w_sl ?_
  | with_reducible refine w_noPart ?_
  | with_reducible refine w_part ?_
  | with_reducible refine w_int ?_
  | ((with_reducible refine' w_slL ?vv ?_); (case vv => walk_at "tr"))
  | ((with_reducible refine' w_seqL ?vv ?ww ?_); (case vv => walk_at "tr"); (case ww => rfl))
  | ((with_reducible refine' w_seqT ?vv ?ww ?_); (case vv => walk_at "tr"); (case ww => rfl))
  | with_reducible refine w_gNil ?_
  | with_reducible refine w_gCons ?_
  | with_reducible refine w_forZ ?_
  | with_reducible refine w_forM ?_
  | with_reducible refine w_forE ?_
  | with_reducible refine w_forV ?_
  | with_reducible refine w_lcZ ?_
  | with_reducible refine w_lcE ?_
  | ((with_reducible refine' w_isi (b := true) ?vv ?ww ?_); (case vv => walk_at "ty"); (case ww => decide +kernel))
  | ((with_reducible refine' w_isi (b := false) ?vv ?ww ?_); (case vv => walk_at "ty"); (case ww => decide +kernel))
  | with_reducible refine w_revL ?_
  | with_reducible refine w_pairN ?_
  | with_reducible refine w_pairC ?_
  | with_reducible refine w_dget ?_
  | with_reducible refine w_met ?_
  | ((with_reducible refine' w_metAt ?vv ?ww ?_); (case vv => walk_at "tr"); (case ww => rfl))
  | with_reducible refine w_mkI ?_
  | with_reducible refine w_fld ?_
  | ((with_reducible refine' w_fldAt ?vv ?cc ?nn ?ww ?_); (case vv => walk_at "tr"); (case cc => walk_at "cls"); (case nn => walk_at "na"); (case ww => rfl))
  | with_reducible refine w_sfld ?_
  | ((with_reducible refine' w_sfldAt ?vv ?cc ?nn ?ll ?ee ?_); (case vv => walk_at "tr"); (case cc => walk_at "cls"); (case nn => walk_at "na"); (case ll => simp); (case ee => rfl))
  | ((with_reducible refine' w_tupL ?vv ?_); (case vv => walk_at "tr"))
  | ((with_reducible refine' w_tupT ?vv ?_); (case vv => walk_at "tr"))
  | ((with_reducible refine' w_listL ?vv ?_); (case vv => walk_at "tr"))
  | ((with_reducible refine' w_listT ?vv ?_); (case vv => walk_at "tr"))
  | with_reducible refine w_tyS ?_
  | with_reducible refine w_retN ?_
  | with_reducible refine w_break ?_
  | with_reducible refine w_cont ?_)
local macro_rules | `(tactic| walk_at "w") => `(tactic| first
  | walk_at "v"
  | with_reducible refine w_or ?_
  | with_reducible refine w_and ?_
  | with_reducible refine w_andV ?_
  | with_reducible refine w_orV ?_)
local macro_rules | `(tactic| walk_at "wd") => `(tactic| first
  | walk_at "w"
  | ((with_reducible refine' w_decT ?vv ?_); (case vv => decide +kernel))
  | ((with_reducible refine' w_decF ?vv ?_); (case vv => decide +kernel)))
local macro_rules | `(tactic| walk_at "tz") => `(tactic| (intro S z; (repeat walk_at "w"); exact z))
local macro_rules | `(tactic| walk_at "wf") => `(tactic| first
  | walk_at "wd"
  | ((with_reducible refine' w_decF ?vv ?_); (case vv => with_reducible assumption)))
/-! ### the draws, alike in all laws -/
def spCell (K : PySem.W.Frag) : Sp := fun vs H Q _ => ∃ (a : Addr) (ns : List Int) (k : Int), vs = [.ref a, .int k] ∧ SqL K H a (ns.map V.int) ∧ 0 ≤ k ∧ ∀ n : Int, Q (.int n) H
def spStream : Sp := fun vs H Q _ => ∃ c : Int, vs = [.int c] ∧ ∀ s H', Same H H' → H s = none → Stm H' s → Q (.ref s) H'
def spTake : Sp := fun vs H Q _ => ∃ (s : Addr) (m : Int), vs = [.ref s, .int m] ∧ Stm H s ∧ 0 < m ∧ m < 2 ^ 200 ∧ ∀ d H', 0 ≤ d → d < m → Stm H' s → But s H H' → Q (.int d) H'
theorem len_law_cell {K : PySem.W.Frag} {vs H Q E} (h : spCell K vs H Q E) : vs.length = 2 := by obtain ⟨_, _, _, rfl, _⟩ := h; rfl
theorem len_law_stream {vs H Q E} (h : spStream vs H Q E) : vs.length = 1 := by obtain ⟨_, rfl, _⟩ := h; rfl
theorem len_law_take {vs H Q E} (h : spTake vs H Q E) : vs.length = 2 := by obtain ⟨_, _, rfl, _⟩ := h; rfl
def spLaw (K : PySem.W.Frag) : Sp := fun vs H Q _ => ∃ (a : Addr) (ns : List Int), vs = [.ref a] ∧ SqL K H a (ns.map V.int) ∧ ns.length ≤ 63 ∧ ∀ H', Q (.bl true) H'
theorem len_law {K : PySem.W.Frag} {vs H Q E} (h : spLaw K vs H Q E) : vs.length = 1 := by obtain ⟨_, _, rfl, _⟩ := h; rfl
theorem law_in {K : PySem.W.Frag} {H : Hp} {a : Addr} {ns : List Int} (hl : ns.length ≤ 63) (_ : Only H) (hS : SqL K H a (ns.map V.int)) : spLaw K [.ref a] H (fun v _ => v = .bl true) fun _ _ _ => False :=
  ⟨a, ns, rfl, hS, hl, fun _ => rfl⟩
section
variable {P : Program} {w : World} {K : PySem.W.Frag} {mg : Str → Option Value}
theorem ok_law_cell [c : Facts K mg] : Fn P w K mg "_law_cell" 1 ["script", "k"] ((spCell K)) := by
  obtain ⟨fd, F⟩ := c.d_law_cell
  refine Fn.mk' F c.g_law_cell sc_law_cell (k := 0) (fun vs H Q E h => ?_) (fun _ _ _ _ _ _ us hl => match us, hl with | [_, _], _ => rfl) (fun base cdv A outer s H vs Q E hr h => ?_)
  · exact len_law_cell h
  · have nd := sc_law_cell.nd
    have hu := hu_of hr
    refine ⟨_, (pss_cons (ps_if (pt_cmpR op_lt (pv 1) (pe_callB (call_lenA (K := K) rfl) (by rfl) c.f_len boot_len (pa_cons (pv 0) pa_nil)) (nomark _)) (pss_one (ps_ret (pe_ix (ix_any (K := K) rfl) (pv 0) (pv 1) (fun _ _ => rfl)))) pss_nil)
      (pss_one (ps_ret (pe_op (op_addA (K := K) rfl) (pe_op op_mulA pe_int (pv 1)) pe_int)))), ?_⟩
    try dsimp only [cxOf, Cx.nox, Cx.wish]
    obtain ⟨a, ns, k, rfl, hS, h0, q⟩ := h
    repeat walk_at "w"
    refine ite2 (fun hk => ?_) (fun hk => ?_)
    · rw [decide_eq_true_eq] at hk
      repeat walk_at "w"
      obtain ⟨v, e1, e2, _⟩ := atI_some h0 hk
      obtain ⟨n, _, rfl⟩ := List.mem_map.mp e2
      exact w_ixL hS e1 (q n)
    · repeat walk_at "w"
      exact q _
theorem ok_law_stream [c : Facts K mg] : Fn P w K mg "_law_stream" 1 ["cell"] (spStream) := by
  obtain ⟨fd, F⟩ := c.d_law_stream
  refine Fn.mk' F c.g_law_stream sc_law_stream (k := 0) (fun vs H Q E h => ?_) (fun _ _ _ _ _ _ us hl => match us, hl with | [_], _ => rfl) (fun base cdv A outer s H vs Q E hr h => ?_)
  · exact len_law_stream h
  · have nd := sc_law_stream.nd
    have hu := hu_of hr
    refine ⟨_, (pss_one (ps_ret (pe_lst (pa_cons (pe_op op_mulA (pv 0) (pe_callTy call_int1A (by rfl) c.f_int boot_int (pa_cons (pe_cmpR op_ge (pv 0) (pe_op op_pow pe_int pe_int) (nomark _)) pa_nil))) (pa_cons (pe_op op_mod (pv 0) pe_int) (pa_cons pe_int pa_nil)))))), ?_⟩
    try dsimp only [cxOf, Cx.nox, Cx.wish]
    obtain ⟨n, rfl, q⟩ := h
    repeat walk_at "w"
    exact w_new fun p H1 n1 s1 f1 => q _ _ s1 n1 ⟨_, _, _, f1⟩
theorem ok_law_take [c : Facts K mg] : Fn P w K mg "_law_take" 1 ["stream", "many"] (spTake) := by
  obtain ⟨fd, F⟩ := c.d_law_take
  refine Fn.mk' F c.g_law_take sc_law_take (k := 0) (fun vs H Q E h => ?_) (fun _ _ _ _ _ _ us hl => match us, hl with | [_, _], _ => rfl) (fun base cdv A outer s H vs Q E hr h => ?_)
  · exact len_law_take h
  · have nd := sc_law_take.nd
    have hu := hu_of hr
    refine ⟨_, (pss_cons (ps_if (pt_cmpR op_gt (pe_ix (ix_any (K := K) rfl) (pv 0) pe_int (fun _ _ => rfl)) pe_int (nomark _)) (pss_cons (ps_set (i := 2) nd rfl (Or.inl rfl) (pe_op op_mod (pe_ix (ix_any (K := K) rfl) (pv 0) pe_int (fun _ _ => rfl)) (pv 1)))
      (pss_cons (ps_asg (pe_op op_fdivW (pe_ix (ix_any (K := K) rfl) (pv 0) pe_int (fun _ _ => rfl)) (pv 1)) (pg_sub (pv 0) pe_int set_list))
      (pss_one (ps_ret (pv 2))))) pss_nil)
      (pss_cons (ps_asg (pe_op (op_addA (K := K) rfl) (pe_ix (ix_any (K := K) rfl) (pv 0) pe_int (fun _ _ => rfl)) pe_int) (pg_sub (pv 0) pe_int set_list))
      (pss_cons (ps_set (i := 3) nd rfl (Or.inl rfl) (pe_op op_mod (pe_op (op_addA (K := K) rfl) (pe_op op_mulA (pe_op (op_addA (K := K) rfl) (pe_ix (ix_any (K := K) rfl) (pv 0) pe_int (fun _ _ => rfl)) (pe_op op_mulA pe_int (pe_ix (ix_any (K := K) rfl) (pv 0) pe_int (fun _ _ => rfl)))) pe_int) pe_int) pe_int))
      (pss_cons (ps_set (i := 3) nd rfl (Or.inl rfl) (pe_op op_mod (pe_op op_mulA (pv 3) (pv 3)) pe_int))
      (pss_one (ps_ret (pe_op op_mod (pe_op op_fdivW (pe_op op_mod (pe_op (op_addA (K := K) rfl) (pe_op op_mulA (pv 3) (pv 3)) (pe_op op_mulA pe_int (pe_ix (ix_any (K := K) rfl) (pv 0) pe_int (fun _ _ => rfl)))) pe_int) pe_int) (pv 1)))))))), ?_⟩
    try dsimp only [cxOf, Cx.nox, Cx.wish]
    obtain ⟨s, m, rfl, ⟨a, b, d, hs⟩, hm, hl, q⟩ := h
    repeat walk_at "w"
    refine ite2 (fun hk => ?_) (fun hk => ?_)
    · repeat walk_at "w"
      refine w_chg fun H1 e1 f1 => ?_
      repeat walk_at "w"
      exact q _ _ (Int.emod_nonneg _ (by omega)) (Int.emod_lt_of_pos _ hm) ⟨_, _, _, f1⟩ e1
    · repeat walk_at "w"
      refine w_chg fun H1 e1 f1 => ?_
      repeat walk_at "w"
      exact q _ _ (Int.emod_nonneg _ (by omega)) (Int.emod_lt_of_pos _ hm) ⟨_, _, _, f1⟩ e1
end


end J
namespace J
open PySem PySem.Spec PyProof.Rows L2
local macro_rules | `(tactic| walk_at "cls") => `(tactic| first
  | with_reducible exact Facts.cl_Step
  | with_reducible exact Facts.cl_Get
  | with_reducible exact Facts.cl_Ask
  | with_reducible exact Facts.cl_Cell
  | with_reducible exact Facts.cl_Two
  | with_reducible exact Facts.cl_Put
  | with_reducible exact Facts.cl_Tell
  | with_reducible exact Facts.cl_Store
  | with_reducible exact Facts.cl_Parts
  | with_reducible exact Facts.cl_Order)
local macro_rules | `(tactic| walk_at "na") => `(tactic| first
  | with_reducible exact Facts.na_Get_to
  | with_reducible exact Facts.na_Get_sel
  | with_reducible exact Facts.na_Ask_to
  | with_reducible exact Facts.na_Ask_sel
  | with_reducible exact Facts.na_Cell_to
  | with_reducible exact Facts.na_Cell_source
  | with_reducible exact Facts.na_Two_to
  | with_reducible exact Facts.na_Two_op
  | with_reducible exact Facts.na_Two_one
  | with_reducible exact Facts.na_Two_other
  | with_reducible exact Facts.na_Put_sel
  | with_reducible exact Facts.na_Put_source
  | with_reducible exact Facts.na_Tell_sel
  | with_reducible exact Facts.na_Tell_source
  | with_reducible exact Facts.na_Store_at
  | with_reducible exact Facts.na_Store_source
  | with_reducible exact Facts.na_Parts_rows
  | with_reducible exact Facts.na_Order_parts
  | with_reducible exact Facts.na_Order_order
  | with_reducible exact Facts.na_Order_needed)
local macro_rules | `(tactic| walk_at "ty") => `(tactic| first
  | with_reducible exact ty_int
  | with_reducible exact ty_bl
  | with_reducible exact ty_str
  | with_reducible exact ty_non
  | ((with_reducible refine' ty_lst ?vv); (case vv => walk_at "tr"))
  | ((with_reducible refine' ty_sqT ?vv); (case vv => walk_at "tr"))
  | ((with_reducible refine' ty_dic ?vv); (case vv => walk_at "tr")))
local macro_rules | `(tactic| walk_at "ix") => `(tactic| first | exact at0 | exact at1 | exact at2 | assumption)
local macro_rules | `(tactic| walk_at "size") => `(tactic| first
  | assumption
  | (show _ < sizeLine; rw [sizeLine_eq]; (try simp only [List.length_cons, List.length_nil, List.length_append, List.length_map]); omega)
  | (show _ ≤ sizeLine; rw [sizeLine_eq]; (try simp only [List.length_cons, List.length_nil, List.length_append, List.length_map]); omega))
local macro_rules | `(tactic| walk_at "side") => `(tactic| first
  | assumption
  | ((with_reducible refine cdw ?_ ?_) <;> omega)
  | omega
  | (exact ⟨by omega, by omega⟩)
  | (exact Or.inl ⟨by omega, by omega⟩)
  | (exact Or.inr ⟨by omega, by omega⟩)
  | decide
  | (simp only [List.length_cons, List.length_nil, List.length_append, List.length_map]; omega)
  | (show _ ≤ _; decide))
local macro_rules | `(tactic| walk_at "as") => `(tactic| with_reducible assumption)
local macro_rules | `(tactic| walk_at "tr") => `(tactic| first
  | with_reducible assumption
  | with_reducible exact upd_same
  | ((with_reducible refine' SqL.of ?hh); (case hh => walk_at "as"))
  | ((with_reducible refine' SqT.of ?hh); (case hh => walk_at "as"))
  | ((with_reducible refine' Same.stm ?ee ?gg); (case ee => walk_at "as"); (case gg => walk_at "tr"))
  | ((with_reducible refine' Same.sqT ?ee ?gg); (case ee => walk_at "as"); (case gg => walk_at "tr"))
  | ((with_reducible refine' Same.sqL ?ee ?gg); (case ee => walk_at "as"); (case gg => walk_at "tr"))
  | ((with_reducible refine' Same.at ?ee ?gg); (case ee => walk_at "as"); (case gg => walk_at "tr"))
  | ((with_reducible refine' But.stm ?ee ?ff ?gg); (case ee => walk_at "as"); (case ff => walk_at "ne"); (case gg => walk_at "tr"))
  | ((with_reducible refine' But.tup ?ee ?ff ?gg); (case ee => walk_at "as"); (case ff => walk_at "tr1"); (case gg => walk_at "tr"))
  | ((with_reducible refine' But.sqT ?ee ?ff ?gg); (case ee => walk_at "as"); (case ff => walk_at "tr1"); (case gg => walk_at "tr"))
  | ((with_reducible refine' But.tupL ?ee ?ff ?gg); (case ee => walk_at "as"); (case ff => walk_at "tr1"); (case gg => walk_at "tr"))
  | ((with_reducible refine' But.sqTL ?ee ?ff ?gg); (case ee => walk_at "as"); (case ff => walk_at "tr1"); (case gg => walk_at "tr"))
  | ((with_reducible refine' But.sqL ?ee ?ff ?gg); (case ee => walk_at "as"); (case ff => walk_at "ne"); (case gg => walk_at "tr"))
  | ((with_reducible refine' But.at ?ee ?ff ?gg); (case ee => walk_at "as"); (case ff => walk_at "ne"); (case gg => walk_at "tr")))
local macro_rules | `(tactic| walk_at "ts") => `(tactic| first
  | with_reducible assumption
  | with_reducible exact TS.refl _
  | ((with_reducible refine' TS.trans ?gg (TS.of ?ee)); (case ee => walk_at "as"); (case gg => walk_at "ts"))
  | ((with_reducible refine' TS.trans ?gg (TS.butS ?ee ?ff)); (case ee => walk_at "as"); (case ff => walk_at "tr1"); (case gg => walk_at "ts"))
  | ((with_reducible refine' TS.trans ?gg (TS.butL ?ee ?ff)); (case ee => walk_at "as"); (case ff => walk_at "tr1"); (case gg => walk_at "ts"))
  | ((with_reducible refine' TS.trans ?gg (TS.butI ?ee ?ff)); (case ee => walk_at "as"); (case ff => walk_at "tr1"); (case gg => walk_at "ts")))
local macro_rules | `(tactic| walk_at "sm") => `(tactic| first
  | with_reducible assumption
  | with_reducible exact Same.refl _
  | ((with_reducible refine' Same.trans ?gg ?ee); (case ee => walk_at "as"); (case gg => walk_at "sm"))
  | ((with_reducible refine' But.new ?gg ?nn ?ee); (case ee => walk_at "as"); (case nn => walk_at "fr"); (case gg => walk_at "sm")))
local macro_rules | `(tactic| walk_at "fr") => `(tactic| first
  | with_reducible assumption
  | ((with_reducible refine' Same.back ?ee ?nn); (case nn => walk_at "as"); (case ee => walk_at "sm"))
  | ((with_reducible refine' But.back ?ee ?ff ?nn); (case nn => walk_at "as"); (case ff => walk_at "ne0"); (case ee => walk_at "bu")))
local macro_rules | `(tactic| walk_at "bu") => `(tactic| first
  | with_reducible assumption
  | with_reducible exact But.refl _ _
  | ((with_reducible refine' But.trans ?gg ?ee); (case ee => walk_at "as"); (case gg => walk_at "bu"))
  | ((with_reducible refine' But.trans ?gg (But.of ?ee)); (case ee => walk_at "as"); (case gg => walk_at "bu"))
  | ((with_reducible refine' But.new2 ?gg ?nn ?ee); (case ee => walk_at "as"); (case nn => walk_at "frB"); (case gg => walk_at "bu")))
local macro_rules | `(tactic| walk_at "frB") => `(tactic| first
  | with_reducible assumption
  | ((with_reducible refine' Same.back ?ee ?nn); (case nn => walk_at "as"); (case ee => walk_at "sm"))
  | ((with_reducible refine' But.back' ?ee ?ff ?nn); (case nn => walk_at "as"); (case ee => walk_at "bu"); (case ff => walk_at "tr1")))
local macro_rules | `(tactic| walk_at "tr1") => `(tactic| first
  | with_reducible assumption
  | ((with_reducible refine' Same.stm ?ee ?gg); (case ee => walk_at "as"); (case gg => walk_at "tr1"))
  | ((with_reducible refine' Same.at ?ee ?gg); (case ee => walk_at "as"); (case gg => walk_at "tr1"))
  | ((with_reducible refine' But.at ?ee ?ff ?gg); (case ee => walk_at "as"); (case ff => walk_at "ne0"); (case gg => walk_at "tr1"))
  | ((with_reducible refine' But.stm ?ee ?ff ?gg); (case ee => walk_at "as"); (case ff => walk_at "ne0"); (case gg => walk_at "tr1")))
local macro_rules | `(tactic| walk_at "ne0") => `(tactic| first
  | with_reducible assumption
  | (with_reducible apply Ne.symm; with_reducible assumption))
local macro_rules | `(tactic| walk_at "ne") => `(tactic| first
  | with_reducible assumption
  | (with_reducible apply Ne.symm; with_reducible assumption)
  | ((with_reducible refine' stm_ne ?hh ?nn); (case nn => walk_at "as"); (case hh => walk_at "tr1"))
  | ((with_reducible refine' ne_of_none ?hh ?nn); (case nn => walk_at "as"); (case hh => walk_at "tr1"))
  | ((with_reducible apply Ne.symm); (with_reducible refine' ne_of_none ?hh ?nn); (case nn => walk_at "as"); (case hh => walk_at "tr1")))
local macro_rules | `(tactic| walk_at "v") => `(tactic| first
  | with_reducible refine w_seq ?_
  | ((with_reducible refine' w_var ?vv ?_); (case vv => exact rfl))
  | with_reducible refine w_c ?_
  | with_reducible refine w_op ?_
  | with_reducible refine w_asg ?_
  | with_reducible refine w_gName ?_
  | with_reducible refine w_ret ?_
  | with_reducible refine w_ifS ?_
  | with_reducible refine w_drop ?_
  | with_reducible refine w_next ?_
  | with_reducible refine w_cons ?_
  | with_reducible refine w_nil ?_
  | with_reducible refine w_call ?_
  | with_reducible refine w_cb ?_
  | with_reducible refine w_rI0 ?_
  | with_reducible refine w_addI ?_
  | with_reducible refine w_eqI ?_
  | with_reducible refine w_neI ?_
  | with_reducible refine w_eqS ?_
  | with_reducible refine w_neS ?_
  | with_reducible refine w_eqB ?_
  | with_reducible refine w_neB ?_
  | with_reducible refine w_chain ?_
  | with_reducible refine w_test ?_
  | with_reducible refine w_tB ?_
  | with_reducible refine w_bl ?_
  | ((with_reducible refine' w_mulI ?vv ?_); (case vv => walk_at "side"))
  | ((with_reducible refine' w_rI ?vv ?_); (case vv => walk_at "side"))
  | with_reducible refine w_int1 ?_
  | with_reducible refine w_int1b ?_
  | with_reducible refine w_tup ?_
  | with_reducible refine w_lst ?_
  | with_reducible refine w_un ?_
  | with_reducible refine w_rU ?_
  | with_reducible refine w_not ?_
  | with_reducible refine w_notV ?_
  | with_reducible refine w_ifE ?_
  | with_reducible refine w_nT ?_
  | with_reducible refine w_nF ?_
  | with_reducible refine iteT ?_
  | with_reducible refine iteF ?_
  | ((with_reducible refine' w_ixT ?vv ?ww ?_); (case vv => walk_at "tr"); (case ww => walk_at "ix"))
  | ((with_reducible refine' w_ixL ?vv ?ww ?_); (case vv => walk_at "tr"); (case ww => walk_at "ix"))
  | with_reducible refine w_gSub ?_
  | ((with_reducible refine' w_setL ?vv ?ww ?_); (case vv => walk_at "tr"); (case ww => first | rfl | decide | assumption))
  | ((with_reducible refine' w_lenL ?vv ?_); (case vv => walk_at "tr"))
  | ((with_reducible refine' w_lenT ?vv ?_); (case vv => walk_at "tr"))
  | with_reducible refine w_max2 ?_
  | with_reducible refine w_max3 ?_
  | with_reducible refine w_din ?_
  | with_reducible refine w_dnotin ?_
  | with_reducible refine w_dput ?_
  | with_reducible refine w_min2 ?_
  | with_reducible refine w_bm ?_
  | with_reducible refine w_bm0 ?_
  | ((with_reducible refine' w_tyL ?vv ?_); (case vv => walk_at "tr"))
  | ((with_reducible refine' w_append ?vv ?ww ?_); (case vv => walk_at "tr"); (case ww => walk_at "size"))
  | ((with_reducible refine' w_size ?vv ?_); (case vv => walk_at "size"))
  | with_reducible refine w_forL ?_
  | with_reducible refine w_forT ?_
  | with_reducible refine w_forR1 ?_
  | with_reducible refine w_forR2 ?_
  | with_reducible refine w_lcL ?_
  | with_reducible refine w_lcT ?_
  | with_reducible refine w_lcR1 ?_
  | with_reducible refine w_yes ?_
  | with_reducible refine w_sl ?_
  | with_reducible refine w_noPart ?_
  | with_reducible refine w_part ?_
  | with_reducible refine w_int ?_
  | ((with_reducible refine' w_slL ?vv ?_); (case vv => walk_at "tr"))
  | ((with_reducible refine' w_seqL ?vv ?ww ?_); (case vv => walk_at "tr"); (case ww => rfl))
  | ((with_reducible refine' w_seqT ?vv ?ww ?_); (case vv => walk_at "tr"); (case ww => rfl))
  | with_reducible refine w_gNil ?_
  | with_reducible refine w_gCons ?_
  | with_reducible refine w_forZ ?_
  | with_reducible refine w_forM ?_
  | with_reducible refine w_forE ?_
  | with_reducible refine w_forV ?_
  | with_reducible refine w_lcZ ?_
  | with_reducible refine w_lcE ?_
  | ((with_reducible refine' w_isi (b := true) ?vv ?ww ?_); (case vv => walk_at "ty"); (case ww => decide +kernel))
  | ((with_reducible refine' w_isi (b := false) ?vv ?ww ?_); (case vv => walk_at "ty"); (case ww => decide +kernel))
  | with_reducible refine w_revL ?_
  | with_reducible refine w_pairN ?_
  | with_reducible refine w_pairC ?_
  | with_reducible refine w_dget ?_
  | with_reducible refine w_met ?_
  | ((with_reducible refine' w_metAt ?vv ?ww ?_); (case vv => walk_at "tr"); (case ww => rfl))
  | with_reducible refine w_mkI ?_
  | with_reducible refine w_fld ?_
  | ((with_reducible refine' w_fldAt ?vv ?cc ?nn ?ww ?_); (case vv => walk_at "tr"); (case cc => walk_at "cls"); (case nn => walk_at "na"); (case ww => rfl))
  | with_reducible refine w_sfld ?_
  | ((with_reducible refine' w_sfldAt ?vv ?cc ?nn ?ll ?ee ?_); (case vv => walk_at "tr"); (case cc => walk_at "cls"); (case nn => walk_at "na"); (case ll => simp); (case ee => rfl))
  | ((with_reducible refine' w_tupL ?vv ?_); (case vv => walk_at "tr"))
  | ((with_reducible refine' w_tupT ?vv ?_); (case vv => walk_at "tr"))
  | ((with_reducible refine' w_listL ?vv ?_); (case vv => walk_at "tr"))
  | ((with_reducible refine' w_listT ?vv ?_); (case vv => walk_at "tr"))
  | with_reducible refine w_tyS ?_
  | with_reducible refine w_retN ?_
  | with_reducible refine w_break ?_
  | with_reducible refine w_cont ?_)
local macro_rules | `(tactic| walk_at "w") => `(tactic| first
  | walk_at "v"
  | with_reducible refine w_or ?_
  | with_reducible refine w_and ?_
  | with_reducible refine w_andV ?_
  | with_reducible refine w_orV ?_)
local macro_rules | `(tactic| walk_at "wd") => `(tactic| first
  | walk_at "w"
  | ((with_reducible refine' w_decT ?vv ?_); (case vv => decide +kernel))
  | ((with_reducible refine' w_decF ?vv ?_); (case vv => decide +kernel)))
local macro_rules | `(tactic| walk_at "tz") => `(tactic| (intro S z; (repeat walk_at "w"); exact z))
local macro_rules | `(tactic| walk_at "wf") => `(tactic| first
  | walk_at "wd"
  | ((with_reducible refine' w_decF ?vv ?_); (case vv => with_reducible assumption)))
/-! ### sorted: tuples of ints, item by item -/
def lexI : List Int → List Int → Bool
  | [], [] => false
  | [], _ :: _ => true
  | _ :: _, [] => false
  | a :: l, b :: m => if a = b then lexI l m else decide (a < b)
theorem lexI_asym : ∀ x y : List Int, lexI x y = true → lexI y x = false
  | [], [], h => by cases h
  | [], _ :: _, _ => rfl
  | _ :: _, [], h => by cases h
  | a :: l, b :: m, h => by
    unfold lexI at h ⊢
    by_cases e : a = b
    · rw [if_pos e] at h
      rw [if_pos e.symm]
      exact lexI_asym l m h
    · rw [if_neg e, decide_eq_true_eq] at h
      rw [if_neg (fun z => e z.symm)]
      exact decide_eq_false (by omega)
theorem lexI_tr : ∀ x y z : List Int, lexI y x = false → lexI z y = false → lexI z x = false
  | [], [], [], _, _ => rfl
  | [], [], _ :: _, _, h => h
  | [], _ :: _, [], h, _ => rfl
  | [], _ :: _, _ :: _, h, _ => rfl
  | _ :: _, [], _, h, _ => by cases h
  | _ :: _, _ :: _, [], _, h => by cases h
  | a :: l, b :: m, c :: n, h1, h2 => by
    unfold lexI at h1 h2 ⊢
    by_cases e1 : b = a
    · subst e1
      rw [if_pos rfl] at h1
      by_cases e2 : c = b
      · subst e2
        rw [if_pos rfl] at h2 ⊢
        exact lexI_tr l m n h1 h2
      · rw [if_neg e2] at h2 ⊢
        exact h2
    · rw [if_neg e1, decide_eq_false_iff_not] at h1
      by_cases e2 : c = b
      · subst e2
        rw [if_neg e1]
        exact decide_eq_false h1
      · rw [if_neg e2, decide_eq_false_iff_not] at h2
        rw [if_neg (by omega)]
        exact decide_eq_false (by omega)
theorem lexI_swo {α : Type} (k : α → List Int) : SrtO.Swo fun x y => lexI (k x) (k y) := ⟨fun x y => lexI_asym _ _, fun x y z => lexI_tr _ _ _⟩
section
variable {prog : Program} {w : World} {A : Around} {E : Value → Shared → Prop} {s : Shared} {Q : Bool → Shared → Prop}
theorem lexI_run {b : Bool} {xs ys : List Value} {ns ms : List Int} (i : Nat) (hx : IntsAre xs ns) (hy : IntsAre ys ms) (hl : ns.length = ms.length)
    (h : Q (lexI ns ms) s) : PySem.W.KatLex prog w A b false Q (xs.zip ys) i s := by
  induction hx generalizing ys ms i with
  | nil =>
    cases hy with
    | nil => exact PySem.W.kat_nil h
    | cons q u hy => simp at hl
  | @cons p t xs ns hx ih =>
    cases hy with
    | nil => simp at hl
    | @cons q u ys ms hy =>
      have hl' : ns.length = ms.length := by simpa using hl
      show PySem.W.KatLex prog w A b false Q ((Value.int p t, Value.int q u) :: xs.zip ys) i s
      refine PySem.W.kat_cons (wpAny_eqBool_int ?_)
      unfold lexI at h
      by_cases e : p = q
      · subst e
        rw [beq_self_eq_true]
        rw [if_pos rfl] at h
        refine PySem.W.kat_yes ?_
        first
          | exact ih (i + 1) hy hl' h
          | exact ih _ _ (i + 1) hy hl' h
      · rw [show (p == q) = false from beq_eq_false_iff_ne.mpr e]
        rw [if_neg e] at h
        exact PySem.W.kat_no (TS.oneLt_ints _ h)
end
def TupsI (h : Heap) (d : Nat) (k : Value → List Int) (vs : List Value) : Prop := ∀ v, v ∈ vs → TS.TupInts h v (k v) ∧ (k v).length = d
theorem firstsI {h : Heap} {d : Nat} {k : Value → List Int} (hd : 1 ≤ d) : ∀ vs : List Value, TupsI h d k vs → ∃ fs, PySem.W.KatTups h vs fs ∧ fs.length = vs.length ∧ ∀ f, f ∈ fs → ∃ n t, f = Value.int n t
  | [], _ => ⟨[], PySem.W.KatTups.nil, rfl, fun f hf => by simp at hf⟩
  | v :: vs, x => by
    obtain ⟨fs, kk, hl, hi⟩ := firstsI hd vs fun u hu => x u (List.mem_cons_of_mem _ hu)
    obtain ⟨⟨a, xs, e0, ⟨o, ho, hc, n, hdt⟩, i⟩, hn⟩ := x v (List.mem_cons_self ..)
    generalize k v = ns at i hn
    subst e0
    obtain ⟨y, ys, e⟩ : ∃ y ys, xs.toList = y :: ys := by
      cases q : xs.toList with
      | nil =>
        rw [q] at i
        have l := i.length
        rw [List.length_nil, hn] at l
        omega
      | cons y ys => exact ⟨y, ys, rfl⟩
    obtain ⟨m, t, hy⟩ := i.all y (by rw [e]; exact List.mem_cons_self ..)
    refine ⟨y :: fs, PySem.W.KatTups.cons ho hc hdt ?_ kk, by simp [hl], ?_⟩
    · have z := congrArg (fun l : List Value => l[0]?) e
      simpa using z
    · intro f hf
      rcases List.mem_cons.mp hf with rfl | hf
      · exact ⟨m, t, hy⟩
      · exact hi f hf
section
variable {prog : Program} {w : World} {A : Around} {s : Shared}
theorem tupsI_sortable {a : Addr} {vs : List Value} {d : Nat} {k : Value → List Int} (hd : 1 ≤ d) (h2 : 2 ≤ vs.length) (x : TupsI s.heap d k vs) (ha : ∀ o, s.heap.get? a = some o → o.cls ≠ .type "tuple") :
    SrtO.SortableO prog w A s a vs fun v u => lexI (k v) (k u) := by
  intro h' keep
  have x' : TupsI h' d k vs := fun v hv => ⟨(x v hv).1.keeps fun b o e c => keep b o (fun z => by subst z; exact ha o e c) e, (x v hv).2⟩
  obtain ⟨fs, kt, hl, hi⟩ := firstsI hd vs x'
  refine ⟨_, fun Q E hq => PySem.W.kat_kind (T := Value.type "int") kt (by omega) (fun f hf => ?_) rfl hq, fun p q hp hq => ?_⟩
  · obtain ⟨n, t, rfl⟩ := hi f hf
    exact PySem.W.Looks.of_pure rfl
  · obtain ⟨tp, lp⟩ := x' _ hp
    obtain ⟨tq, lq⟩ := x' _ hq
    show wpAny (model prog w) A _ (fun r s' => s' = { s with heap := h' } ∧ r = lexI (k p.1) (k q.1)) (fun _ _ => False) _
    generalize k p.1 = ns at tp lp ⊢
    generalize k q.1 = ms at tq lq ⊢
    obtain ⟨a, xs, e1, ⟨o, ho, hc, n, hdt⟩, i⟩ := tp
    obtain ⟨a', ys, e2, ⟨o', ho', hc', n', hdt'⟩, i'⟩ := tq
    rw [e1, e2]
    refine PySem.W.kat_lt ho hdt ho' hdt' ?_
    have sz : decide (xs.size < ys.size) = false := by
      have l1 := i.length
      have l2 := i'.length
      rw [Array.length_toList] at l1 l2
      exact decide_eq_false (by omega)
    rw [sz]
    exact lexI_run 0 i i' (by omega) ⟨rfl, rfl⟩
theorem sorted_tupsI {E : Value → Shared → Prop} {l : Addr} {vs : List Value} {d : Nat} {k : Value → List Int} {Q : Value → Shared → Prop} (hd : 1 ≤ d) (hl : s.heap.IsList l vs.toArray) (hz : vs.length ≤ sizeLine) (hp : TupsI s.heap d k vs)
    (h : ∀ (h' : Heap) (d : Addr) (out : List Value), SrtO.Srtd (fun v u => lexI (k v) (k u)) out → SrtO.Stb (fun v u => lexI (k v) (k u)) out vs → (∀ b o, s.heap.get? b = some o → h'.get? b = some o) → s.heap.objs.size ≤ d → (∃ n, h'.get? d = some (seqObj "list" out.toArray n)) → Q (.ref d) { s with heap := h' }) :
    wpAny (model prog w) A (call (.builtin "sorted") [.ref l]) Q E s := by
  refine SrtO.sorted_ord (lexI_swo k) hl hz (fun h2 h₁ a ha kk => ?_) fun out hs hb => ?_
  · refine tupsI_sortable (s := { s with heap := h₁ }) hd (by omega) (fun v hm => ⟨(hp v hm).1.keeps fun b o e _ => (kk b o e).2, (hp v hm).2⟩) fun o e => ?_
    have e' : some o = some (seqObj "list" vs.toArray 0) := e.symm.trans ha
    cases e'
    intro c
    exact absurd (Value.type.inj c) (by decide)
  · exact h _ _ out hs hb (fun b o e => sortedAll_old e) (Nat.le_succ _) (sortedAll_at s.heap vs out.toArray)
end
/-- sorted(xs), xs a list of tuples of d ints: a new list, ascending item by item -/
def rSortedL (K : PySem.W.Frag) : List V → Hp → VK → Prop := fun vs H Q => ∃ (a : Addr) (xs : List V) (k : V → List Int) (d : Nat), vs = [V.ref a] ∧ SqL K H a xs ∧ 1 ≤ d ∧ (∀ x ∈ xs, TupI K H x (k x) ∧ (k x).length = d) ∧
  ∀ ys, ys.Perm xs → ys.Pairwise (fun x y => lexI (k y) (k x) = false) → NewO (.lst ys) H Q
section
variable {X : Cx} {K : PySem.W.Frag}
theorem call_sortedL (hK : X.K = K) : CallR X (.builtin "sorted") (rSortedL K) := by
  subst hK
  intro pins s σ H vs us Q I r h
  obtain ⟨a, xs, k, d, rfl, hs, hd, hx, q⟩ := h
  obtain ⟨its, rv, hl, hz⟩ := I.list hs
  obtain ⟨u, rfl, ru⟩ := vals1 r
  obtain rfl : u = Value.ref a := ru
  obtain ⟨e1, e2⟩ := refs_back rv fun x m => by
    obtain ⟨⟨t, e, _⟩, _⟩ := hx x m
    exact ⟨t, e⟩
  refine sorted_tupsI (k := fun u => k (backV u)) hd hl.isList (by rw [← rv.length]; exact hz) (fun v hv => ?_) fun h' d out h1 h2 kp hd hn => ?_
  · obtain ⟨t, rfl⟩ := e2 v hv
    have hm : V.ref t ∈ xs := by rw [e1]; exact List.mem_map.mpr ⟨_, hv, rfl⟩
    obtain ⟨⟨t', e, ht⟩, hn⟩ := hx _ hm
    cases e
    exact ⟨tupI_raw I ht, hn⟩
  · have h3 : ∀ u ∈ out, ∃ a, u = Value.ref a := fun u hu => e2 u (h2.perm.mem_iff.mp hu)
    obtain ⟨n, hn⟩ := hn
    have hb : (out.map backV).Perm xs := by
      rw [e1]
      exact h2.perm.map backV
    refine ⟨.ref d, upd H d (.lst (out.map backV)), I.laid (t' := s.toks) kp hd ⟨?_, out, n, vals_back h3, hn⟩, rfl, q _ hb (List.pairwise_map.mpr h1) d (I.hok.fresh hd)⟩
    rw [hb.length_eq]
    exact hz
end

end J
namespace J
open PySem PySem.Spec PyProof.Rows L2
local macro_rules | `(tactic| walk_at "cls") => `(tactic| first
  | with_reducible exact Facts.cl_Step
  | with_reducible exact Facts.cl_Get
  | with_reducible exact Facts.cl_Ask
  | with_reducible exact Facts.cl_Cell
  | with_reducible exact Facts.cl_Two
  | with_reducible exact Facts.cl_Put
  | with_reducible exact Facts.cl_Tell
  | with_reducible exact Facts.cl_Store
  | with_reducible exact Facts.cl_Parts
  | with_reducible exact Facts.cl_Order)
local macro_rules | `(tactic| walk_at "na") => `(tactic| first
  | with_reducible exact Facts.na_Get_to
  | with_reducible exact Facts.na_Get_sel
  | with_reducible exact Facts.na_Ask_to
  | with_reducible exact Facts.na_Ask_sel
  | with_reducible exact Facts.na_Cell_to
  | with_reducible exact Facts.na_Cell_source
  | with_reducible exact Facts.na_Two_to
  | with_reducible exact Facts.na_Two_op
  | with_reducible exact Facts.na_Two_one
  | with_reducible exact Facts.na_Two_other
  | with_reducible exact Facts.na_Put_sel
  | with_reducible exact Facts.na_Put_source
  | with_reducible exact Facts.na_Tell_sel
  | with_reducible exact Facts.na_Tell_source
  | with_reducible exact Facts.na_Store_at
  | with_reducible exact Facts.na_Store_source
  | with_reducible exact Facts.na_Parts_rows
  | with_reducible exact Facts.na_Order_parts
  | with_reducible exact Facts.na_Order_order
  | with_reducible exact Facts.na_Order_needed)
local macro_rules | `(tactic| walk_at "ty") => `(tactic| first
  | with_reducible exact ty_int
  | with_reducible exact ty_bl
  | with_reducible exact ty_str
  | with_reducible exact ty_non
  | ((with_reducible refine' ty_lst ?vv); (case vv => walk_at "tr"))
  | ((with_reducible refine' ty_sqT ?vv); (case vv => walk_at "tr"))
  | ((with_reducible refine' ty_dic ?vv); (case vv => walk_at "tr")))
local macro_rules | `(tactic| walk_at "ix") => `(tactic| first | exact at0 | exact at1 | exact at2 | assumption)
local macro_rules | `(tactic| walk_at "size") => `(tactic| first
  | assumption
  | (show _ < sizeLine; rw [sizeLine_eq]; (try simp only [List.length_cons, List.length_nil, List.length_append, List.length_map]); omega)
  | (show _ ≤ sizeLine; rw [sizeLine_eq]; (try simp only [List.length_cons, List.length_nil, List.length_append, List.length_map]); omega))
local macro_rules | `(tactic| walk_at "side") => `(tactic| first
  | assumption
  | ((with_reducible refine cdw ?_ ?_) <;> omega)
  | omega
  | (exact ⟨by omega, by omega⟩)
  | (exact Or.inl ⟨by omega, by omega⟩)
  | (exact Or.inr ⟨by omega, by omega⟩)
  | decide
  | (simp only [List.length_cons, List.length_nil, List.length_append, List.length_map]; omega)
  | (show _ ≤ _; decide))
local macro_rules | `(tactic| walk_at "as") => `(tactic| with_reducible assumption)
local macro_rules | `(tactic| walk_at "tr") => `(tactic| first
  | with_reducible assumption
  | with_reducible exact upd_same
  | ((with_reducible refine' SqL.of ?hh); (case hh => walk_at "as"))
  | ((with_reducible refine' SqT.of ?hh); (case hh => walk_at "as"))
  | ((with_reducible refine' Same.stm ?ee ?gg); (case ee => walk_at "as"); (case gg => walk_at "tr"))
  | ((with_reducible refine' Same.sqT ?ee ?gg); (case ee => walk_at "as"); (case gg => walk_at "tr"))
  | ((with_reducible refine' Same.sqL ?ee ?gg); (case ee => walk_at "as"); (case gg => walk_at "tr"))
  | ((with_reducible refine' Same.at ?ee ?gg); (case ee => walk_at "as"); (case gg => walk_at "tr"))
  | ((with_reducible refine' But.stm ?ee ?ff ?gg); (case ee => walk_at "as"); (case ff => walk_at "ne"); (case gg => walk_at "tr"))
  | ((with_reducible refine' But.tup ?ee ?ff ?gg); (case ee => walk_at "as"); (case ff => walk_at "tr1"); (case gg => walk_at "tr"))
  | ((with_reducible refine' But.sqT ?ee ?ff ?gg); (case ee => walk_at "as"); (case ff => walk_at "tr1"); (case gg => walk_at "tr"))
  | ((with_reducible refine' But.tupL ?ee ?ff ?gg); (case ee => walk_at "as"); (case ff => walk_at "tr1"); (case gg => walk_at "tr"))
  | ((with_reducible refine' But.sqTL ?ee ?ff ?gg); (case ee => walk_at "as"); (case ff => walk_at "tr1"); (case gg => walk_at "tr"))
  | ((with_reducible refine' But.sqL ?ee ?ff ?gg); (case ee => walk_at "as"); (case ff => walk_at "ne"); (case gg => walk_at "tr"))
  | ((with_reducible refine' But.at ?ee ?ff ?gg); (case ee => walk_at "as"); (case ff => walk_at "ne"); (case gg => walk_at "tr")))
local macro_rules | `(tactic| walk_at "ts") => `(tactic| first
  | with_reducible assumption
  | with_reducible exact TS.refl _
  | ((with_reducible refine' TS.trans ?gg (TS.of ?ee)); (case ee => walk_at "as"); (case gg => walk_at "ts"))
  | ((with_reducible refine' TS.trans ?gg (TS.butS ?ee ?ff)); (case ee => walk_at "as"); (case ff => walk_at "tr1"); (case gg => walk_at "ts"))
  | ((with_reducible refine' TS.trans ?gg (TS.butL ?ee ?ff)); (case ee => walk_at "as"); (case ff => walk_at "tr1"); (case gg => walk_at "ts"))
  | ((with_reducible refine' TS.trans ?gg (TS.butI ?ee ?ff)); (case ee => walk_at "as"); (case ff => walk_at "tr1"); (case gg => walk_at "ts")))
local macro_rules | `(tactic| walk_at "sm") => `(tactic| first
  | with_reducible assumption
  | with_reducible exact Same.refl _
  | ((with_reducible refine' Same.trans ?gg ?ee); (case ee => walk_at "as"); (case gg => walk_at "sm"))
  | ((with_reducible refine' But.new ?gg ?nn ?ee); (case ee => walk_at "as"); (case nn => walk_at "fr"); (case gg => walk_at "sm")))
local macro_rules | `(tactic| walk_at "fr") => `(tactic| first
  | with_reducible assumption
  | ((with_reducible refine' Same.back ?ee ?nn); (case nn => walk_at "as"); (case ee => walk_at "sm"))
  | ((with_reducible refine' But.back ?ee ?ff ?nn); (case nn => walk_at "as"); (case ff => walk_at "ne0"); (case ee => walk_at "bu")))
local macro_rules | `(tactic| walk_at "bu") => `(tactic| first
  | with_reducible assumption
  | with_reducible exact But.refl _ _
  | ((with_reducible refine' But.trans ?gg ?ee); (case ee => walk_at "as"); (case gg => walk_at "bu"))
  | ((with_reducible refine' But.trans ?gg (But.of ?ee)); (case ee => walk_at "as"); (case gg => walk_at "bu"))
  | ((with_reducible refine' But.new2 ?gg ?nn ?ee); (case ee => walk_at "as"); (case nn => walk_at "frB"); (case gg => walk_at "bu")))
local macro_rules | `(tactic| walk_at "frB") => `(tactic| first
  | with_reducible assumption
  | ((with_reducible refine' Same.back ?ee ?nn); (case nn => walk_at "as"); (case ee => walk_at "sm"))
  | ((with_reducible refine' But.back' ?ee ?ff ?nn); (case nn => walk_at "as"); (case ee => walk_at "bu"); (case ff => walk_at "tr1")))
local macro_rules | `(tactic| walk_at "tr1") => `(tactic| first
  | with_reducible assumption
  | ((with_reducible refine' Same.stm ?ee ?gg); (case ee => walk_at "as"); (case gg => walk_at "tr1"))
  | ((with_reducible refine' Same.at ?ee ?gg); (case ee => walk_at "as"); (case gg => walk_at "tr1"))
  | ((with_reducible refine' But.at ?ee ?ff ?gg); (case ee => walk_at "as"); (case ff => walk_at "ne0"); (case gg => walk_at "tr1"))
  | ((with_reducible refine' But.stm ?ee ?ff ?gg); (case ee => walk_at "as"); (case ff => walk_at "ne0"); (case gg => walk_at "tr1")))
local macro_rules | `(tactic| walk_at "ne0") => `(tactic| first
  | with_reducible assumption
  | (with_reducible apply Ne.symm; with_reducible assumption))
local macro_rules | `(tactic| walk_at "ne") => `(tactic| first
  | with_reducible assumption
  | (with_reducible apply Ne.symm; with_reducible assumption)
  | ((with_reducible refine' stm_ne ?hh ?nn); (case nn => walk_at "as"); (case hh => walk_at "tr1"))
  | ((with_reducible refine' ne_of_none ?hh ?nn); (case nn => walk_at "as"); (case hh => walk_at "tr1"))
  | ((with_reducible apply Ne.symm); (with_reducible refine' ne_of_none ?hh ?nn); (case nn => walk_at "as"); (case hh => walk_at "tr1")))
local macro_rules | `(tactic| walk_at "v") => `(tactic| first
  | with_reducible refine w_seq ?_
  | ((with_reducible refine' w_var ?vv ?_); (case vv => exact rfl))
  | with_reducible refine w_c ?_
  | with_reducible refine w_op ?_
  | with_reducible refine w_asg ?_
  | with_reducible refine w_gName ?_
  | with_reducible refine w_ret ?_
  | with_reducible refine w_ifS ?_
  | with_reducible refine w_drop ?_
  | with_reducible refine w_next ?_
  | with_reducible refine w_cons ?_
  | with_reducible refine w_nil ?_
  | with_reducible refine w_call ?_
  | with_reducible refine w_cb ?_
  | with_reducible refine w_rI0 ?_
  | with_reducible refine w_addI ?_
  | with_reducible refine w_eqI ?_
  | with_reducible refine w_neI ?_
  | with_reducible refine w_eqS ?_
  | with_reducible refine w_neS ?_
  | with_reducible refine w_eqB ?_
  | with_reducible refine w_neB ?_
  | with_reducible refine w_chain ?_
  | with_reducible refine w_test ?_
  | with_reducible refine w_tB ?_
  | with_reducible refine w_bl ?_
  | ((with_reducible refine' w_mulI ?vv ?_); (case vv => walk_at "side"))
  | ((with_reducible refine' w_rI ?vv ?_); (case vv => walk_at "side"))
  | with_reducible refine w_int1 ?_
  | with_reducible refine w_int1b ?_
  | with_reducible refine w_tup ?_
  | with_reducible refine w_lst ?_
  | with_reducible refine w_un ?_
  | with_reducible refine w_rU ?_
  | with_reducible refine w_not ?_
  | with_reducible refine w_notV ?_
  | with_reducible refine w_ifE ?_
  | with_reducible refine w_nT ?_
  | with_reducible refine w_nF ?_
  | with_reducible refine iteT ?_
  | with_reducible refine iteF ?_
  | ((with_reducible refine' w_ixT ?vv ?ww ?_); (case vv => walk_at "tr"); (case ww => walk_at "ix"))
  | ((with_reducible refine' w_ixL ?vv ?ww ?_); (case vv => walk_at "tr"); (case ww => walk_at "ix"))
  | with_reducible refine w_gSub ?_
  | ((with_reducible refine' w_setL ?vv ?ww ?_); (case vv => walk_at "tr"); (case ww => first | rfl | decide | assumption))
  | ((with_reducible refine' w_lenL ?vv ?_); (case vv => walk_at "tr"))
  | ((with_reducible refine' w_lenT ?vv ?_); (case vv => walk_at "tr"))
  | with_reducible refine w_max2 ?_
  | with_reducible refine w_max3 ?_
  | with_reducible refine w_din ?_
  | with_reducible refine w_dnotin ?_
  | with_reducible refine w_dput ?_
  | with_reducible refine w_min2 ?_
  | with_reducible refine w_bm ?_
  | with_reducible refine w_bm0 ?_
  | ((with_reducible refine' w_tyL ?vv ?_); (case vv => walk_at "tr"))
  | ((with_reducible refine' w_append ?vv ?ww ?_); (case vv => walk_at "tr"); (case ww => walk_at "size"))
  | ((with_reducible refine' w_size ?vv ?_); (case vv => walk_at "size"))
  | with_reducible refine w_forL ?_
  | with_reducible refine w_forT ?_
  | with_reducible refine w_forR1 ?_
  | with_reducible refine w_forR2 ?_
  | with_reducible refine w_lcL ?_
  | with_reducible refine w_lcT ?_
  | with_reducible refine w_lcR1 ?_
  | with_reducible refine w_yes ?_
  | with_reducible refine w_sl ?_
  | with_reducible refine w_noPart ?_
  | with_reducible refine w_part ?_
  | with_reducible refine w_int ?_
  | ((with_reducible refine' w_slL ?vv ?_); (case vv => walk_at "tr"))
  | ((with_reducible refine' w_seqL ?vv ?ww ?_); (case vv => walk_at "tr"); (case ww => rfl))
  | ((with_reducible refine' w_seqT ?vv ?ww ?_); (case vv => walk_at "tr"); (case ww => rfl))
  | with_reducible refine w_gNil ?_
  | with_reducible refine w_gCons ?_
  | with_reducible refine w_forZ ?_
  | with_reducible refine w_forM ?_
  | with_reducible refine w_forE ?_
  | with_reducible refine w_forV ?_
  | with_reducible refine w_lcZ ?_
  | with_reducible refine w_lcE ?_
  | ((with_reducible refine' w_isi (b := true) ?vv ?ww ?_); (case vv => walk_at "ty"); (case ww => decide +kernel))
  | ((with_reducible refine' w_isi (b := false) ?vv ?ww ?_); (case vv => walk_at "ty"); (case ww => decide +kernel))
  | with_reducible refine w_revL ?_
  | with_reducible refine w_pairN ?_
  | with_reducible refine w_pairC ?_
  | with_reducible refine w_dget ?_
  | with_reducible refine w_met ?_
  | ((with_reducible refine' w_metAt ?vv ?ww ?_); (case vv => walk_at "tr"); (case ww => rfl))
  | with_reducible refine w_mkI ?_
  | with_reducible refine w_fld ?_
  | ((with_reducible refine' w_fldAt ?vv ?cc ?nn ?ww ?_); (case vv => walk_at "tr"); (case cc => walk_at "cls"); (case nn => walk_at "na"); (case ww => rfl))
  | with_reducible refine w_sfld ?_
  | ((with_reducible refine' w_sfldAt ?vv ?cc ?nn ?ll ?ee ?_); (case vv => walk_at "tr"); (case cc => walk_at "cls"); (case nn => walk_at "na"); (case ll => simp); (case ee => rfl))
  | ((with_reducible refine' w_tupL ?vv ?_); (case vv => walk_at "tr"))
  | ((with_reducible refine' w_tupT ?vv ?_); (case vv => walk_at "tr"))
  | ((with_reducible refine' w_listL ?vv ?_); (case vv => walk_at "tr"))
  | ((with_reducible refine' w_listT ?vv ?_); (case vv => walk_at "tr"))
  | with_reducible refine w_tyS ?_
  | with_reducible refine w_retN ?_
  | with_reducible refine w_break ?_
  | with_reducible refine w_cont ?_)
local macro_rules | `(tactic| walk_at "w") => `(tactic| first
  | walk_at "v"
  | with_reducible refine w_or ?_
  | with_reducible refine w_and ?_
  | with_reducible refine w_andV ?_
  | with_reducible refine w_orV ?_)
local macro_rules | `(tactic| walk_at "wd") => `(tactic| first
  | walk_at "w"
  | ((with_reducible refine' w_decT ?vv ?_); (case vv => decide +kernel))
  | ((with_reducible refine' w_decF ?vv ?_); (case vv => decide +kernel)))
local macro_rules | `(tactic| walk_at "tz") => `(tactic| (intro S z; (repeat walk_at "w"); exact z))
local macro_rules | `(tactic| walk_at "wf") => `(tactic| first
  | walk_at "wd"
  | ((with_reducible refine' w_decF ?vv ?_); (case vv => with_reducible assumption)))
section
variable {X : Cx} {K : PySem.W.Frag} {H : Hp} {Q : VK}
/-- max, min of a list of ints; max of three -/
def rMaxO (K : PySem.W.Frag) : List V → Hp → VK → Prop := fun vs H Q => ∃ (a : Addr) (ns : List Int), vs = [V.ref a] ∧ SqL K H a (ns.map V.int) ∧ 0 < ns.length ∧ ∀ m, m ∈ ns → (∀ y, y ∈ ns → y ≤ m) → Q (.int m) H
theorem call_maxL (hK : X.K = K) (hc : X.calm = true) : CallR X (.builtin "max") (rMaxO K) := by subst hK; exact cr_max hc
theorem w_maxL {a : Addr} {ns : List Int} (h : SqL K H a (ns.map V.int)) (hl : 0 < ns.length) (k : ∀ m, m ∈ ns → (∀ y, y ∈ ns → y ≤ m) → Q (.int m) H) : rMaxO K [.ref a] H Q := ⟨a, ns, rfl, h, hl, k⟩
def rMax3 : List V → Hp → VK → Prop := fun xs H Q => ∃ i j k : Int, xs = [.int i, .int j, .int k] ∧ Q (.int (max (max i j) k)) H
theorem lt3 (i j : Int) : (if decide (j > i) = true then V.int j else .int i) = .int (max i j) := by
  by_cases h : j > i
  · rw [decide_eq_true h, if_pos rfl]; exact congrArg V.int (by omega)
  · rw [decide_eq_false h, if_neg Bool.false_ne_true]; exact congrArg V.int (by omega)
theorem call_max3A (hc : X.calm = true) : CallR X (.builtin "max") rMax3 := fun pins s σ H xs us Q I r h => by
  obtain ⟨i, j, k, rfl, q⟩ := h
  refine call_max3Nu hc pins s σ H _ us Q I r ⟨.int i, .int j, .int k, .int (max (max i j) k), rfl, ?_, q⟩
  have m2 : ∀ i j : Int, nuMax2 (.int i) (.int j) = some (.int (max i j)) := fun i j => by
    show some _ = _
    exact congrArg some (lt3 i j)
  show (nuMax2 (.int i) (.int j)).bind _ = _
  rw [m2]
  exact m2 _ _
theorem w_max3 {i j k : Int} (q : Q (.int (max (max i j) k)) H) : rMax3 [.int i, .int j, .int k] H Q := ⟨i, j, k, rfl, q⟩
/-- list.index -/
theorem mt_indexA (hK : X.K = K) : MtR X "list.index" (rIndex K) := by subst hK; exact mt_index
theorem w_indexI {a : Addr} {ns : List Int} {k : Int} {j : Nat} (h : SqL K H a (ns.map V.int)) (e : ns[j]? = some k) (no : ∀ m, m < j → ns[m]? ≠ some k) (q : Q (.int (j : Nat)) H) : rIndex K (.ref a) [.int k] H Q :=
  ⟨a, ns.map V.int, .int k, j, .int k, rfl, rfl, h, rfl, by rw [List.all_eq_true]; intro x hx; obtain ⟨_, _, rfl⟩ := List.mem_map.mp hx; rfl, by rw [List.getElem?_map, e]; rfl, by simp [eqV], fun m z hm hz => by
    rw [List.getElem?_map] at hz
    cases h2 : ns[m]? with
    | none => rw [h2] at hz; cases hz
    | some y =>
      rw [h2] at hz
      cases Option.some.inj hz
      have : y ≠ k := fun z => no m hm (by rw [h2, z])
      simp [eqV, this], q⟩
/-- list(range(n)) -/
def rRng1 : List V → Hp → VK → Prop := fun vs H Q => ∃ j : Int, vs = [V.int j] ∧ NewO (.rng 0 j) H Q
theorem call_rng1 : CallR X (.type "range") rRng1 := by
  intro pins s σ H vs us Q I r h
  obtain ⟨j, rfl, q⟩ := h
  obtain ⟨u, rfl, ru⟩ := vals1 r
  obtain ⟨t, rfl⟩ := ru
  refine call_range_1 ⟨.ref s.heap.objs.size, upd H s.heap.objs.size (.rng 0 j), I.laid (t' := s.toks + 1 + 1) (fun b o e => Heap.get?_push_of_some _ e) (Nat.le_refl _) ?_, rfl, q _ (I.hok.fresh (Nat.le_refl _))⟩
  exact ⟨s.toks, t, s.toks + 1, Heap.get?_push_size _ rfl⟩
def rListRng : List V → Hp → VK → Prop := fun vs H Q => ∃ (a : Addr) (j : Int), vs = [V.ref a] ∧ H a = some (.rng 0 j) ∧ 0 ≤ j ∧ j ≤ 1000 ∧ NewO (.lst ((List.range j.toNat).map fun i : Nat => V.int (i : Int))) H Q
theorem vals_ixR : ∀ {xs : List V} {us : List Value}, xs.length = us.length → (∀ (j : Nat) (x : V) (u : Value), xs[j]? = some x → us[j]? = some u → RelV x u) → Vals xs us
  | [], [], _, _ => .nil
  | [], _ :: _, h, _ => by simp at h
  | _ :: _, [], h, _ => by simp at h
  | x :: xs, u :: us, h, f => .cons (f 0 x u rfl rfl) (vals_ixR (by simpa using h) fun j y w h1 h2 => f (j + 1) y w (by simpa using h1) (by simpa using h2))
theorem vals_items {acc : Array Value} {n : Nat} (h : ItemsOf (fun i v => ∃ t, v = Value.int (0 + (i : Int) * 1) t) acc n) : Vals ((List.range n).map fun i : Nat => V.int (i : Int)) acc.toList := by
  refine vals_ixR (by rw [List.length_map, List.length_range, Array.length_toList]; exact h.1.symm) fun j x u hx hu => ?_
  rw [List.getElem?_map] at hx
  cases hr : (List.range n)[j]? with
  | none => rw [hr] at hx; cases hx
  | some i =>
    rw [hr] at hx
    obtain ⟨hl, he⟩ := List.getElem?_eq_some_iff.mp hr
    rw [List.getElem_range] at he
    subst he
    rw [List.length_range] at hl
    cases Option.some.inj hx
    rw [Array.getElem?_toList] at hu
    obtain ⟨t, rfl⟩ := h.2 j u hu
    exact ⟨t, by rw [Int.zero_add, Int.mul_one]⟩
theorem call_listRng (hc : X.calm = true) : CallR X (.type "list") rListRng := by
  intro pins s σ H vs us Q I r h
  obtain ⟨a, j, rfl, ha, h0, h1, q⟩ := h
  obtain ⟨u, rfl, ru⟩ := vals1 r
  obtain rfl : u = Value.ref a := ru
  obtain ⟨t, u, v, hr⟩ := I.hok a _ ha
  refine call_list_range (n := j.toNat) (I.ok.hd hc) hr ?_ ?_ (by omega) fun h' tk acc' c' hk hS hi => ?_
  · exact PySem.small_one (by decide) (by decide) (by omega) (by omega)
  · rw [PySem.rangeSize_one]
    by_cases z : 0 < j
    · rw [if_pos z]; omega
    · rw [if_neg z]; omega
  · refine ⟨.ref s.heap.objs.size, upd H s.heap.objs.size (.lst _), I.laid (t' := tk) hk (Nat.le_refl _) ⟨?_, acc'.toList, c', vals_items hi, by simpa using hS⟩, rfl, q _ (I.hok.fresh (Nat.le_refl _))⟩
    rw [List.length_map, List.length_range, sizeLine_eq]
    omega
theorem w_rng1 {j : Int} (k : NewO (.rng 0 j) H Q) : rRng1 [.int j] H Q := ⟨j, rfl, k⟩
theorem w_listRng {a : Addr} {j : Int} (h : H a = some (.rng 0 j)) (h0 : 0 ≤ j) (h1 : j ≤ 1000) (k : NewO (.lst ((List.range j.toNat).map fun i : Nat => V.int (i : Int))) H Q) : rListRng [.ref a] H Q := ⟨a, j, rfl, h, h0, h1, k⟩
/-- list.remove -/
theorem w_remove {a : Addr} {ns : List Int} {k : Int} {j : Nat} (h : H a = some (.lst (ns.map V.int))) (e : ns[j]? = some k) (no : ∀ m, m < j → ns[m]? ≠ some k) (q : ChgO a (.lst ((ns.eraseIdx j).map V.int)) H (Q .non)) : rRemI (.ref a) [.int k] H Q := ⟨a, ns, k, j, rfl, rfl, h, e, no, q⟩
end
section
variable {K : PySem.W.Frag} {H : Hp} {Q : VK} {σ : L2.St} {ty td tv : TE}
theorem w_din (k : ty σ H fun y H1 => td σ H1 fun x H2 => ∃ a o, x = .ref a ∧ DGet H2 a y o ∧ Q (.bl o.isSome) H2) : tDIn ty td σ H Q := k
theorem w_dnotin (k : ty σ H fun y H1 => td σ H1 fun x H2 => ∃ a o, x = .ref a ∧ DGet H2 a y o ∧ Q (.bl (!o.isSome)) H2) : tDNotIn ty td σ H Q := k
theorem w_dput {D : L2.Ends} (k : tv σ H fun v H1 => td σ H1 fun x H2 => ty σ H2 fun y H3 => ∃ a H4, x = .ref a ∧ DPut H3 a y v H4 ∧ D.nx σ H4) : sDPut td ty tv D σ H := k
end
/-- a comprehension within one -/
theorem lookup_rel {env : Env} : ∀ {names : List (Str × NameKind)} {x : Str}, (names.lookup x = some .cell ∨ names.lookup x = some .free) →
    ((names.map fun (n, k) => if (k == NameKind.free && env.scope.kind == .function && env.kindOf n == some .cell) then (n, NameKind.cell) else (n, k)).lookup x = some .cell ∨
     (names.map fun (n, k) => if (k == NameKind.free && env.scope.kind == .function && env.kindOf n == some .cell) then (n, NameKind.cell) else (n, k)).lookup x = some .free)
  | [], x, h => by simp at h
  | (n, k) :: r, x, h => by
    have ih := @lookup_rel env r x
    show List.lookup x ((if (k == NameKind.free && env.scope.kind == .function && env.kindOf n == some .cell) = true then (n, NameKind.cell) else (n, k)) :: _) = _ ∨ List.lookup x ((if (k == NameKind.free && env.scope.kind == .function && env.kindOf n == some .cell) = true then (n, NameKind.cell) else (n, k)) :: _) = _
    cases hx : x == n with
    | true =>
      simp only [List.lookup_cons, hx] at h
      by_cases hc : (k == NameKind.free && env.scope.kind == .function && env.kindOf n == some .cell) = true
      · rw [if_pos hc]; simp only [List.lookup_cons, hx]; exact .inl trivial
      · rw [if_neg hc]; simp only [List.lookup_cons, hx]; exact h
    | false =>
      simp only [List.lookup_cons, hx] at h
      by_cases hc : (k == NameKind.free && env.scope.kind == .function && env.kindOf n == some .cell) = true
      · rw [if_pos hc]; simp only [List.lookup_cons, hx]; exact ih h
      · rw [if_neg hc]; simp only [List.lookup_cons, hx]; exact ih h
theorem blkOk_rel {N : List Str} {sc0 scope : Scope} {env : Env} {own : List (Str × Nat)} (h : blkC N sc0 scope own = true) : BlkOk N (relabel sc0 env) scope own := by
  have b := blkOk_by h
  exact ⟨b.kind, b.uniq, b.ix, fun y hy e => lookup_rel (b.free y hy e), b.own⟩

end J
namespace J
open PySem PySem.Spec PyProof.Rows L2
local macro_rules | `(tactic| walk_at "cls") => `(tactic| first
  | with_reducible exact Facts.cl_Step
  | with_reducible exact Facts.cl_Get
  | with_reducible exact Facts.cl_Ask
  | with_reducible exact Facts.cl_Cell
  | with_reducible exact Facts.cl_Two
  | with_reducible exact Facts.cl_Put
  | with_reducible exact Facts.cl_Tell
  | with_reducible exact Facts.cl_Store
  | with_reducible exact Facts.cl_Parts
  | with_reducible exact Facts.cl_Order)
local macro_rules | `(tactic| walk_at "na") => `(tactic| first
  | with_reducible exact Facts.na_Get_to
  | with_reducible exact Facts.na_Get_sel
  | with_reducible exact Facts.na_Ask_to
  | with_reducible exact Facts.na_Ask_sel
  | with_reducible exact Facts.na_Cell_to
  | with_reducible exact Facts.na_Cell_source
  | with_reducible exact Facts.na_Two_to
  | with_reducible exact Facts.na_Two_op
  | with_reducible exact Facts.na_Two_one
  | with_reducible exact Facts.na_Two_other
  | with_reducible exact Facts.na_Put_sel
  | with_reducible exact Facts.na_Put_source
  | with_reducible exact Facts.na_Tell_sel
  | with_reducible exact Facts.na_Tell_source
  | with_reducible exact Facts.na_Store_at
  | with_reducible exact Facts.na_Store_source
  | with_reducible exact Facts.na_Parts_rows
  | with_reducible exact Facts.na_Order_parts
  | with_reducible exact Facts.na_Order_order
  | with_reducible exact Facts.na_Order_needed)
local macro_rules | `(tactic| walk_at "ty") => `(tactic| first
  | with_reducible exact ty_int
  | with_reducible exact ty_bl
  | with_reducible exact ty_str
  | with_reducible exact ty_non
  | ((with_reducible refine' ty_lst ?vv); (case vv => walk_at "tr"))
  | ((with_reducible refine' ty_sqT ?vv); (case vv => walk_at "tr"))
  | ((with_reducible refine' ty_dic ?vv); (case vv => walk_at "tr")))
local macro_rules | `(tactic| walk_at "ix") => `(tactic| first | exact at0 | exact at1 | exact at2 | assumption)
local macro_rules | `(tactic| walk_at "size") => `(tactic| first
  | assumption
  | (show _ < sizeLine; rw [sizeLine_eq]; (try simp only [List.length_cons, List.length_nil, List.length_append, List.length_map]); omega)
  | (show _ ≤ sizeLine; rw [sizeLine_eq]; (try simp only [List.length_cons, List.length_nil, List.length_append, List.length_map]); omega))
local macro_rules | `(tactic| walk_at "side") => `(tactic| first
  | assumption
  | ((with_reducible refine cdw ?_ ?_) <;> omega)
  | omega
  | (exact ⟨by omega, by omega⟩)
  | (exact Or.inl ⟨by omega, by omega⟩)
  | (exact Or.inr ⟨by omega, by omega⟩)
  | decide
  | (simp only [List.length_cons, List.length_nil, List.length_append, List.length_map]; omega)
  | (show _ ≤ _; decide))
local macro_rules | `(tactic| walk_at "as") => `(tactic| with_reducible assumption)
local macro_rules | `(tactic| walk_at "tr") => `(tactic| first
  | with_reducible assumption
  | with_reducible exact upd_same
  | ((with_reducible refine' SqL.of ?hh); (case hh => walk_at "as"))
  | ((with_reducible refine' SqT.of ?hh); (case hh => walk_at "as"))
  | ((with_reducible refine' Same.stm ?ee ?gg); (case ee => walk_at "as"); (case gg => walk_at "tr"))
  | ((with_reducible refine' Same.sqT ?ee ?gg); (case ee => walk_at "as"); (case gg => walk_at "tr"))
  | ((with_reducible refine' Same.sqL ?ee ?gg); (case ee => walk_at "as"); (case gg => walk_at "tr"))
  | ((with_reducible refine' Same.at ?ee ?gg); (case ee => walk_at "as"); (case gg => walk_at "tr"))
  | ((with_reducible refine' But.stm ?ee ?ff ?gg); (case ee => walk_at "as"); (case ff => walk_at "ne"); (case gg => walk_at "tr"))
  | ((with_reducible refine' But.tup ?ee ?ff ?gg); (case ee => walk_at "as"); (case ff => walk_at "tr1"); (case gg => walk_at "tr"))
  | ((with_reducible refine' But.sqT ?ee ?ff ?gg); (case ee => walk_at "as"); (case ff => walk_at "tr1"); (case gg => walk_at "tr"))
  | ((with_reducible refine' But.tupL ?ee ?ff ?gg); (case ee => walk_at "as"); (case ff => walk_at "tr1"); (case gg => walk_at "tr"))
  | ((with_reducible refine' But.sqTL ?ee ?ff ?gg); (case ee => walk_at "as"); (case ff => walk_at "tr1"); (case gg => walk_at "tr"))
  | ((with_reducible refine' But.sqL ?ee ?ff ?gg); (case ee => walk_at "as"); (case ff => walk_at "ne"); (case gg => walk_at "tr"))
  | ((with_reducible refine' But.at ?ee ?ff ?gg); (case ee => walk_at "as"); (case ff => walk_at "ne"); (case gg => walk_at "tr")))
local macro_rules | `(tactic| walk_at "ts") => `(tactic| first
  | with_reducible assumption
  | with_reducible exact TS.refl _
  | ((with_reducible refine' TS.trans ?gg (TS.of ?ee)); (case ee => walk_at "as"); (case gg => walk_at "ts"))
  | ((with_reducible refine' TS.trans ?gg (TS.butS ?ee ?ff)); (case ee => walk_at "as"); (case ff => walk_at "tr1"); (case gg => walk_at "ts"))
  | ((with_reducible refine' TS.trans ?gg (TS.butL ?ee ?ff)); (case ee => walk_at "as"); (case ff => walk_at "tr1"); (case gg => walk_at "ts"))
  | ((with_reducible refine' TS.trans ?gg (TS.butI ?ee ?ff)); (case ee => walk_at "as"); (case ff => walk_at "tr1"); (case gg => walk_at "ts")))
local macro_rules | `(tactic| walk_at "sm") => `(tactic| first
  | with_reducible assumption
  | with_reducible exact Same.refl _
  | ((with_reducible refine' Same.trans ?gg ?ee); (case ee => walk_at "as"); (case gg => walk_at "sm"))
  | ((with_reducible refine' But.new ?gg ?nn ?ee); (case ee => walk_at "as"); (case nn => walk_at "fr"); (case gg => walk_at "sm")))
local macro_rules | `(tactic| walk_at "fr") => `(tactic| first
  | with_reducible assumption
  | ((with_reducible refine' Same.back ?ee ?nn); (case nn => walk_at "as"); (case ee => walk_at "sm"))
  | ((with_reducible refine' But.back ?ee ?ff ?nn); (case nn => walk_at "as"); (case ff => walk_at "ne0"); (case ee => walk_at "bu")))
local macro_rules | `(tactic| walk_at "bu") => `(tactic| first
  | with_reducible assumption
  | with_reducible exact But.refl _ _
  | ((with_reducible refine' But.trans ?gg ?ee); (case ee => walk_at "as"); (case gg => walk_at "bu"))
  | ((with_reducible refine' But.trans ?gg (But.of ?ee)); (case ee => walk_at "as"); (case gg => walk_at "bu"))
  | ((with_reducible refine' But.new2 ?gg ?nn ?ee); (case ee => walk_at "as"); (case nn => walk_at "frB"); (case gg => walk_at "bu")))
local macro_rules | `(tactic| walk_at "frB") => `(tactic| first
  | with_reducible assumption
  | ((with_reducible refine' Same.back ?ee ?nn); (case nn => walk_at "as"); (case ee => walk_at "sm"))
  | ((with_reducible refine' But.back' ?ee ?ff ?nn); (case nn => walk_at "as"); (case ee => walk_at "bu"); (case ff => walk_at "tr1")))
local macro_rules | `(tactic| walk_at "tr1") => `(tactic| first
  | with_reducible assumption
  | ((with_reducible refine' Same.stm ?ee ?gg); (case ee => walk_at "as"); (case gg => walk_at "tr1"))
  | ((with_reducible refine' Same.at ?ee ?gg); (case ee => walk_at "as"); (case gg => walk_at "tr1"))
  | ((with_reducible refine' But.at ?ee ?ff ?gg); (case ee => walk_at "as"); (case ff => walk_at "ne0"); (case gg => walk_at "tr1"))
  | ((with_reducible refine' But.stm ?ee ?ff ?gg); (case ee => walk_at "as"); (case ff => walk_at "ne0"); (case gg => walk_at "tr1")))
local macro_rules | `(tactic| walk_at "ne0") => `(tactic| first
  | with_reducible assumption
  | (with_reducible apply Ne.symm; with_reducible assumption))
local macro_rules | `(tactic| walk_at "ne") => `(tactic| first
  | with_reducible assumption
  | (with_reducible apply Ne.symm; with_reducible assumption)
  | ((with_reducible refine' stm_ne ?hh ?nn); (case nn => walk_at "as"); (case hh => walk_at "tr1"))
  | ((with_reducible refine' ne_of_none ?hh ?nn); (case nn => walk_at "as"); (case hh => walk_at "tr1"))
  | ((with_reducible apply Ne.symm); (with_reducible refine' ne_of_none ?hh ?nn); (case nn => walk_at "as"); (case hh => walk_at "tr1")))
local macro_rules | `(tactic| walk_at "v") => `(tactic| first
  | with_reducible refine w_seq ?_
  | ((with_reducible refine' w_var ?vv ?_); (case vv => exact rfl))
  | with_reducible refine w_c ?_
  | with_reducible refine w_op ?_
  | with_reducible refine w_asg ?_
  | with_reducible refine w_gName ?_
  | with_reducible refine w_ret ?_
  | with_reducible refine w_ifS ?_
  | with_reducible refine w_drop ?_
  | with_reducible refine w_next ?_
  | with_reducible refine w_cons ?_
  | with_reducible refine w_nil ?_
  | with_reducible refine w_call ?_
  | with_reducible refine w_cb ?_
  | with_reducible refine w_rI0 ?_
  | with_reducible refine w_addI ?_
  | with_reducible refine w_eqI ?_
  | with_reducible refine w_neI ?_
  | with_reducible refine w_eqS ?_
  | with_reducible refine w_neS ?_
  | with_reducible refine w_eqB ?_
  | with_reducible refine w_neB ?_
  | with_reducible refine w_chain ?_
  | with_reducible refine w_test ?_
  | with_reducible refine w_tB ?_
  | with_reducible refine w_bl ?_
  | ((with_reducible refine' w_mulI ?vv ?_); (case vv => walk_at "side"))
  | ((with_reducible refine' w_rI ?vv ?_); (case vv => walk_at "side"))
  | with_reducible refine w_int1 ?_
  | with_reducible refine w_int1b ?_
  | with_reducible refine w_tup ?_
  | with_reducible refine w_lst ?_
  | with_reducible refine w_un ?_
  | with_reducible refine w_rU ?_
  | with_reducible refine w_not ?_
  | with_reducible refine w_notV ?_
  | with_reducible refine w_ifE ?_
  | with_reducible refine w_nT ?_
  | with_reducible refine w_nF ?_
  | with_reducible refine iteT ?_
  | with_reducible refine iteF ?_
  | ((with_reducible refine' w_ixT ?vv ?ww ?_); (case vv => walk_at "tr"); (case ww => walk_at "ix"))
  | ((with_reducible refine' w_ixL ?vv ?ww ?_); (case vv => walk_at "tr"); (case ww => walk_at "ix"))
  | with_reducible refine w_gSub ?_
  | ((with_reducible refine' w_setL ?vv ?ww ?_); (case vv => walk_at "tr"); (case ww => first | rfl | decide | assumption))
  | ((with_reducible refine' w_lenL ?vv ?_); (case vv => walk_at "tr"))
  | ((with_reducible refine' w_lenT ?vv ?_); (case vv => walk_at "tr"))
  | with_reducible refine w_max2 ?_
  | with_reducible refine w_max3 ?_
  | with_reducible refine w_din ?_
  | with_reducible refine w_dnotin ?_
  | with_reducible refine w_dput ?_
  | with_reducible refine w_min2 ?_
  | with_reducible refine w_bm ?_
  | with_reducible refine w_bm0 ?_
  | ((with_reducible refine' w_tyL ?vv ?_); (case vv => walk_at "tr"))
  | ((with_reducible refine' w_append ?vv ?ww ?_); (case vv => walk_at "tr"); (case ww => walk_at "size"))
  | ((with_reducible refine' w_size ?vv ?_); (case vv => walk_at "size"))
  | with_reducible refine w_forL ?_
  | with_reducible refine w_forT ?_
  | with_reducible refine w_forR1 ?_
  | with_reducible refine w_forR2 ?_
  | with_reducible refine w_lcL ?_
  | with_reducible refine w_lcT ?_
  | with_reducible refine w_lcR1 ?_
  | with_reducible refine w_yes ?_
  | with_reducible refine w_sl ?_
  | with_reducible refine w_noPart ?_
  | with_reducible refine w_part ?_
  | with_reducible refine w_int ?_
  | ((with_reducible refine' w_slL ?vv ?_); (case vv => walk_at "tr"))
  | ((with_reducible refine' w_seqL ?vv ?ww ?_); (case vv => walk_at "tr"); (case ww => rfl))
  | ((with_reducible refine' w_seqT ?vv ?ww ?_); (case vv => walk_at "tr"); (case ww => rfl))
  | with_reducible refine w_gNil ?_
  | with_reducible refine w_gCons ?_
  | with_reducible refine w_forZ ?_
  | with_reducible refine w_forM ?_
  | with_reducible refine w_forE ?_
  | with_reducible refine w_forV ?_
  | with_reducible refine w_lcZ ?_
  | with_reducible refine w_lcE ?_
  | ((with_reducible refine' w_isi (b := true) ?vv ?ww ?_); (case vv => walk_at "ty"); (case ww => decide +kernel))
  | ((with_reducible refine' w_isi (b := false) ?vv ?ww ?_); (case vv => walk_at "ty"); (case ww => decide +kernel))
  | with_reducible refine w_revL ?_
  | with_reducible refine w_pairN ?_
  | with_reducible refine w_pairC ?_
  | with_reducible refine w_dget ?_
  | with_reducible refine w_met ?_
  | ((with_reducible refine' w_metAt ?vv ?ww ?_); (case vv => walk_at "tr"); (case ww => rfl))
  | with_reducible refine w_mkI ?_
  | with_reducible refine w_fld ?_
  | ((with_reducible refine' w_fldAt ?vv ?cc ?nn ?ww ?_); (case vv => walk_at "tr"); (case cc => walk_at "cls"); (case nn => walk_at "na"); (case ww => rfl))
  | with_reducible refine w_sfld ?_
  | ((with_reducible refine' w_sfldAt ?vv ?cc ?nn ?ll ?ee ?_); (case vv => walk_at "tr"); (case cc => walk_at "cls"); (case nn => walk_at "na"); (case ll => simp); (case ee => rfl))
  | ((with_reducible refine' w_tupL ?vv ?_); (case vv => walk_at "tr"))
  | ((with_reducible refine' w_tupT ?vv ?_); (case vv => walk_at "tr"))
  | ((with_reducible refine' w_listL ?vv ?_); (case vv => walk_at "tr"))
  | ((with_reducible refine' w_listT ?vv ?_); (case vv => walk_at "tr"))
  | with_reducible refine w_tyS ?_
  | with_reducible refine w_retN ?_
  | with_reducible refine w_break ?_
  | with_reducible refine w_cont ?_)
local macro_rules | `(tactic| walk_at "w") => `(tactic| first
  | walk_at "v"
  | with_reducible refine w_or ?_
  | with_reducible refine w_and ?_
  | with_reducible refine w_andV ?_
  | with_reducible refine w_orV ?_)
local macro_rules | `(tactic| walk_at "wd") => `(tactic| first
  | walk_at "w"
  | ((with_reducible refine' w_decT ?vv ?_); (case vv => decide +kernel))
  | ((with_reducible refine' w_decF ?vv ?_); (case vv => decide +kernel)))
local macro_rules | `(tactic| walk_at "tz") => `(tactic| (intro S z; (repeat walk_at "w"); exact z))
local macro_rules | `(tactic| walk_at "wf") => `(tactic| first
  | walk_at "wd"
  | ((with_reducible refine' w_decF ?vv ?_); (case vv => with_reducible assumption)))
/-! ### zip of lists and tuples in any mix (t: a tuple) -/
def SqX (t : Bool) (K : PySem.W.Frag) (H : Hp) (a : Addr) (xs : List V) : Prop := match t with
  | true => SqT K H a xs
  | false => SqL K H a xs
def ItX (t : Bool) (h : Heap) (it l : Addr) (i : Nat) : Prop := match t with
  | true => h.IsTupleIter it l i
  | false => h.IsListIter it l i
def SeqX (t : Bool) (h : Heap) (l : Addr) (xs : Array Value) : Prop := match t with
  | true => h.IsTuple l xs
  | false => h.IsList l xs
theorem drawsX {prog : Program} {w : World} {A : Around} (t : Bool) (hh : A.handled = none) (it l : Addr) (hne : l ≠ it) (items : Array Value) :
    PySem.Draws prog w A it [it, l] items.size (fun i v => items[i]? = some v) (fun i h => ItX t h it l i ∧ SeqX t h l items) := by
  cases t with
  | true => exact PySem.Draws.tuple hh it l hne items
  | false => exact PySem.Draws.list hh it l hne items
def itO (t : Bool) (l : Addr) : Obj := match t with
  | true => { cls := .type "tuple_iterator", data := .fields #[.ref l, .int 0 0] }
  | false => { cls := .type "list_iterator", data := .fields #[.ref l, .int 0 0] }
theorem beginsX (t : Bool) (l : Addr) (items : Array Value) : PySem.Begins (.ref l) (itO t l) fun h => SeqX t h l items := by
  cases t with
  | true => exact PySem.begins_tuple l items
  | false => exact PySem.begins_list l items
theorem itX_new (t : Bool) {h : Heap} {it l : Addr} (e : h.get? it = some (itO t l)) : ItX t h it l 0 := by
  cases t with
  | true => exact ⟨_, e, rfl, rfl⟩
  | false => exact ⟨_, e, rfl, rfl⟩
theorem itX_at (t : Bool) {h h' : Heap} {it l : Addr} {i : Nat} (x : ItX t h it l i) (k : ∀ o, h.get? it = some o → h'.get? it = some o) : ItX t h' it l i := by
  cases t with
  | true => exact PySem.Heap.IsTupleIter.at x k
  | false => exact PySem.Heap.IsListIter.at x k
theorem itX_obj (t : Bool) {h : Heap} {it l : Addr} {i : Nat} (x : ItX t h it l i) : ∃ o, h.get? it = some o ∧ ∀ v, o.data ≠ .cell v := by
  cases t with
  | true => obtain ⟨o, e, _, d⟩ := x; exact ⟨o, e, fun v q => by rw [d] at q; cases q⟩
  | false => obtain ⟨o, e, _, d⟩ := x; exact ⟨o, e, fun v q => by rw [d] at q; cases q⟩
section
variable {X : Cx} {pins : List (Addr × Obj)} {σ : L2.St} {H : Hp} {s : Shared}
theorem inv_seqX (I : Inv X pins σ H s) (t : Bool) {a : Addr} {xs : List V} (h : SqX t X.K H a xs) : ∃ its : List Value, Vals xs its ∧ SeqX t s.heap a its.toArray ∧ a < s.heap.objs.size := by
  cases t with
  | true =>
    obtain ⟨its, rv, p, _⟩ := I.tuple h
    obtain ⟨o, ho, _⟩ := id p
    exact ⟨its, rv, p, Heap.lt_size ho⟩
  | false =>
    obtain ⟨its, rv, p, _⟩ := I.list h
    exact ⟨its, rv, p.isList, p.lt⟩
theorem inv_injX (I : Inv X pins σ H s) (t : Bool) {a : Addr} {xs ys : List V} (h : SqX t X.K H a xs) (g : SqX t X.K H a ys) : xs = ys := by
  cases t with
  | true => exact I.tuple_inj h g
  | false => exact I.list_inj h g
end
def ItzM (t u : Bool) (K : PySem.W.Frag) (a b : Addr) : It :=
  ⟨fun i H => ∃ (xs ys : List V) (x y : V), SqX t K H a xs ∧ SqX u K H b ys ∧ xs[i]? = some x ∧ ys[i]? = some y,
    fun i H v H' => ∃ T x y, v = .ref T ∧ H T = none ∧ H' = upd H T (.tup [x, y]) ∧ (∀ xs, SqX t K H a xs → xs[i]? = some x) ∧ ∀ ys, SqX u K H b ys → ys[i]? = some y,
    fun i H => ∃ xs ys : List V, SqX t K H a xs ∧ SqX u K H b ys ∧ i ≤ xs.length ∧ i ≤ ys.length ∧ (xs.length ≤ i ∨ ys.length ≤ i)⟩
theorem sepX {z TI TO i1 i2 l1 l2 : Addr} (D : ZipApart z TI TO i1 i2 l1 l2) : PySem.ZipSep2 z TI TO i1 i2 [i1, l1] [i2, l2] where
  TIz := D.TIz
  TOz := D.TOz
  TITO := D.TITO
  TIi1 := D.TIi1
  mem1 := by simp
  zf1 := by
    have a := D.i1z
    have b := D.l1z
    simp only [List.mem_cons, List.not_mem_nil, or_false, not_or]
    exact ⟨a.symm, b.symm⟩
  Tf1 := by
    simp only [List.mem_cons, List.not_mem_nil, or_false, not_or]
    exact ⟨D.TOi1, D.l1TO.symm⟩
  TIi2 := D.TIi2
  mem2 := by simp
  zf2 := by
    simp only [List.mem_cons, List.not_mem_nil, or_false, not_or]
    exact ⟨D.i2z.symm, D.l2z.symm⟩
  Tf2 := by
    simp only [List.mem_cons, List.not_mem_nil, or_false, not_or]
    exact ⟨D.TOi2, D.l2TO.symm⟩
  sep1_2 := by
    simp only [List.mem_cons, List.not_mem_nil, or_false, not_or]
    exact ⟨D.i12, D.l2i1.symm⟩
  sep2_1 := by
    simp only [List.mem_cons, List.not_mem_nil, or_false, not_or]
    exact ⟨D.i12.symm, D.l1i2.symm⟩
theorem turn_zipM {P : Program} {w : World} {K : PySem.W.Frag} {elts : List Expr} {kk : Nat} {tpos : Pos} {a b z TI TO i1 i2 : Addr} (t u : Bool) (D : ZipApart z TI TO i1 i2 a b) :
    Turn P w K (.Tuple elts kk tpos) (ItzM t u K a b) [z, TI, TO, i1, i2] z (fun i h => IsZip h z TI TO .none ∧ IsPair h TI (.ref i1) (.ref i2) ∧ (∃ x y, IsPair h TO x y) ∧ ItX t h i1 a i ∧ ItX u h i2 b i) where
  mem := by simp
  obj := fun i h st c hc => by
    obtain ⟨hz, hTI, ⟨x, y, hTO⟩, h1, h2⟩ := st
    have e' : c = z ∨ c = TI ∨ c = TO ∨ c = i1 ∨ c = i2 := by simpa using hc
    rcases e' with q | q | q | q | q
    · rw [q]; exact ⟨_, hz, fun v q => nomatch q⟩
    · rw [q]; exact ⟨_, hTI, fun v q => nomatch q⟩
    · rw [q]; exact ⟨_, hTO, fun v q => nomatch q⟩
    · rw [q]; exact itX_obj t h1
    · rw [q]; exact itX_obj u h2
  keep := fun i h h' st k => by
    obtain ⟨hz, hTI, ⟨x, y, hTO⟩, h1, h2⟩ := st
    exact ⟨k z (by simp) _ hz, k TI (by simp) _ hTI, ⟨x, y, k TO (by simp) _ hTO⟩, itX_at t h1 fun o q => k i1 (by simp) o q, itX_at u h2 fun o q => k i2 (by simp) o q⟩
  item := by
    intro X hP hw hK hc i pins s σ H E I hf st hg
    subst hP hw hK
    obtain ⟨hz, hTI, ⟨x0, y0, hTO⟩, h1, h2⟩ := st
    obtain ⟨xs, ys, x, y, hqx, hqy, hx, hy⟩ := hg
    obtain ⟨its, rv, p, lt1⟩ := inv_seqX I t hqx
    obtain ⟨its2, rv2, p2, lt2⟩ := inv_seqX I u hqy
    obtain ⟨v1, hu, ru⟩ := rv.get hx
    obtain ⟨v2, hu2, ru2⟩ := rv2.get hy
    have hzl : z < s.heap.objs.size := Heap.lt_size hz
    have hh : X.A.in1.handled = none := I.ok.hd hc
    have D1 := drawsX (prog := X.prog) (w := X.w) t hh i1 a D.l1i1 its.toArray
    have D2 := drawsX (prog := X.prog) (w := X.w) u hh i2 b D.l2i2 its2.toArray
    have n1 : i < its.toArray.size := by rw [List.size_toArray]; exact (List.getElem?_eq_some_iff.mp hu).1
    have n2 : i < its2.toArray.size := by rw [List.size_toArray]; exact (List.getElem?_eq_some_iff.mp hu2).1
    refine PySem.wpAny_pyNext_zipD2_item (sepX D) D1 D2 hz hTI hTO ⟨h1, p⟩ ⟨h2, p2⟩ n1 n2 fun w1 w2 h' tk g1 g2 z' TO' h1' h2' hT hsz hk => ?_
    have e1 : w1 = v1 := by
      have := g1.symm.trans (by simpa using hu : its.toArray[i]? = some v1)
      exact Option.some.inj this
    have e2 : w2 = v2 := by
      have := g2.symm.trans (by simpa using hu2 : its2.toArray[i]? = some v2)
      exact Option.some.inj this
    subst e1 e2
    refine ⟨_, rfl, wpAny_letOwnedTupleGo_zip (s := { s with heap := h', toks := tk }) z' fun h'' z'' sb => ?_⟩
    have hT2 : h''.get? s.heap.objs.size = some { cls := .type "tuple", data := .seq #[w1, w2] } := (sb.2 _ (Nat.ne_of_gt hzl)).trans hT
    have new : ObjOk X.prog X.w (upd H s.heap.objs.size (.tup [x, y])) h'' s.heap.objs.size (.tup [x, y]) :=
      ⟨by show 2 ≤ sizeLine; decide, [w1, w2], .cons ru (.cons ru2 .nil), ⟨_, hT2, rfl, _, rfl⟩⟩
    have I1 : Inv X pins σ (upd H s.heap.objs.size (.tup [x, y])) { s with heap := h'', toks := tk } :=
      I.turnedNew (t' := tk) (ch := [z, TI, TO, i1, i2]) (fun c o hb q => (sb.2 c (fun q' => hb (by simp [q']))).trans (hk c o (fun q' => hb (by simp [q'])) (fun q' => hb (by simp [q'])) (fun q' => hb (by simp [q'])) (fun q' => hb (by simp [q'])) q)) hf (Nat.le_refl _) new
    refine ⟨.ref s.heap.objs.size, _, I1, rfl, ⟨_, x, y, rfl, I.hok.fresh (Nat.le_refl _), rfl, fun l hl => by rw [inv_injX I t hl hqx]; exact hx, fun l hl => by rw [inv_injX I u hl hqy]; exact hy⟩, ⟨z'', ?_, ⟨w1, w2, ?_⟩, ?_, ?_⟩, fun c hcm => ?_⟩
    · exact (sb.2 _ D.TIz).trans (hk _ _ D.TIz D.TITO D.TIi1 D.TIi2 hTI)
    · exact (sb.2 _ D.TOz).trans TO'
    · exact itX_at t h1'.1 fun o q => (sb.2 _ D.i1z).trans q
    · exact itX_at u h2'.1 fun o q => (sb.2 _ D.i2z).trans q
    · have hlt : c < s.heap.objs.size := by
        have e' : c = z ∨ c = TI ∨ c = TO ∨ c = i1 ∨ c = i2 := by simpa using hcm
        rcases e' with q | q | q | q | q
        · rw [q]; exact hzl
        · rw [q]; exact Heap.lt_size hTI
        · rw [q]; exact Heap.lt_size hTO
        · rw [q]; obtain ⟨_, e1, _⟩ := itX_obj t h1; exact Heap.lt_size e1
        · rw [q]; obtain ⟨_, e2, _⟩ := itX_obj u h2; exact Heap.lt_size e2
      rw [upd_ne (Nat.ne_of_lt hlt)]
      exact (hf c hcm).1
  done := by
    intro X hP hw hK hc i pins s σ H E I hf st hg
    subst hP hw hK
    obtain ⟨hz, hTI, ⟨x0, y0, hTO⟩, h1, h2⟩ := st
    obtain ⟨xs, ys, hqx, hqy, le1, le2, hend⟩ := hg
    obtain ⟨its, rv, p, lt1⟩ := inv_seqX I t hqx
    obtain ⟨its2, rv2, p2, lt2⟩ := inv_seqX I u hqy
    have l1 := rv.length
    have l2 := rv2.length
    have hh : X.A.in1.handled = none := I.ok.hd hc
    have D1 := drawsX (prog := X.prog) (w := X.w) t hh i1 a D.l1i1 its.toArray
    have D2 := drawsX (prog := X.prog) (w := X.w) u hh i2 b D.l2i2 its2.toArray
    refine PySem.wpAny_pyNext_zipD2_end (sepX D) D1 D2 hz hTI hTO ⟨h1, p⟩ ⟨h2, p2⟩ (by rw [List.size_toArray]; omega) (by rw [List.size_toArray]; omega) (by rw [List.size_toArray, List.size_toArray]; omega) fun h' tk hk => ⟨rfl, I.turnedL (t' := tk) (ch := [z, TI, TO, i1, i2]) (fun c o hb q =>
      hk c o (fun q' => hb (by simp [q'])) (fun q' => hb (by simp [q'])) (fun q' => hb (by simp [q'])) (fun q' => hb (by simp [q'])) q) hf⟩
  self := fun A i s Q E st h => wpAny_pyIter_zip st.1 h
def iZipM (t u : Bool) (K : PySem.W.Frag) (ta : TA) : TI := fun σ H R => ta σ H fun vs H1 => ∃ a b xs ys, vs = [.ref a, .ref b] ∧ SqX t K H1 a xs ∧ SqX u K H1 b ys ∧ R (ItzM t u K a b) H1
theorem pi_zipM {X : Cx} {K : PySem.W.Frag} {e e2 : Expr} {ta : TA} {p pos tpos : Pos} {elts : List Expr} {kk : Nat} (t u : Bool) (hK : X.K = K) (hg : Gl X "zip") (hm : X.mg "zip" = none) (ha : PA X [e, e2] ta)
    (hs : starEach [e, e2] X.env = (false, eval e X.env) :: starEach [e2] X.env := by rfl) (hpl : (backTo pos (starEach [e2] X.env)).any (·.1) = false := by rfl) :
    PI X (.Tuple elts kk tpos) (.Call (.Name "zip" p) [e, e2] [] pos) (iZipM t u K ta) := by
  subst hK
  refine ⟨fun pins s σ H R I h => ?_⟩
  refine Call_ (ld_blt I hg hm PyProof.Rows.boot_zip (PyProof.Rows.callWith_type1 (thn (ha.run pos pins s σ H _ I h) fun us s1 ⟨vs, H1, I1, r1, q1⟩ => ?_) hs hpl))
  obtain ⟨a, b, xs, ys, ex, hqx, hqy, q⟩ := q1
  subst ex
  cases r1 with
  | cons r rr =>
    cases rr with
    | cons r' rr =>
      cases rr
      cases r
      cases r'
      have fresh5 : ∀ c, c ∈ [s1.heap.objs.size + 4, s1.heap.objs.size + 2, s1.heap.objs.size + 3, s1.heap.objs.size, s1.heap.objs.size + 1] → FpOk X pins H1 c := fun c hcm => by
        have e' : c = s1.heap.objs.size + 4 ∨ c = s1.heap.objs.size + 2 ∨ c = s1.heap.objs.size + 3 ∨ c = s1.heap.objs.size ∨ c = s1.heap.objs.size + 1 := by simpa using hcm
        have hle : s1.heap.objs.size ≤ c := by
          rcases e' with z | z | z | z | z
          · rw [z]; exact Nat.le_add_right _ _
          · rw [z]; exact Nat.le_add_right _ _
          · rw [z]; exact Nat.le_add_right _ _
          · rw [z]; exact Nat.le_refl _
          · rw [z]; exact Nat.le_add_right _ _
        exact I1.fpOk hle (I1.hok.fresh hle)
      obtain ⟨its, rv, p1, lt1⟩ := inv_seqX I1 t hqx
      obtain ⟨its2, rv2, p2, lt2⟩ := inv_seqX I1 u hqy
      refine PySem.zip_begins2 (beginsX t a its.toArray) (beginsX u b its2.toArray) p1 p2 fun h' hz hTI hTO h1 h2 hsz hk => wpAny_pyIter_zip hz ?_
      have I2 : Inv X pins σ H1 { s1 with heap := h' } := I1.kept (t' := s1.toks) hk
      exact ⟨s1.heap.objs.size + 4, [s1.heap.objs.size + 4, s1.heap.objs.size + 2, s1.heap.objs.size + 3, s1.heap.objs.size, s1.heap.objs.size + 1], _, _, H1, rfl, I2, turn_zipM t u (PySem.W.ktu_apart s1.heap.objs.size a b lt1 lt2), ⟨hz, hTI, ⟨_, _, hTO⟩, itX_new t h1, itX_new u h2⟩, fresh5, q⟩
section
variable {K : PySem.W.Frag} {σ : L2.St} {H : Hp} {a b : Addr} {xs ys : List V} {g : TG} {tb : L2.TS} {nx : L2.St → Hp → Prop} {rt : VK} {bk ct : L2.St → Hp → Prop} {ta : TA} {t u : Bool}
theorem w_forM (k : ta σ H fun vs H1 => ∃ a b xs ys, vs = [.ref a, .ref b] ∧ SqX t K H1 a xs ∧ SqX u K H1 b ys ∧ WFor (ItzM t u K a b) g tb nx rt σ H1) : tFor (iZipM t u K ta) g tb ⟨nx, rt, bk, ct⟩ σ H := k
theorem walk_zipM {n : Nat} (hn : n = min xs.length ys.length) : Walk (ItzM t u K a b) n (fun H => SqX t K H a xs ∧ SqX u K H b ys) (YPair (fun i => xs[i]?) (fun i => ys[i]?)) := by
  subst hn
  refine ⟨fun i _ hi q => ?_, fun _ q => ⟨xs, ys, q.1, q.2, by omega⟩, fun i H v H' _ q y => ?_⟩
  · have h1 : i < xs.length := by omega
    have h2 : i < ys.length := by omega
    exact ⟨xs, ys, xs[i], ys[i], q.1, q.2, by simp [h1], by simp [h2]⟩
  · obtain ⟨T, x, z, h1, h2, h3, h4, h5⟩ := y
    exact ⟨T, x, z, h1, h2, h3, h4 xs q.1, h5 ys q.2⟩
theorem fl_zipM (Pv : Nat → L2.St → Hp → Prop) (hx : SqX t K H a xs) (hy : SqX u K H b ys) (h0 : Pv 0 σ H) (hG : ∀ i σ H, i ≤ min xs.length ys.length → Pv i σ H → SqX t K H a xs ∧ SqX u K H b ys)
    (hs : ∀ i x y T σ H H', xs[i]? = some x → ys[i]? = some y → Pv i σ H → H T = none → Same H H' → H' T = some (.tup [x, y]) → g (.ref T) σ H' fun σ2 H2 => tb ⟨Pv (i + 1), rt, nx, Pv (i + 1)⟩ σ2 H2) (hd : ∀ σ H, Pv (min xs.length ys.length) σ H → nx σ H) :
    ∃ p q us ws, [V.ref a, .ref b] = [.ref p, .ref q] ∧ SqX t K H p us ∧ SqX u K H q ws ∧ WFor (ItzM t u K p q) g tb nx rt σ H :=
  ⟨a, b, xs, ys, rfl, hx, hy, wfor_it (walk_zipM rfl) Pv h0 hG (fun i v σ H H' hi p ⟨T, x, y, e, nT, e2, h1, h2⟩ => by subst e e2; exact hs i x y T σ H _ h1 h2 p nT (Same.one nT) upd_same) hd⟩
end

end J
namespace J
open PySem PySem.Spec PyProof.Rows L2
local macro_rules | `(tactic| walk_at "cls") => `(tactic| first
  | with_reducible exact Facts.cl_Step
  | with_reducible exact Facts.cl_Get
  | with_reducible exact Facts.cl_Ask
  | with_reducible exact Facts.cl_Cell
  | with_reducible exact Facts.cl_Two
  | with_reducible exact Facts.cl_Put
  | with_reducible exact Facts.cl_Tell
  | with_reducible exact Facts.cl_Store
  | with_reducible exact Facts.cl_Parts
  | with_reducible exact Facts.cl_Order)
local macro_rules | `(tactic| walk_at "na") => `(tactic| first
  | with_reducible exact Facts.na_Get_to
  | with_reducible exact Facts.na_Get_sel
  | with_reducible exact Facts.na_Ask_to
  | with_reducible exact Facts.na_Ask_sel
  | with_reducible exact Facts.na_Cell_to
  | with_reducible exact Facts.na_Cell_source
  | with_reducible exact Facts.na_Two_to
  | with_reducible exact Facts.na_Two_op
  | with_reducible exact Facts.na_Two_one
  | with_reducible exact Facts.na_Two_other
  | with_reducible exact Facts.na_Put_sel
  | with_reducible exact Facts.na_Put_source
  | with_reducible exact Facts.na_Tell_sel
  | with_reducible exact Facts.na_Tell_source
  | with_reducible exact Facts.na_Store_at
  | with_reducible exact Facts.na_Store_source
  | with_reducible exact Facts.na_Parts_rows
  | with_reducible exact Facts.na_Order_parts
  | with_reducible exact Facts.na_Order_order
  | with_reducible exact Facts.na_Order_needed)
local macro_rules | `(tactic| walk_at "ty") => `(tactic| first
  | with_reducible exact ty_int
  | with_reducible exact ty_bl
  | with_reducible exact ty_str
  | with_reducible exact ty_non
  | ((with_reducible refine' ty_lst ?vv); (case vv => walk_at "tr"))
  | ((with_reducible refine' ty_sqT ?vv); (case vv => walk_at "tr"))
  | ((with_reducible refine' ty_dic ?vv); (case vv => walk_at "tr")))
local macro_rules | `(tactic| walk_at "ix") => `(tactic| first | exact at0 | exact at1 | exact at2 | assumption)
local macro_rules | `(tactic| walk_at "size") => `(tactic| first
  | assumption
  | (show _ < sizeLine; rw [sizeLine_eq]; (try simp only [List.length_cons, List.length_nil, List.length_append, List.length_map]); omega)
  | (show _ ≤ sizeLine; rw [sizeLine_eq]; (try simp only [List.length_cons, List.length_nil, List.length_append, List.length_map]); omega))
local macro_rules | `(tactic| walk_at "side") => `(tactic| first
  | assumption
  | ((with_reducible refine cdw ?_ ?_) <;> omega)
  | omega
  | (exact ⟨by omega, by omega⟩)
  | (exact Or.inl ⟨by omega, by omega⟩)
  | (exact Or.inr ⟨by omega, by omega⟩)
  | decide
  | (simp only [List.length_cons, List.length_nil, List.length_append, List.length_map]; omega)
  | (show _ ≤ _; decide))
local macro_rules | `(tactic| walk_at "as") => `(tactic| with_reducible assumption)
local macro_rules | `(tactic| walk_at "tr") => `(tactic| first
  | with_reducible assumption
  | with_reducible exact upd_same
  | ((with_reducible refine' SqL.of ?hh); (case hh => walk_at "as"))
  | ((with_reducible refine' SqT.of ?hh); (case hh => walk_at "as"))
  | ((with_reducible refine' Same.stm ?ee ?gg); (case ee => walk_at "as"); (case gg => walk_at "tr"))
  | ((with_reducible refine' Same.sqT ?ee ?gg); (case ee => walk_at "as"); (case gg => walk_at "tr"))
  | ((with_reducible refine' Same.sqL ?ee ?gg); (case ee => walk_at "as"); (case gg => walk_at "tr"))
  | ((with_reducible refine' Same.at ?ee ?gg); (case ee => walk_at "as"); (case gg => walk_at "tr"))
  | ((with_reducible refine' But.stm ?ee ?ff ?gg); (case ee => walk_at "as"); (case ff => walk_at "ne"); (case gg => walk_at "tr"))
  | ((with_reducible refine' But.tup ?ee ?ff ?gg); (case ee => walk_at "as"); (case ff => walk_at "tr1"); (case gg => walk_at "tr"))
  | ((with_reducible refine' But.sqT ?ee ?ff ?gg); (case ee => walk_at "as"); (case ff => walk_at "tr1"); (case gg => walk_at "tr"))
  | ((with_reducible refine' But.tupL ?ee ?ff ?gg); (case ee => walk_at "as"); (case ff => walk_at "tr1"); (case gg => walk_at "tr"))
  | ((with_reducible refine' But.sqTL ?ee ?ff ?gg); (case ee => walk_at "as"); (case ff => walk_at "tr1"); (case gg => walk_at "tr"))
  | ((with_reducible refine' But.sqL ?ee ?ff ?gg); (case ee => walk_at "as"); (case ff => walk_at "ne"); (case gg => walk_at "tr"))
  | ((with_reducible refine' But.at ?ee ?ff ?gg); (case ee => walk_at "as"); (case ff => walk_at "ne"); (case gg => walk_at "tr")))
local macro_rules | `(tactic| walk_at "ts") => `(tactic| first
  | with_reducible assumption
  | with_reducible exact TS.refl _
  | ((with_reducible refine' TS.trans ?gg (TS.of ?ee)); (case ee => walk_at "as"); (case gg => walk_at "ts"))
  | ((with_reducible refine' TS.trans ?gg (TS.butS ?ee ?ff)); (case ee => walk_at "as"); (case ff => walk_at "tr1"); (case gg => walk_at "ts"))
  | ((with_reducible refine' TS.trans ?gg (TS.butL ?ee ?ff)); (case ee => walk_at "as"); (case ff => walk_at "tr1"); (case gg => walk_at "ts"))
  | ((with_reducible refine' TS.trans ?gg (TS.butI ?ee ?ff)); (case ee => walk_at "as"); (case ff => walk_at "tr1"); (case gg => walk_at "ts")))
local macro_rules | `(tactic| walk_at "sm") => `(tactic| first
  | with_reducible assumption
  | with_reducible exact Same.refl _
  | ((with_reducible refine' Same.trans ?gg ?ee); (case ee => walk_at "as"); (case gg => walk_at "sm"))
  | ((with_reducible refine' But.new ?gg ?nn ?ee); (case ee => walk_at "as"); (case nn => walk_at "fr"); (case gg => walk_at "sm")))
local macro_rules | `(tactic| walk_at "fr") => `(tactic| first
  | with_reducible assumption
  | ((with_reducible refine' Same.back ?ee ?nn); (case nn => walk_at "as"); (case ee => walk_at "sm"))
  | ((with_reducible refine' But.back ?ee ?ff ?nn); (case nn => walk_at "as"); (case ff => walk_at "ne0"); (case ee => walk_at "bu")))
local macro_rules | `(tactic| walk_at "bu") => `(tactic| first
  | with_reducible assumption
  | with_reducible exact But.refl _ _
  | ((with_reducible refine' But.trans ?gg ?ee); (case ee => walk_at "as"); (case gg => walk_at "bu"))
  | ((with_reducible refine' But.trans ?gg (But.of ?ee)); (case ee => walk_at "as"); (case gg => walk_at "bu"))
  | ((with_reducible refine' But.new2 ?gg ?nn ?ee); (case ee => walk_at "as"); (case nn => walk_at "frB"); (case gg => walk_at "bu")))
local macro_rules | `(tactic| walk_at "frB") => `(tactic| first
  | with_reducible assumption
  | ((with_reducible refine' Same.back ?ee ?nn); (case nn => walk_at "as"); (case ee => walk_at "sm"))
  | ((with_reducible refine' But.back' ?ee ?ff ?nn); (case nn => walk_at "as"); (case ee => walk_at "bu"); (case ff => walk_at "tr1")))
local macro_rules | `(tactic| walk_at "tr1") => `(tactic| first
  | with_reducible assumption
  | ((with_reducible refine' Same.stm ?ee ?gg); (case ee => walk_at "as"); (case gg => walk_at "tr1"))
  | ((with_reducible refine' Same.at ?ee ?gg); (case ee => walk_at "as"); (case gg => walk_at "tr1"))
  | ((with_reducible refine' But.at ?ee ?ff ?gg); (case ee => walk_at "as"); (case ff => walk_at "ne0"); (case gg => walk_at "tr1"))
  | ((with_reducible refine' But.stm ?ee ?ff ?gg); (case ee => walk_at "as"); (case ff => walk_at "ne0"); (case gg => walk_at "tr1")))
local macro_rules | `(tactic| walk_at "ne0") => `(tactic| first
  | with_reducible assumption
  | (with_reducible apply Ne.symm; with_reducible assumption))
local macro_rules | `(tactic| walk_at "ne") => `(tactic| first
  | with_reducible assumption
  | (with_reducible apply Ne.symm; with_reducible assumption)
  | ((with_reducible refine' stm_ne ?hh ?nn); (case nn => walk_at "as"); (case hh => walk_at "tr1"))
  | ((with_reducible refine' ne_of_none ?hh ?nn); (case nn => walk_at "as"); (case hh => walk_at "tr1"))
  | ((with_reducible apply Ne.symm); (with_reducible refine' ne_of_none ?hh ?nn); (case nn => walk_at "as"); (case hh => walk_at "tr1")))
local macro_rules | `(tactic| walk_at "v") => `(tactic| first
  | with_reducible refine w_seq ?_
  | ((with_reducible refine' w_var ?vv ?_); (case vv => exact rfl))
  | with_reducible refine w_c ?_
  | with_reducible refine w_op ?_
  | with_reducible refine w_asg ?_
  | with_reducible refine w_gName ?_
  | with_reducible refine w_ret ?_
  | with_reducible refine w_ifS ?_
  | with_reducible refine w_drop ?_
  | with_reducible refine w_next ?_
  | with_reducible refine w_cons ?_
  | with_reducible refine w_nil ?_
  | with_reducible refine w_call ?_
  | with_reducible refine w_cb ?_
  | with_reducible refine w_rI0 ?_
  | with_reducible refine w_addI ?_
  | with_reducible refine w_eqI ?_
  | with_reducible refine w_neI ?_
  | with_reducible refine w_eqS ?_
  | with_reducible refine w_neS ?_
  | with_reducible refine w_eqB ?_
  | with_reducible refine w_neB ?_
  | with_reducible refine w_chain ?_
  | with_reducible refine w_test ?_
  | with_reducible refine w_tB ?_
  | with_reducible refine w_bl ?_
  | ((with_reducible refine' w_mulI ?vv ?_); (case vv => walk_at "side"))
  | ((with_reducible refine' w_rI ?vv ?_); (case vv => walk_at "side"))
  | with_reducible refine w_int1 ?_
  | with_reducible refine w_int1b ?_
  | with_reducible refine w_tup ?_
  | with_reducible refine w_lst ?_
  | with_reducible refine w_un ?_
  | with_reducible refine w_rU ?_
  | with_reducible refine w_not ?_
  | with_reducible refine w_notV ?_
  | with_reducible refine w_ifE ?_
  | with_reducible refine w_nT ?_
  | with_reducible refine w_nF ?_
  | with_reducible refine iteT ?_
  | with_reducible refine iteF ?_
  | ((with_reducible refine' w_ixT ?vv ?ww ?_); (case vv => walk_at "tr"); (case ww => walk_at "ix"))
  | ((with_reducible refine' w_ixL ?vv ?ww ?_); (case vv => walk_at "tr"); (case ww => walk_at "ix"))
  | with_reducible refine w_gSub ?_
  | ((with_reducible refine' w_setL ?vv ?ww ?_); (case vv => walk_at "tr"); (case ww => first | rfl | decide | assumption))
  | ((with_reducible refine' w_lenL ?vv ?_); (case vv => walk_at "tr"))
  | ((with_reducible refine' w_lenT ?vv ?_); (case vv => walk_at "tr"))
  | with_reducible refine w_max2 ?_
  | with_reducible refine w_max3 ?_
  | with_reducible refine w_din ?_
  | with_reducible refine w_dnotin ?_
  | with_reducible refine w_dput ?_
  | with_reducible refine w_min2 ?_
  | with_reducible refine w_bm ?_
  | with_reducible refine w_bm0 ?_
  | ((with_reducible refine' w_tyL ?vv ?_); (case vv => walk_at "tr"))
  | ((with_reducible refine' w_append ?vv ?ww ?_); (case vv => walk_at "tr"); (case ww => walk_at "size"))
  | ((with_reducible refine' w_size ?vv ?_); (case vv => walk_at "size"))
  | with_reducible refine w_forL ?_
  | with_reducible refine w_forT ?_
  | with_reducible refine w_forR1 ?_
  | with_reducible refine w_forR2 ?_
  | with_reducible refine w_lcL ?_
  | with_reducible refine w_lcT ?_
  | with_reducible refine w_lcR1 ?_
  | with_reducible refine w_yes ?_
  | with_reducible refine w_sl ?_
  | with_reducible refine w_noPart ?_
  | with_reducible refine w_part ?_
  | with_reducible refine w_int ?_
  | ((with_reducible refine' w_slL ?vv ?_); (case vv => walk_at "tr"))
  | ((with_reducible refine' w_seqL ?vv ?ww ?_); (case vv => walk_at "tr"); (case ww => rfl))
  | ((with_reducible refine' w_seqT ?vv ?ww ?_); (case vv => walk_at "tr"); (case ww => rfl))
  | with_reducible refine w_gNil ?_
  | with_reducible refine w_gCons ?_
  | with_reducible refine w_forZ ?_
  | with_reducible refine w_forM ?_
  | with_reducible refine w_forE ?_
  | with_reducible refine w_forV ?_
  | with_reducible refine w_lcZ ?_
  | with_reducible refine w_lcE ?_
  | ((with_reducible refine' w_isi (b := true) ?vv ?ww ?_); (case vv => walk_at "ty"); (case ww => decide +kernel))
  | ((with_reducible refine' w_isi (b := false) ?vv ?ww ?_); (case vv => walk_at "ty"); (case ww => decide +kernel))
  | with_reducible refine w_revL ?_
  | with_reducible refine w_pairN ?_
  | with_reducible refine w_pairC ?_
  | with_reducible refine w_dget ?_
  | with_reducible refine w_met ?_
  | ((with_reducible refine' w_metAt ?vv ?ww ?_); (case vv => walk_at "tr"); (case ww => rfl))
  | with_reducible refine w_mkI ?_
  | with_reducible refine w_fld ?_
  | ((with_reducible refine' w_fldAt ?vv ?cc ?nn ?ww ?_); (case vv => walk_at "tr"); (case cc => walk_at "cls"); (case nn => walk_at "na"); (case ww => rfl))
  | with_reducible refine w_sfld ?_
  | ((with_reducible refine' w_sfldAt ?vv ?cc ?nn ?ll ?ee ?_); (case vv => walk_at "tr"); (case cc => walk_at "cls"); (case nn => walk_at "na"); (case ll => simp); (case ee => rfl))
  | ((with_reducible refine' w_tupL ?vv ?_); (case vv => walk_at "tr"))
  | ((with_reducible refine' w_tupT ?vv ?_); (case vv => walk_at "tr"))
  | ((with_reducible refine' w_listL ?vv ?_); (case vv => walk_at "tr"))
  | ((with_reducible refine' w_listT ?vv ?_); (case vv => walk_at "tr"))
  | with_reducible refine w_tyS ?_
  | with_reducible refine w_retN ?_
  | with_reducible refine w_break ?_
  | with_reducible refine w_cont ?_)
local macro_rules | `(tactic| walk_at "w") => `(tactic| first
  | walk_at "v"
  | with_reducible refine w_or ?_
  | with_reducible refine w_and ?_
  | with_reducible refine w_andV ?_
  | with_reducible refine w_orV ?_)
local macro_rules | `(tactic| walk_at "wd") => `(tactic| first
  | walk_at "w"
  | ((with_reducible refine' w_decT ?vv ?_); (case vv => decide +kernel))
  | ((with_reducible refine' w_decF ?vv ?_); (case vv => decide +kernel)))
local macro_rules | `(tactic| walk_at "tz") => `(tactic| (intro S z; (repeat walk_at "w"); exact z))
local macro_rules | `(tactic| walk_at "wf") => `(tactic| first
  | walk_at "wd"
  | ((with_reducible refine' w_decF ?vv ?_); (case vv => with_reducible assumption)))
/-! ### expressions, sets, parts: plain -/
def selD (k : Str) (n : Int) : PyData := .tuple [.str k, .int n]
inductive Exp where
  | num (n : Int)
  | fld (n : Int)
  | plc (k : Str) (n : Int)
  | mrk (k : Str) (n : Int)
  | cell (a : Exp)
  | two (o : Str) (a b : Exp)
def Exp.d : Exp → PyData
  | .num n => .tuple [.str "number", .int n]
  | .fld n => .tuple [.str "field", .int n]
  | .plc k n => .tuple [.str "place", selD k n]
  | .mrk k n => .tuple [.str "mark", selD k n]
  | .cell a => .tuple [.str "cell", a.d]
  | .two o a b => .tuple [.str o, a.d, b.d]
def Exp.dep : Exp → Nat
  | .cell a => a.dep + 1
  | .two _ a b => max a.dep b.dep + 1
  | _ => 1
def OpS (o : Str) : Prop := o = "+" ∨ o = "-" ∨ o = "&" ∨ o = "|" ∨ o = "^" ∨ o = "<<" ∨ o = ">>" ∨ o = "<" ∨ o = "="
def SelS (k : Str) : Prop := k = "is" ∨ k = "by"
theorem OpS.ok {o : Str} (h : OpS o) : PyData.strOk o = true := by
  rcases h with rfl | rfl | rfl | rfl | rfl | rfl | rfl | rfl | rfl <;> decide +kernel
theorem SelS.ok {o : Str} (h : SelS o) : PyData.strOk o = true := by
  rcases h with rfl | rfl <;> decide +kernel
theorem OpS.ne {o : Str} (h : OpS o) : o ≠ "number" ∧ o ≠ "field" ∧ o ≠ "place" ∧ o ≠ "mark" ∧ o ≠ "cell" := by
  rcases h with rfl | rfl | rfl | rfl | rfl | rfl | rfl | rfl | rfl <;> decide +kernel
def Exp.good : Exp → Prop
  | .plc k _ => SelS k
  | .mrk k _ => SelS k
  | .cell a => a.good
  | .two o a b => OpS o ∧ a.good ∧ b.good
  | _ => True
def OkE (n : Nat) (e : Exp) : Prop := e.dep ≤ n ∧ e.good
theorem OkE.mono {m n : Nat} {e : Exp} (h : OkE m e) (l : m ≤ n) : OkE n e := ⟨Nat.le_trans h.1 l, h.2⟩
theorem Exp.dep_pos : ∀ e : Exp, 1 ≤ e.dep
  | .num _ | .fld _ | .plc _ _ | .mrk _ _ => Nat.le_refl 1
  | .cell _ | .two _ _ _ => Nat.succ_le_succ (Nat.zero_le _)
theorem okE_0 {e : Exp} (h : OkE 0 e) : False := by have := e.dep_pos; have := h.1; omega
theorem okE_cell {n : Nat} {a : Exp} (h : OkE (n + 1) (.cell a)) : OkE n a := ⟨Nat.le_of_succ_le_succ h.1, h.2⟩
theorem okE_two {n : Nat} {o : Str} {a b : Exp} (h : OkE (n + 1) (.two o a b)) : OpS o ∧ OkE n a ∧ OkE n b := by
  obtain ⟨h1, h2, h3, h4⟩ := h
  have h5 : max a.dep b.dep ≤ n := Nat.le_of_succ_le_succ h1
  exact ⟨h2, ⟨by omega, h3⟩, by omega, h4⟩
theorem tupD_sel (k : Str) (n : Int) : tupD (selD k n) = true := by simp [selD, tupD, tupAll]
theorem Exp.tup : ∀ e : Exp, tupD e.d = true
  | .num _ => by simp [Exp.d, tupD, tupAll]
  | .fld _ => by simp [Exp.d, tupD, tupAll]
  | .plc _ _ => by simp [Exp.d, tupD, tupAll, tupD_sel]
  | .mrk _ _ => by simp [Exp.d, tupD, tupAll, tupD_sel]
  | .cell a => by simp [Exp.d, tupD, tupAll, Exp.tup a]
  | .two _ a b => by simp [Exp.d, tupD, tupAll, Exp.tup a, Exp.tup b]
theorem Exp.cln : ∀ {e : Exp}, e.good → clean e.d = true
  | .num _, _ => by
    simp only [Exp.d, clean, cleanAll]
    decide +kernel
  | .fld _, _ => by
    simp only [Exp.d, clean, cleanAll]
    decide +kernel
  | .plc _ _, h => by
    have := SelS.ok h
    simp only [Exp.d, selD, clean, cleanAll, this]
    decide +kernel
  | .mrk _ _, h => by
    have := SelS.ok h
    simp only [Exp.d, selD, clean, cleanAll, this]
    decide +kernel
  | .cell a, h => by
    have := Exp.cln (e := a) h
    simp only [Exp.d, clean, cleanAll, this]
    decide +kernel
  | .two _ a b, h => by
    have := Exp.cln (e := a) h.2.1
    have := Exp.cln (e := b) h.2.2
    have := h.1.ok
    simp only [Exp.d, clean, cleanAll, *]
    decide +kernel
theorem Exp.depth : ∀ e : Exp, e.d.depth ≤ e.dep + 1
  | .num _ | .fld _ | .plc _ _ | .mrk _ _ => by simp [Exp.d, selD, PyData.depth, PyData.depthAll, Exp.dep]
  | .cell a => by
    have := Exp.depth a
    simp only [Exp.d, PyData.depth, PyData.depthAll, Exp.dep]
    omega
  | .two _ a b => by
    have := Exp.depth a
    have := Exp.depth b
    simp only [Exp.d, PyData.depth, PyData.depthAll, Exp.dep]
    omega
/-- sets -/
inductive SetE where
  | cell (a b : Exp)
  | sel (m : Bool) (k : Str) (n : Int) (e : Exp)
def SetE.d : SetE → PyData
  | .cell a b => .tuple [.str "cell", a.d, b.d]
  | .sel m k n e => .tuple [.str (if m then "mark" else "place"), selD k n, e.d]
def OkS (n : Nat) : SetE → Prop
  | .cell a b => OkE n a ∧ OkE n b
  | .sel _ k _ e => SelS k ∧ OkE n e
theorem SetE.tup : ∀ s : SetE, tupD s.d = true
  | .cell a b => by simp [SetE.d, tupD, tupAll, a.tup, b.tup]
  | .sel _ _ _ e => by simp [SetE.d, tupD, tupAll, e.tup, tupD_sel]
theorem OkE.cln' {n : Nat} {e : Exp} (h : OkE n e) : clean e.d = true := Exp.cln h.2
theorem SetE.cln {n : Nat} : ∀ {s : SetE}, OkS n s → clean s.d = true
  | .cell a b, h => by
    have := h.1.cln'
    have := h.2.cln'
    simp only [SetE.d, clean, cleanAll, *]
    decide +kernel
  | .sel m k _ e, h => by
    have := h.1.ok
    have := h.2.cln'
    cases m <;> simp only [SetE.d, selD, clean, cleanAll, *] <;> decide +kernel
theorem SetE.depth {n : Nat} : ∀ {s : SetE}, OkS n s → s.d.depth ≤ n + 2
  | .cell a b, h => by
    have := a.depth
    have := b.depth
    have := h.1.1
    have := h.2.1
    simp only [SetE.d, PyData.depth, PyData.depthAll]
    omega
  | .sel m k _ e, h => by
    have := e.depth
    have := h.2.1
    simp only [SetE.d, selD, PyData.depth, PyData.depthAll]
    omega
theorem sets_cmp : ∀ {ss : List SetE}, (∀ s ∈ ss, OkS 4 s) → cleanAll (ss.map SetE.d) = true ∧ PyData.depthAll (ss.map SetE.d) ≤ 6
  | [], _ => by simp [cleanAll, PyData.depthAll]
  | s :: ss, h => by
    obtain ⟨a, b⟩ := sets_cmp (ss := ss) (fun x hx => h x (List.mem_cons_of_mem _ hx))
    have c := h s List.mem_cons_self
    have d := SetE.cln c
    have e := SetE.depth c
    rw [List.map_cons, cleanAll, PyData.depthAll, d, a]
    exact ⟨rfl, by omega⟩
theorem cmpL {ss : List SetE} (h : ∀ s ∈ ss, OkS 4 s) : Cmp (.list (ss.map SetE.d)) := by
  obtain ⟨a, b⟩ := sets_cmp h
  refine ⟨by rw [clean]; exact a, ?_⟩
  rw [PyData.depth]
  omega
def setsD (ss : List SetE) : PyData := .tuple (ss.map SetE.d)
theorem setsD_tup : ∀ ss : List SetE, tupAll (ss.map SetE.d) = true
  | [] => rfl
  | s :: ss => by rw [List.map_cons, tupAll, s.tup, setsD_tup ss]; rfl
/-! rows of items -/
inductive Item : PyData → Prop
  | int (n : Int) : Item (.int n)
  | str {s : Str} (h : PyData.strOk s = true) : Item (.str s)
  | pair {s : Str} (h : PyData.strOk s = true) (n : Int) : Item (.tuple [.str s, .int n])
def Row (d : PyData) : Prop := ∃ xs, d = .tuple xs ∧ ∀ x ∈ xs, Item x
def Rows (ds : List PyData) : Prop := ∀ d ∈ ds, Row d
theorem Item.tup {d : PyData} (h : Item d) : tupD d = true := by cases h <;> simp [tupD, tupAll]
theorem Item.cln {d : PyData} (h : Item d) : clean d = true := by
  cases h with
  | int => simp [clean]
  | str h => rw [clean]; exact h
  | pair h => rw [clean, cleanAll, cleanAll, cleanAll, clean, clean, h]; rfl
theorem Item.dep {d : PyData} (h : Item d) : d.depth ≤ 1 := by
  cases h <;> simp [PyData.depth, PyData.depthAll]
theorem items_all : ∀ {xs : List PyData}, (∀ x ∈ xs, Item x) → tupAll xs = true ∧ cleanAll xs = true ∧ PyData.depthAll xs ≤ 1
  | [], _ => by simp [tupAll, cleanAll, PyData.depthAll]
  | x :: xs, h => by
    obtain ⟨a, b, c⟩ := items_all (xs := xs) (fun y hy => h y (List.mem_cons_of_mem _ hy))
    have i := h x List.mem_cons_self
    refine ⟨by rw [tupAll, i.tup, a]; rfl, by rw [cleanAll, i.cln, b]; rfl, ?_⟩
    rw [PyData.depthAll]
    have := i.dep
    omega
theorem Row.all {d : PyData} (h : Row d) : tupD d = true ∧ clean d = true ∧ d.depth ≤ 2 := by
  obtain ⟨xs, rfl, h⟩ := h
  obtain ⟨a, b, c⟩ := items_all h
  refine ⟨by rw [tupD]; exact a, by rw [clean]; exact b, ?_⟩
  rw [PyData.depth]
  omega
theorem rows_all : ∀ {ds : List PyData}, Rows ds → tupAll ds = true ∧ cleanAll ds = true ∧ PyData.depthAll ds ≤ 2
  | [], _ => by simp [tupAll, cleanAll, PyData.depthAll]
  | x :: xs, h => by
    obtain ⟨a, b, c⟩ := rows_all (ds := xs) (fun y hy => h y (List.mem_cons_of_mem _ hy))
    have i := (h x List.mem_cons_self).all
    refine ⟨by rw [tupAll, i.1, a]; rfl, by rw [cleanAll, i.2.1, b]; rfl, ?_⟩
    rw [PyData.depthAll]
    omega
theorem Rows.cmp {ds : List PyData} (h : Rows ds) : Cmp (.list ds) := by
  obtain ⟨_, b, c⟩ := rows_all h
  refine ⟨by rw [clean]; exact b, ?_⟩
  rw [PyData.depth]
  omega
theorem rows_nil : Rows [] := fun _ h => (List.not_mem_nil h).elim
theorem rows_snoc {ds : List PyData} {d : PyData} (h : Rows ds) (i : Row d) : Rows (ds ++ [d]) := fun x hx => by
  rcases List.mem_append.mp hx with q | q
  · exact h x q
  · rw [List.mem_singleton.mp q]; exact i
/-! parts and roots -/
def Exp.part : Exp → List PyData → PyData × List PyData
  | .num n, ps => (.tuple [.str "number", .int n], ps)
  | .fld n, ps => (.tuple [.str "field", .int n], ps)
  | .plc k n, ps => (.int ps.length, ps ++ [.tuple [.str "get", selD k n]])
  | .mrk k n, ps => (.int ps.length, ps ++ [.tuple [.str "ask", selD k n]])
  | .cell a, ps => (.int (a.part ps).2.length, (a.part ps).2 ++ [.tuple [.str "cell", (a.part ps).1]])
  | .two o a b, ps => (.int (b.part (a.part ps).2).2.length, (b.part (a.part ps).2).2 ++ [.tuple [.str o, (a.part ps).1, (b.part (a.part ps).2).1]])
def Exp.cnt : Exp → Nat
  | .num _ => 0
  | .fld _ => 0
  | .plc _ _ => 1
  | .mrk _ _ => 1
  | .cell a => a.cnt + 1
  | .two _ a b => a.cnt + b.cnt + 1
theorem Exp.part_len : ∀ (e : Exp) (ps : List PyData), (e.part ps).2.length = ps.length + e.cnt
  | .num _, ps => rfl
  | .fld _, ps => rfl
  | .plc _ _, ps => by simp [Exp.part, Exp.cnt]
  | .mrk _ _, ps => by simp [Exp.part, Exp.cnt]
  | .cell a, ps => by simp [Exp.part, Exp.cnt, Exp.part_len a]; omega
  | .two _ a b, ps => by simp [Exp.part, Exp.cnt, Exp.part_len a, Exp.part_len b]; omega
theorem Exp.cnt_le : ∀ e : Exp, e.cnt + 1 ≤ 2 ^ e.dep
  | .num _ | .fld _ | .plc _ _ | .mrk _ _ => by simp [Exp.cnt, Exp.dep]
  | .cell a => by
    have := Exp.cnt_le a
    simp only [Exp.cnt, Exp.dep, Nat.pow_succ]
    have := Nat.two_pow_pos a.dep
    omega
  | .two _ a b => by
    have := Exp.cnt_le a
    have := Exp.cnt_le b
    simp only [Exp.cnt, Exp.dep, Nat.pow_succ]
    have := Nat.pow_le_pow_right (show 0 < 2 by decide) (Nat.le_max_left a.dep b.dep)
    have := Nat.pow_le_pow_right (show 0 < 2 by decide) (Nat.le_max_right a.dep b.dep)
    omega
theorem cnt4 {n : Nat} {e : Exp} (h : OkE n e) (hn : n ≤ 4) : e.cnt ≤ 15 := by
  have := e.cnt_le
  have := Nat.pow_le_pow_right (show 0 < 2 by decide) (Nat.le_trans h.1 hn)
  omega
theorem row_sel {s k : Str} {n : Int} (h : PyData.strOk s = true) (hk : SelS k) : Row (.tuple [.str s, selD k n]) := ⟨_, rfl, fun x hx => by
  simp only [List.mem_cons, List.mem_nil_iff, or_false] at hx
  rcases hx with rfl | rfl
  · exact .str h
  · exact .pair hk.ok n⟩
theorem Exp.part_ok : ∀ (e : Exp) {ps : List PyData}, e.good → Rows ps → Item (e.part ps).1 ∧ Rows (e.part ps).2
  | .num n, ps, _, h => ⟨.pair (by decide +kernel) _, h⟩
  | .fld n, ps, _, h => ⟨.pair (by decide +kernel) _, h⟩
  | .plc k n, ps, g, h => ⟨.int _, rows_snoc h (row_sel (by decide +kernel) g)⟩
  | .mrk k n, ps, g, h => ⟨.int _, rows_snoc h (row_sel (by decide +kernel) g)⟩
  | .cell a, ps, g, h => by
    obtain ⟨i, r⟩ := Exp.part_ok a g h
    refine ⟨.int _, rows_snoc r ⟨_, rfl, fun x hx => ?_⟩⟩
    simp only [List.mem_cons, List.mem_nil_iff, or_false] at hx
    rcases hx with rfl | rfl
    · exact .str (by decide +kernel)
    · exact i
  | .two o a b, ps, g, h => by
    obtain ⟨i, r⟩ := Exp.part_ok a g.2.1 h
    obtain ⟨j, q⟩ := Exp.part_ok b g.2.2 r
    refine ⟨.int _, rows_snoc q ⟨_, rfl, fun x hx => ?_⟩⟩
    simp only [List.mem_cons, List.mem_nil_iff, or_false] at hx
    rcases hx with rfl | rfl | rfl
    · exact .str g.1.ok
    · exact i
    · exact j
/-- one behind the other -/
def parts : List Exp → List PyData → List PyData × List PyData
  | [], ps => ([], ps)
  | e :: es, ps => ((e.part ps).1 :: (parts es (e.part ps).2).1, (parts es (e.part ps).2).2)
theorem parts_snoc : ∀ (es : List Exp) (e : Exp) (ps : List PyData), parts (es ++ [e]) ps = ((parts es ps).1 ++ [(e.part (parts es ps).2).1], (e.part (parts es ps).2).2)
  | [], e, ps => rfl
  | x :: es, e, ps => by
    rw [List.cons_append, parts, parts_snoc es e]
    rfl
def SetE.rests : SetE → List Exp
  | .cell a b => [a, b]
  | .sel _ _ _ e => [e]
def proots : List SetE → List PyData → List PyData × List PyData
  | [], ps => ([], ps)
  | s :: ss, ps => (.tuple (parts s.rests ps).1 :: (proots ss (parts s.rests ps).2).1, (proots ss (parts s.rests ps).2).2)
theorem proots_snoc : ∀ (ss : List SetE) (s : SetE) (ps : List PyData), proots (ss ++ [s]) ps = ((proots ss ps).1 ++ [.tuple (parts s.rests (proots ss ps).2).1], (parts s.rests (proots ss ps).2).2)
  | [], s, ps => rfl
  | x :: ss, s, ps => by
    rw [List.cons_append, proots, proots_snoc ss s]
    rfl
theorem take_snoc {α : Type} {xs : List α} {i : Nat} {x : α} (h : xs[i]? = some x) : xs.take (i + 1) = xs.take i ++ [x] := by
  obtain ⟨hl, rfl⟩ := List.getElem?_eq_some_iff.mp h
  exact List.take_succ_eq_append_getElem hl
theorem parts_ok : ∀ (es : List Exp) {ps : List PyData}, (∀ e ∈ es, e.good) → Rows ps → (∀ x ∈ (parts es ps).1, Item x) ∧ Rows (parts es ps).2
  | [], ps, _, h => ⟨fun _ q => (List.not_mem_nil q).elim, h⟩
  | e :: es, ps, g, h => by
    obtain ⟨i, r⟩ := e.part_ok (g e List.mem_cons_self) h
    obtain ⟨j, q⟩ := parts_ok es (ps := (e.part ps).2) (fun x hx => g x (List.mem_cons_of_mem _ hx)) r
    refine ⟨fun x hx => ?_, q⟩
    rcases List.mem_cons.mp hx with rfl | hx
    · exact i
    · exact j x hx
theorem okS_rests {n : Nat} {s : SetE} (h : OkS n s) : ∀ e ∈ s.rests, OkE n e := by
  cases s with
  | cell a b =>
    intro e he
    simp only [SetE.rests, List.mem_cons, List.mem_nil_iff, or_false] at he
    rcases he with rfl | rfl
    · exact h.1
    · exact h.2
  | sel m k j e =>
    intro x hx
    rw [List.mem_singleton.mp hx]
    exact h.2
theorem proots_ok : ∀ (ss : List SetE) {n : Nat} {ps : List PyData}, (∀ s ∈ ss, OkS n s) → Rows ps → Rows (proots ss ps).1 ∧ Rows (proots ss ps).2
  | [], n, ps, _, h => ⟨rows_nil, h⟩
  | s :: ss, n, ps, g, h => by
    obtain ⟨i, r⟩ := parts_ok s.rests (fun e he => (okS_rests (g s List.mem_cons_self) e he).2) h
    obtain ⟨j, q⟩ := proots_ok ss (ps := (parts s.rests ps).2) (fun x hx => g x (List.mem_cons_of_mem _ hx)) r
    refine ⟨fun x hx => ?_, q⟩
    rcases List.mem_cons.mp hx with rfl | hx
    · exact ⟨_, rfl, i⟩
    · exact j x hx
def cnts : List Exp → Nat
  | [] => 0
  | e :: es => e.cnt + cnts es
theorem parts_len : ∀ (es : List Exp) (ps : List PyData), (parts es ps).2.length = ps.length + cnts es
  | [], ps => rfl
  | e :: es, ps => by rw [parts, parts_len es, e.part_len, cnts]; omega
theorem cnts_le : ∀ (es : List Exp), (∀ e ∈ es, OkE 4 e) → cnts es ≤ 15 * es.length
  | [], _ => Nat.le_refl 0
  | e :: es, h => by
    have := cnts_le es (fun x hx => h x (List.mem_cons_of_mem _ hx))
    have := cnt4 (h e List.mem_cons_self) (Nat.le_refl 4)
    rw [cnts, List.length_cons]
    omega
theorem proots_len : ∀ (ss : List SetE) (ps : List PyData), (∀ s ∈ ss, OkS 4 s) → (proots ss ps).2.length ≤ ps.length + 30 * ss.length ∧ (proots ss ps).1.length = ss.length
  | [], ps, _ => ⟨Nat.le_refl _, rfl⟩
  | s :: ss, ps, h => by
    obtain ⟨a, b⟩ := proots_len ss (parts s.rests ps).2 (fun x hx => h x (List.mem_cons_of_mem _ hx))
    have c := cnts_le s.rests (okS_rests (h s List.mem_cons_self))
    have d : s.rests.length ≤ 2 := by cases s <;> simp [SetE.rests]
    rw [parts_len] at a
    refine ⟨?_, ?_⟩
    · rw [proots, List.length_cons]
      show (proots ss (parts s.rests ps).2).2.length ≤ _
      omega
    · rw [proots, List.length_cons, List.length_cons]
      show (proots ss (parts s.rests ps).2).1.length + 1 = _
      omega

end J
namespace J
open PySem PySem.Spec PyProof.Rows L2
--plain
/-! ### orders of parts: how many are held -/
def Exp.need : Exp → Nat
  | .num _ => 0
  | .fld _ => 0
  | .plc _ _ => 1
  | .mrk _ _ => 1
  | .cell a => max 1 a.need
  | .two _ a b => if a.need = b.need ∧ 0 < a.need then a.need + 1 else max 1 (max a.need b.need)
theorem need_cnt : ∀ e : Exp, 0 < e.need ↔ 0 < e.cnt
  | .num _ | .fld _ => by simp [Exp.need, Exp.cnt]
  | .plc _ _ | .mrk _ _ => by simp [Exp.need, Exp.cnt]
  | .cell a => by simp [Exp.need, Exp.cnt]; omega
  | .two _ a b => by
    simp only [Exp.need, Exp.cnt]
    by_cases h : a.need = b.need ∧ 0 < a.need
    · rw [if_pos h]; omega
    · rw [if_neg h]; omega
/-- the root's number, if there is one -/
def Exp.rt (e : Exp) (b : Int) : List Int := if e.cnt = 0 then [] else [b + e.cnt - 1]
/-- own parts, part by part -/
def Exp.own : Exp → Int → List (List Int)
  | .num _, _ => []
  | .fld _, _ => []
  | .plc _ _, _ => [[]]
  | .mrk _ _, _ => [[]]
  | .cell a, b => a.own b ++ [a.rt b]
  | .two _ a c, b => a.own b ++ c.own (b + a.cnt) ++ [a.rt b ++ c.rt (b + a.cnt)]
theorem own_len : ∀ (e : Exp) (b : Int), (e.own b).length = e.cnt
  | .num _, _ | .fld _, _ | .plc _ _, _ | .mrk _ _, _ => rfl
  | .cell a, b => by simp [Exp.own, Exp.cnt, own_len a]
  | .two _ a c, b => by simp [Exp.own, Exp.cnt, own_len a, own_len c]; omega
/-- own tells what the parts from b on have -/
def Tr (own : Int → List Int) (e : Exp) (b : Int) : Prop := ∀ (i : Nat) (l : List Int), (e.own b)[i]? = some l → own (b + i) = l
theorem tr_cell {own : Int → List Int} {a : Exp} {b : Int} (h : Tr own (.cell a) b) : Tr own a b ∧ own (b + a.cnt) = a.rt b := by
  refine ⟨fun i l hi => h i l ?_, h a.cnt _ ?_⟩
  · rw [Exp.own, List.getElem?_append_left (List.getElem?_eq_some_iff.mp hi).1]; exact hi
  · rw [Exp.own, List.getElem?_append_right (by rw [own_len]; exact Nat.le_refl _), own_len, Nat.sub_self]; rfl
theorem tr_two {own : Int → List Int} {o : Str} {a c : Exp} {b : Int} (h : Tr own (.two o a c) b) : Tr own a b ∧ Tr own c (b + a.cnt) ∧ own (b + a.cnt + c.cnt) = a.rt b ++ c.rt (b + a.cnt) := by
  refine ⟨fun i l hi => h i l ?_, fun i l hi => ?_, ?_⟩
  · have := (List.getElem?_eq_some_iff.mp hi).1
    rw [Exp.own, List.append_assoc, List.getElem?_append_left this]; exact hi
  · have hl := (List.getElem?_eq_some_iff.mp hi).1
    have := h (a.cnt + i) l (by
      rw [Exp.own, List.append_assoc, List.getElem?_append_right (by rw [own_len]; omega), own_len, Nat.add_sub_cancel_left, List.getElem?_append_left hl]; exact hi)
    rw [← this]; congr 1; omega
  · have := h (a.cnt + c.cnt) (a.rt b ++ c.rt (b + a.cnt)) (by
      rw [Exp.own, List.getElem?_append_right (by rw [List.length_append, own_len, own_len]; exact Nat.le_refl _), List.length_append, own_len, own_len, Nat.sub_self]; rfl)
    rw [← this]; congr 1; omega
theorem rt_mem {e : Exp} {b y : Int} (h : y ∈ e.rt b) : 0 < e.cnt ∧ y = b + e.cnt - 1 := by
  unfold Exp.rt at h
  by_cases z : e.cnt = 0
  · rw [if_pos z] at h; exact (List.not_mem_nil h).elim
  · rw [if_neg z, List.mem_singleton] at h
    exact ⟨by omega, h⟩
theorem own_sub {own : Int → List Int} : ∀ (e : Exp) (b : Int), Tr own e b → ∀ x, b ≤ x → x < b + e.cnt → ∀ y ∈ own x, b ≤ y ∧ y < x
  | .num _, b, _, x, h1, h2, y, _ => by simp [Exp.cnt] at h2; omega
  | .fld _, b, _, x, h1, h2, y, _ => by simp [Exp.cnt] at h2; omega
  | .plc _ _, b, t, x, h1, h2, y, hy => by
    have e : x = b + (0 : Nat) := by simp [Exp.cnt] at h2; omega
    rw [e, t 0 [] rfl] at hy
    exact (List.not_mem_nil hy).elim
  | .mrk _ _, b, t, x, h1, h2, y, hy => by
    have e : x = b + (0 : Nat) := by simp [Exp.cnt] at h2; omega
    rw [e, t 0 [] rfl] at hy
    exact (List.not_mem_nil hy).elim
  | .cell a, b, t, x, h1, h2, y, hy => by
    obtain ⟨ta, tr⟩ := tr_cell t
    simp only [Exp.cnt] at h2
    by_cases z : x < b + a.cnt
    · exact own_sub a b ta x h1 z y hy
    · have e : x = b + a.cnt := by omega
      rw [e, tr] at hy
      have := rt_mem hy
      omega
  | .two o a c, b, t, x, h1, h2, y, hy => by
    obtain ⟨ta, tc, tr⟩ := tr_two t
    simp only [Exp.cnt] at h2
    by_cases z : x < b + a.cnt
    · exact own_sub a b ta x h1 z y hy
    · by_cases z2 : x < b + a.cnt + c.cnt
      · have := own_sub c (b + a.cnt) tc x (by omega) z2 y hy
        omega
      · have e : x = b + a.cnt + c.cnt := by omega
        rw [e, tr] at hy
        rcases List.mem_append.mp hy with g | g
        · have := rt_mem g
          omega
        · have := rt_mem g
          omega
/-- an order, the last one first -/
def Val (own : Int → List Int) : List Int → Prop
  | [] => True
  | x :: r => x ∉ r ∧ (∀ y ∈ own x, y ∈ r) ∧ Val own r
def held (own : Int → List Int) : List Int → List Int
  | [] => []
  | x :: r => x :: (held own r).filter fun y => !decide (y ∈ own x)
theorem val_suffix {own : Int → List Int} : ∀ {R S : List Int}, S <:+ R → Val own R → Val own S
  | [], S, h, v => by rw [List.suffix_nil.mp h]; trivial
  | x :: r, S, h, v => by
    rcases List.suffix_cons_iff.mp h with rfl | h
    · exact v
    · exact val_suffix h v.2.2
theorem filter_held {own : Int → List Int} {T : Int → Bool} : ∀ {R : List Int}, (∀ x ∈ R, T x = true → ∀ y ∈ own x, T y = true) → (∀ x ∈ R, T x = false → ∀ y ∈ own x, T y = false) → held own (R.filter T) = (held own R).filter T
  | [], _, _ => rfl
  | x :: r, h1, h2 => by
    have ih := filter_held (R := r) (fun x hx => h1 x (List.mem_cons_of_mem _ hx)) (fun x hx => h2 x (List.mem_cons_of_mem _ hx))
    rw [List.filter_cons, held, List.filter_cons]
    by_cases t : T x = true
    · rw [if_pos t, if_pos t, held, ih, List.filter_filter, List.filter_filter]
      congr 1
      apply List.filter_congr
      intro y _
      cases T y <;> simp
    · rw [if_neg t, if_neg t, ih, List.filter_filter]
      apply List.filter_congr
      intro y _
      cases hy : T y with
      | false => rfl
      | true =>
        have : y ∉ own x := fun g => by
          have := h2 x List.mem_cons_self (by simpa using t) y g
          rw [hy] at this; cases this
        simp [this]
theorem filter_val {own : Int → List Int} {T : Int → Bool} : ∀ {R : List Int}, (∀ x ∈ R, T x = true → ∀ y ∈ own x, T y = true) → Val own R → Val own (R.filter T)
  | [], _, _ => trivial
  | x :: r, h1, v => by
    have ih := filter_val (R := r) (fun x hx => h1 x (List.mem_cons_of_mem _ hx)) v.2.2
    rw [List.filter_cons]
    by_cases t : T x = true
    · rw [if_pos t]
      refine ⟨fun g => v.1 (List.mem_filter.mp g).1, fun y hy => List.mem_filter.mpr ⟨v.2.1 y hy, h1 x List.mem_cons_self t y hy⟩, ih⟩
    · rw [if_neg t]; exact ih
theorem suffix_filter {T : Int → Bool} : ∀ {R S' : List Int}, S' <:+ R.filter T → ∃ S, S <:+ R ∧ S.filter T = S'
  | [], S', h => ⟨[], List.suffix_refl _, (List.suffix_nil.mp h).symm⟩
  | x :: r, S', h => by
    rw [List.filter_cons] at h
    by_cases t : T x = true
    · rw [if_pos t] at h
      rcases List.suffix_cons_iff.mp h with rfl | h
      · exact ⟨x :: r, List.suffix_refl _, by rw [List.filter_cons, if_pos t]⟩
      · obtain ⟨S, h1, h2⟩ := suffix_filter h
        exact ⟨S, h1.trans (List.suffix_cons _ _), h2⟩
    · rw [if_neg t] at h
      obtain ⟨S, h1, h2⟩ := suffix_filter h
      exact ⟨S, h1.trans (List.suffix_cons _ _), h2⟩
theorem held_ne {own : Int → List Int} {R : List Int} (h : R ≠ []) : held own R ≠ [] := by
  cases R with
  | nil => exact h
  | cons x r => exact List.cons_ne_nil _ _
/-- the stretch of a tree -/
def inT (b : Int) (c : Nat) (x : Int) : Bool := decide (b ≤ x ∧ x < b + c)
theorem inT_iff {b : Int} {c : Nat} {x : Int} : inT b c x = true ↔ b ≤ x ∧ x < b + c := decide_eq_true_iff
theorem inT_no {b : Int} {c : Nat} {x : Int} : inT b c x = false ↔ ¬ (b ≤ x ∧ x < b + c) := decide_eq_false_iff_not
theorem val_nodup {own : Int → List Int} : ∀ {R : List Int}, Val own R → R.Nodup
  | [], _ => List.nodup_nil
  | _ :: _, v => List.nodup_cons.mpr ⟨v.1, val_nodup v.2.2⟩
theorem filter_none {T : Int → Bool} {R : List Int} (h : ∀ x ∈ R, T x = false) : R.filter T = [] := List.filter_eq_nil_iff.mpr fun x hx => by rw [h x hx]; decide
/-- the root is the last one -/
theorem root_last {own : Int → List Int} : ∀ (e : Exp) (b : Int) (R : List Int), Tr own e b → Val own R → (∀ x, x ∈ R ↔ b ≤ x ∧ x < b + e.cnt) → 0 < e.cnt → ∃ r, R = (b + e.cnt - 1) :: r := by
  have one : ∀ (b : Int) (R : List Int), (∀ x, x ∈ R ↔ b ≤ x ∧ x < b + 1) → ∃ r, R = b :: r := fun b R h => by
    cases R with
    | nil => exact (List.not_mem_nil ((h b).mpr ⟨Int.le_refl _, by omega⟩)).elim
    | cons x r =>
      have := (h x).mp List.mem_cons_self
      exact ⟨r, by rw [show x = b by omega]⟩
  -- a sub-tree's root stands behind its parent
  have sub : ∀ (a : Exp) (ba root y : Int) (r : List Int), (∀ R, Tr own a ba → Val own R → (∀ x, x ∈ R ↔ ba ≤ x ∧ x < ba + a.cnt) → 0 < a.cnt → ∃ r, R = (ba + a.cnt - 1) :: r) → Tr own a ba → Val own (y :: r) → root ∈ r →
      (∀ x, ba ≤ x ∧ x < ba + a.cnt → x ∈ y :: r) → ba ≤ y ∧ y < ba + a.cnt → ba + a.cnt - 1 ∈ own root → False := fun a ba root y r ih ta v hr all hy ho => by
    have ha : 0 < a.cnt := by omega
    have v2 := filter_val (own := own) (T := inT ba a.cnt) (R := y :: r) (fun x _ hT z hz => by
      have := inT_iff.mp hT
      have := own_sub a ba ta x this.1 this.2 z hz
      exact inT_iff.mpr (by omega)) v
    obtain ⟨r', e⟩ := ih _ ta v2 (fun x => by
      rw [List.mem_filter, inT_iff]
      exact ⟨fun g => g.2, fun g => ⟨all x g, g⟩⟩) ha
    rw [List.filter_cons, if_pos (inT_iff.mpr hy)] at e
    have ey : y = ba + a.cnt - 1 := (List.cons.inj e).1
    -- root's own are behind it
    have key : ∀ (l : List Int), Val own l → root ∈ l → ∀ z ∈ own root, z ∈ l := fun l => by
      induction l with
      | nil => intro _ h; exact (List.not_mem_nil h).elim
      | cons w l ih =>
        intro v h z hz
        rcases List.mem_cons.mp h with rfl | h
        · exact List.mem_cons_of_mem _ (v.2.1 z hz)
        · exact List.mem_cons_of_mem _ (ih v.2.2 h z hz)
    exact v.1 (by rw [ey]; exact key r v.2.2 hr _ ho)
  intro e
  induction e with
  | num _ => intro b R _ _ _ h; exact absurd h (by simp [Exp.cnt])
  | fld _ => intro b R _ _ _ h; exact absurd h (by simp [Exp.cnt])
  | plc _ _ =>
    intro b R _ _ h _
    obtain ⟨r, e⟩ := one b R (fun x => by rw [h x]; simp [Exp.cnt])
    exact ⟨r, by rw [e]; simp [Exp.cnt]⟩
  | mrk _ _ =>
    intro b R _ _ h _
    obtain ⟨r, e⟩ := one b R (fun x => by rw [h x]; simp [Exp.cnt])
    exact ⟨r, by rw [e]; simp [Exp.cnt]⟩
  | cell a ih =>
    intro b R t v h _
    obtain ⟨ta, tr⟩ := tr_cell t
    have e0 : b + ((Exp.cell a).cnt : Int) - 1 = b + a.cnt := by simp [Exp.cnt]; omega
    rw [e0]
    have c0 : ((Exp.cell a).cnt : Int) = a.cnt + 1 := by simp [Exp.cnt]
    rw [c0] at h
    cases R with
    | nil => exact (List.not_mem_nil ((h (b + a.cnt)).mpr (by omega))).elim
    | cons y r =>
      by_cases ey : y = b + a.cnt
      · exact ⟨r, by rw [ey]⟩
      · have hy := (h y).mp List.mem_cons_self
        have hr : b + (a.cnt : Int) ∈ r := by
          have := (h (b + a.cnt)).mpr (by omega)
          rcases List.mem_cons.mp this with g | g
          · exact absurd g.symm ey
          · exact g
        refine (sub a b (b + a.cnt) y r (ih b) ta v hr (fun x g => (h x).mpr (by omega)) (by omega) ?_).elim
        rw [tr]
        unfold Exp.rt
        rw [if_neg (by omega)]
        exact List.mem_singleton.mpr rfl
  | two o a c iha ihc =>
    intro b R t v h _
    obtain ⟨ta, tc, tr⟩ := tr_two t
    have c0 : ((Exp.two o a c).cnt : Int) = a.cnt + c.cnt + 1 := by simp [Exp.cnt]
    have e0 : b + ((Exp.two o a c).cnt : Int) - 1 = b + a.cnt + c.cnt := by omega
    rw [e0]
    rw [c0] at h
    cases R with
    | nil => exact (List.not_mem_nil ((h (b + a.cnt + c.cnt)).mpr (by omega))).elim
    | cons y r =>
      by_cases ey : y = b + a.cnt + c.cnt
      · exact ⟨r, by rw [ey]⟩
      · have hy := (h y).mp List.mem_cons_self
        have hr : b + (a.cnt : Int) + c.cnt ∈ r := by
          have := (h (b + a.cnt + c.cnt)).mpr (by omega)
          rcases List.mem_cons.mp this with g | g
          · exact absurd g.symm ey
          · exact g
        by_cases ya : y < b + a.cnt
        · refine (sub a b (b + a.cnt + c.cnt) y r (iha b) ta v hr (fun x g => (h x).mpr (by omega)) (by omega) ?_).elim
          rw [tr]
          refine List.mem_append_left _ ?_
          unfold Exp.rt
          rw [if_neg (by omega)]
          exact List.mem_singleton.mpr rfl
        · refine (sub c (b + a.cnt) (b + a.cnt + c.cnt) y r (ihc _) tc v hr (fun x g => (h x).mpr (by omega)) (by omega) ?_).elim
          rw [tr]
          refine List.mem_append_right _ ?_
          unfold Exp.rt
          rw [if_neg (by omega)]
          exact List.mem_singleton.mpr rfl
/-- closed stretches -/
def Cl (own : Int → List Int) (T : Int → Bool) (R : List Int) : Prop := (∀ x ∈ R, T x = true → ∀ y ∈ own x, T y = true) ∧ (∀ x ∈ R, T x = false → ∀ y ∈ own x, T y = false)
theorem Cl.suf {own : Int → List Int} {T : Int → Bool} {R S : List Int} (h : Cl own T R) (s : S <:+ R) : Cl own T S := ⟨fun x hx => h.1 x (s.subset hx), fun x hx => h.2 x (s.subset hx)⟩
/-- once begun, at least one is held -/
theorem begun {own : Int → List Int} {T : Int → Bool} {R S S' : List Int} (c : Cl own T R) (h : S <:+ R) (h' : S' <:+ S) (n : 1 ≤ ((held own S').filter T).length) : 1 ≤ ((held own S).filter T).length := by
  rw [← filter_held (c.suf h).1 (c.suf h).2]
  rw [← filter_held (c.suf (h'.trans h)).1 (c.suf (h'.trans h)).2] at n
  have ne : S.filter T ≠ [] := fun z => by
    have e : S'.filter T = [] := by
      rw [List.filter_eq_nil_iff] at z ⊢
      exact fun x hx => z x (h'.subset hx)
    rw [e] at n
    exact absurd n (by simp [held])
  have := List.length_pos_iff.mpr (held_ne (own := own) ne)
  omega
theorem suffix_total {S S' R : List Int} (h : S <:+ R) (h' : S' <:+ R) : S <:+ S' ∨ S' <:+ S := by
  rcases Nat.le_total S.length S'.length with l | l
  · exact .inl (List.suffix_of_suffix_length_le h h' l)
  · exact .inr (List.suffix_of_suffix_length_le h' h l)
/-- two apart -/
theorem two_len {T U : Int → Bool} {l : List Int} (d : ∀ x ∈ l, T x = true → U x = false) : (l.filter T).length + (l.filter U).length ≤ l.length := by
  induction l with
  | nil => simp
  | cons x l ih =>
    have ih := ih (fun y hy => d y (List.mem_cons_of_mem _ hy))
    have dx := d x List.mem_cons_self
    rw [List.filter_cons, List.filter_cons, List.length_cons]
    cases hT : T x with
    | true =>
      rw [dx hT]
      simp only [if_true, Bool.false_eq_true, if_false, List.length_cons]
      omega
    | false =>
      cases U x <;> simp only [if_true, Bool.false_eq_true, if_false, List.length_cons] <;> omega
/-- at some time a tree holds as many as it needs -/
theorem low {own : Int → List Int} : ∀ (e : Exp) (b : Int) (R : List Int), Tr own e b → Val own R → (∀ x, x ∈ R ↔ b ≤ x ∧ x < b + e.cnt) → ∃ S, S <:+ R ∧ e.need ≤ (held own S).length := by
  have any : ∀ (e : Exp) (b : Int) (R : List Int), (∀ x, x ∈ R ↔ b ≤ x ∧ x < b + e.cnt) → 0 < e.cnt → ∃ S, S <:+ R ∧ 1 ≤ (held own S).length := fun e b R h hc => by
    refine ⟨R, List.suffix_refl _, ?_⟩
    have : R ≠ [] := fun z => by
      have := (h b).mpr (by omega)
      rw [z] at this
      exact List.not_mem_nil this
    have := List.length_pos_iff.mpr (held_ne (own := own) this)
    omega
  -- a tree within a row
  have within : ∀ (a : Exp) (ba : Int) (R : List Int), (∀ R, Tr own a ba → Val own R → (∀ x, x ∈ R ↔ ba ≤ x ∧ x < ba + a.cnt) → ∃ S, S <:+ R ∧ a.need ≤ (held own S).length) → Tr own a ba → Val own R → (∀ x, ba ≤ x ∧ x < ba + a.cnt → x ∈ R) →
      Cl own (inT ba a.cnt) R → ∃ S, S <:+ R ∧ a.need ≤ ((held own S).filter (inT ba a.cnt)).length := fun a ba R ih ta v all cl => by
    obtain ⟨S', s', l⟩ := ih (R.filter (inT ba a.cnt)) ta (filter_val cl.1 v) (fun x => by
      rw [List.mem_filter, inT_iff]
      exact ⟨fun g => g.2, fun g => ⟨all x g, g⟩⟩)
    obtain ⟨S, s, rfl⟩ := suffix_filter s'
    exact ⟨S, s, by rw [← filter_held (cl.suf s).1 (cl.suf s).2]; exact l⟩
  intro e
  induction e with
  | num _ => intro b R _ _ _; exact ⟨R, List.suffix_refl _, Nat.zero_le _⟩
  | fld _ => intro b R _ _ _; exact ⟨R, List.suffix_refl _, Nat.zero_le _⟩
  | plc _ _ => intro b R _ _ h; exact any _ b R h (by simp [Exp.cnt])
  | mrk _ _ => intro b R _ _ h; exact any _ b R h (by simp [Exp.cnt])
  | cell a ih =>
    intro b R t v h
    obtain ⟨ta, tr⟩ := tr_cell t
    obtain ⟨r, e⟩ := root_last _ b R t v h (by simp [Exp.cnt])
    have c0 : ((Exp.cell a).cnt : Int) = a.cnt + 1 := by simp [Exp.cnt]
    rw [c0] at h e
    rw [show b + ((a.cnt : Int) + 1) - 1 = b + a.cnt by omega] at e
    subst e
    have hr : ∀ x, x ∈ r ↔ b ≤ x ∧ x < b + a.cnt := fun x => by
      have := h x
      rw [List.mem_cons] at this
      constructor
      · intro g
        have ne : x ≠ b + a.cnt := fun z => v.1 (by rw [← z]; exact g)
        have := this.mp (.inr g)
        omega
      · intro g
        rcases this.mpr (by omega) with q | q
        · omega
        · exact q
    by_cases z : a.need ≤ 1
    · obtain ⟨S, s, l⟩ := any (.cell a) b _ (fun x => by rw [c0]; exact h x) (by simp [Exp.cnt])
      exact ⟨S, s, by simp only [Exp.need]; omega⟩
    · obtain ⟨S, s, l⟩ := ih b r ta v.2.2 hr
      exact ⟨S, s.trans (List.suffix_cons _ _), by simp only [Exp.need]; omega⟩
  | two o a c iha ihc =>
    intro b R t v h
    obtain ⟨ta, tc, tr⟩ := tr_two t
    obtain ⟨r, e⟩ := root_last _ b R t v h (by simp [Exp.cnt])
    have c0 : ((Exp.two o a c).cnt : Int) = a.cnt + c.cnt + 1 := by simp [Exp.cnt]
    rw [c0] at h e
    rw [show b + ((a.cnt : Int) + c.cnt + 1) - 1 = b + a.cnt + c.cnt by omega] at e
    subst e
    have hr : ∀ x, x ∈ r ↔ b ≤ x ∧ x < b + a.cnt + c.cnt := fun x => by
      have := h x
      rw [List.mem_cons] at this
      constructor
      · intro g
        have ne : x ≠ b + a.cnt + c.cnt := fun z => v.1 (by rw [← z]; exact g)
        have := this.mp (.inr g)
        omega
      · intro g
        rcases this.mpr (by omega) with q | q
        · omega
        · exact q
    have cla : Cl own (inT b a.cnt) r := by
      refine ⟨fun x hx hT y hy => ?_, fun x hx hT y hy => ?_⟩
      · have := inT_iff.mp hT
        have := own_sub a b ta x this.1 this.2 y hy
        exact inT_iff.mpr (by omega)
      · have q := (hr x).mp hx
        have := inT_no.mp hT
        have := own_sub c (b + a.cnt) tc x (by omega) (by omega) y hy
        exact inT_no.mpr (by omega)
    have clc : Cl own (inT (b + a.cnt) c.cnt) r := by
      refine ⟨fun x hx hT y hy => ?_, fun x hx hT y hy => ?_⟩
      · have := inT_iff.mp hT
        have := own_sub c (b + a.cnt) tc x this.1 this.2 y hy
        exact inT_iff.mpr (by omega)
      · have q := (hr x).mp hx
        have := inT_no.mp hT
        have := own_sub a b ta x (by omega) (by omega) y hy
        exact inT_no.mpr (by omega)
    obtain ⟨Sa, sa, la⟩ := within a b r (iha b) ta v.2.2 (fun x g => (hr x).mpr (by omega)) cla
    obtain ⟨Sc, sc, lc⟩ := within c (b + a.cnt) r (ihc _) tc v.2.2 (fun x g => (hr x).mpr (by omega)) clc
    have le : ∀ {S : List Int} {T : Int → Bool}, ((held own S).filter T).length ≤ (held own S).length := fun {S T} => List.length_filter_le _ _
    by_cases z : a.need = c.need ∧ 0 < a.need
    · have dis : ∀ (l : List Int), ∀ x ∈ l, inT b a.cnt x = true → inT (b + a.cnt) c.cnt x = false := fun l x _ h => by
        have := inT_iff.mp h
        exact inT_no.mpr (by omega)
      rw [show (Exp.two o a c).need = a.need + 1 by simp only [Exp.need]; rw [if_pos z]]
      rcases suffix_total sa sc with s | s
      · have := begun cla sc s (by omega)
        have := two_len (dis (held own Sc))
        exact ⟨Sc, sc.trans (List.suffix_cons _ _), by omega⟩
      · have := begun clc sa s (by omega)
        have := two_len (dis (held own Sa))
        exact ⟨Sa, sa.trans (List.suffix_cons _ _), by omega⟩
    · rw [show (Exp.two o a c).need = max 1 (max a.need c.need) by simp only [Exp.need]; rw [if_neg z]]
      by_cases z1 : max a.need c.need ≤ 1
      · obtain ⟨S, s, l⟩ := any (.two o a c) b _ (fun x => by rw [c0]; exact h x) (by simp [Exp.cnt])
        exact ⟨S, s, by omega⟩
      · by_cases z2 : c.need ≤ a.need
        · exact ⟨Sa, sa.trans (List.suffix_cons _ _), by have := le (S := Sa) (T := inT b a.cnt); omega⟩
        · exact ⟨Sc, sc.trans (List.suffix_cons _ _), by have := le (S := Sc) (T := inT (b + a.cnt) c.cnt); omega⟩
/-- trees side by side -/
def offs : List Exp → Int → List (Exp × Int)
  | [], _ => []
  | e :: es, b => (e, b) :: offs es (b + e.cnt)
theorem offs_ge : ∀ {es : List Exp} {b : Int} {p : Exp × Int}, p ∈ offs es b → b ≤ p.2 ∧ p.2 + p.1.cnt ≤ b + cnts es
  | [], _, _, h => (List.not_mem_nil h).elim
  | e :: es, b, p, h => by
    rw [cnts]
    rcases List.mem_cons.mp h with rfl | h
    · exact ⟨Int.le_refl _, by show b + (e.cnt : Int) ≤ _; omega⟩
    · have := offs_ge h
      omega
/-- where each number lies -/
theorem offs_in : ∀ {es : List Exp} {b x : Int}, b ≤ x → x < b + cnts es → ∃ p ∈ offs es b, p.2 ≤ x ∧ x < p.2 + p.1.cnt
  | [], b, x, h1, h2 => by rw [cnts] at h2; omega
  | e :: es, b, x, h1, h2 => by
    rw [cnts] at h2
    by_cases z : x < b + e.cnt
    · exact ⟨(e, b), List.mem_cons_self, h1, z⟩
    · obtain ⟨p, hp, q⟩ := offs_in (es := es) (b := b + e.cnt) (x := x) (by omega) (by omega)
      exact ⟨p, List.mem_cons_of_mem _ hp, q⟩
def Apart (p q : Exp × Int) : Prop := p.2 + p.1.cnt ≤ q.2 ∨ q.2 + q.1.cnt ≤ p.2
theorem offs_apart : ∀ {es : List Exp} {b : Int}, (offs es b).Pairwise Apart
  | [], _ => List.Pairwise.nil
  | e :: es, b => List.pairwise_cons.mpr ⟨fun p hp => .inl (offs_ge hp).1, offs_apart⟩
theorem Apart.symm {p q : Exp × Int} (h : Apart p q) : Apart q p := by rcases h with h | h; exact .inr h; exact .inl h
theorem cnt_cut (l : List Int) (p : Exp × Int) (U : Int → Bool) (h : ∀ x, inT p.2 p.1.cnt x = true → U x = true) : (l.filter (inT p.2 p.1.cnt)).length + (l.filter (fun x => U x && !inT p.2 p.1.cnt x)).length ≤ (l.filter U).length := by
  have t := two_len (T := inT p.2 p.1.cnt) (U := fun x => U x && !inT p.2 p.1.cnt x) (l := l.filter U) (fun x _ hx => by rw [hx]; cases U x <;> rfl)
  rw [List.filter_filter, List.filter_filter] at t
  have e1 : l.filter (fun x => inT p.2 p.1.cnt x && U x) = l.filter (inT p.2 p.1.cnt) := List.filter_congr fun x _ => by
    cases hx : inT p.2 p.1.cnt x with
    | false => rfl
    | true => rw [h x hx]; rfl
  have e2 : l.filter (fun x => (U x && !inT p.2 p.1.cnt x) && U x) = l.filter (fun x => U x && !inT p.2 p.1.cnt x) := List.filter_congr fun x _ => by
    cases U x <;> cases inT p.2 p.1.cnt x <;> rfl
  rw [e1, e2] at t
  exact t
theorem sub_cut {p : Exp × Int} {L : List (Exp × Int)} {U : Int → Bool} (hp : ∀ q ∈ L, Apart p q) (hU : ∀ q ∈ L, ∀ x, inT q.2 q.1.cnt x = true → U x = true) : ∀ q ∈ L, ∀ x, inT q.2 q.1.cnt x = true → (U x && !inT p.2 p.1.cnt x) = true := fun q hq x hx => by
  have a := inT_iff.mp hx
  have b : inT p.2 p.1.cnt x = false := inT_no.mpr (by rcases hp q hq with z | z <;> omega)
  rw [b, hU q hq x hx]; rfl
theorem cnt_all (l : List Int) : ∀ (L : List (Exp × Int)), L.Pairwise Apart → (∀ q ∈ L, 1 ≤ (l.filter (inT q.2 q.1.cnt)).length) → ∀ U : Int → Bool, (∀ p ∈ L, ∀ x, inT p.2 p.1.cnt x = true → U x = true) → L.length ≤ (l.filter U).length
  | [], _, _, U, _ => Nat.zero_le _
  | p :: L, hp, h1, U, hU => by
    obtain ⟨hp1, hp2⟩ := List.pairwise_cons.mp hp
    have i := cnt_all l L hp2 (fun q hq => h1 q (List.mem_cons_of_mem _ hq)) (fun x => U x && !inT p.2 p.1.cnt x) (sub_cut hp1 fun q hq => hU q (List.mem_cons_of_mem _ hq))
    have t := cnt_cut l p U (hU p List.mem_cons_self)
    have := h1 p List.mem_cons_self
    rw [List.length_cons]; omega
theorem cnt_one (l : List Int) (m : Nat) : ∀ (L : List (Exp × Int)), L.Pairwise Apart → (∀ q ∈ L, 1 ≤ (l.filter (inT q.2 q.1.cnt)).length) → (∃ p ∈ L, m ≤ (l.filter (inT p.2 p.1.cnt)).length) → ∀ U : Int → Bool, (∀ p ∈ L, ∀ x, inT p.2 p.1.cnt x = true → U x = true) → m + L.length ≤ (l.filter U).length + 1
  | [], _, _, ⟨_, h, _⟩, U, _ => (List.not_mem_nil h).elim
  | p :: L, hp, h1, ⟨q, hq, lq⟩, U, hU => by
    obtain ⟨hp1, hp2⟩ := List.pairwise_cons.mp hp
    have h1' := fun q hq => h1 q (List.mem_cons_of_mem _ hq)
    have hU' := sub_cut hp1 fun q hq => hU q (List.mem_cons_of_mem _ hq)
    have t := cnt_cut l p U (hU p List.mem_cons_self)
    have := h1 p List.mem_cons_self
    rcases List.mem_cons.mp hq with rfl | hq
    · have i := cnt_all l L hp2 h1' _ hU'
      rw [List.length_cons]; omega
    · have i := cnt_one l m L hp2 h1' ⟨q, hq, lq⟩ _ hU'
      rw [List.length_cons]; omega
/-- the lower bound: trees that each need m at least -/
theorem low_all {own : Int → List Int} {R : List Int} (v : Val own R) (m : Nat) (hm : 1 ≤ m) : ∀ (L : List (Exp × Int)), L ≠ [] → L.Pairwise Apart → (∀ p ∈ L, m ≤ p.1.need ∧ Tr own p.1 p.2 ∧ (∀ x, p.2 ≤ x ∧ x < p.2 + p.1.cnt → x ∈ R) ∧ Cl own (inT p.2 p.1.cnt) R) →
    ∃ S, S <:+ R ∧ m + L.length ≤ (held own S).length + 1 := by
  have key : ∀ (L : List (Exp × Int)), L ≠ [] → (∀ p ∈ L, m ≤ p.1.need ∧ Tr own p.1 p.2 ∧ (∀ x, p.2 ≤ x ∧ x < p.2 + p.1.cnt → x ∈ R) ∧ Cl own (inT p.2 p.1.cnt) R) →
      ∃ S, S <:+ R ∧ (∃ p ∈ L, m ≤ ((held own S).filter (inT p.2 p.1.cnt)).length) ∧ ∀ p ∈ L, 1 ≤ ((held own S).filter (inT p.2 p.1.cnt)).length := by
    intro L
    induction L with
    | nil => intro h; exact (h rfl).elim
    | cons p L ih =>
      intro _ h
      obtain ⟨hn, ht, ha, hc⟩ := h p List.mem_cons_self
      obtain ⟨Sp, sp, lp⟩ : ∃ S, S <:+ R ∧ p.1.need ≤ ((held own S).filter (inT p.2 p.1.cnt)).length := by
        obtain ⟨S', s', l⟩ := low p.1 p.2 (R.filter (inT p.2 p.1.cnt)) ht (filter_val hc.1 v) (fun x => by
          rw [List.mem_filter, inT_iff]
          exact ⟨fun g => g.2, fun g => ⟨ha x g, g⟩⟩)
        obtain ⟨S, s, rfl⟩ := suffix_filter s'
        exact ⟨S, s, by rw [← filter_held (hc.suf s).1 (hc.suf s).2]; exact l⟩
      cases L with
      | nil =>
        refine ⟨Sp, sp, ⟨p, List.mem_cons_self, by omega⟩, fun q hq => ?_⟩
        rw [List.mem_singleton.mp hq]; omega
      | cons p2 L2 =>
        obtain ⟨S, s, ⟨q, hq, lq⟩, l⟩ := ih (List.cons_ne_nil _ _) (fun q hq => h q (List.mem_cons_of_mem _ hq))
        rcases suffix_total sp s with z | z
        · refine ⟨S, s, ⟨q, List.mem_cons_of_mem _ hq, lq⟩, fun q hq => ?_⟩
          rcases List.mem_cons.mp hq with rfl | hq
          · exact begun hc s z (by omega)
          · exact l q hq
        · refine ⟨Sp, sp, ⟨p, List.mem_cons_self, by omega⟩, fun q hq => ?_⟩
          rcases List.mem_cons.mp hq with rfl | hq
          · omega
          · exact begun (h q (List.mem_cons_of_mem _ hq)).2.2.2 sp z (l q hq)
  intro L ne hp h
  obtain ⟨S, s, g, l⟩ := key L ne h
  have := cnt_one (held own S) m L hp l g (fun _ => true) (fun _ _ _ _ => rfl)
  rw [List.filter_eq_self.mpr (fun _ _ => rfl)] at this
  exact ⟨S, s, this⟩

end J
namespace J
open PySem PySem.Spec PyProof.Rows L2
--plain
/-! ### the own parts, part by part -/
def intD : PyData → Option Int
  | .int n => some n
  | _ => none
def intsD (xs : List PyData) : List Int := xs.filterMap intD
def ownD : PyData → List Int
  | .tuple xs => intsD xs
  | _ => []
def ownsL : List Exp → Int → List (List Int)
  | [], _ => []
  | e :: es, b => e.own b ++ ownsL es (b + e.cnt)
theorem part_own : ∀ (e : Exp) (ps : List PyData), (e.part ps).2.map ownD = ps.map ownD ++ e.own ps.length ∧ intsD [(e.part ps).1] = e.rt ps.length
  | .num _, ps => by simp [Exp.part, Exp.own, Exp.rt, Exp.cnt, intsD, intD]
  | .fld _, ps => by simp [Exp.part, Exp.own, Exp.rt, Exp.cnt, intsD, intD]
  | .plc k n, ps => by simp [Exp.part, Exp.own, Exp.rt, Exp.cnt, intsD, intD, ownD, selD]
  | .mrk k n, ps => by simp [Exp.part, Exp.own, Exp.rt, Exp.cnt, intsD, intD, ownD, selD]
  | .cell a, ps => by
    obtain ⟨h1, h2⟩ := part_own a ps
    have l := a.part_len ps
    constructor
    · rw [Exp.part, Exp.own, List.map_append, h1, List.append_assoc]
      congr 2
      show [intsD [.str "cell", (a.part ps).1]] = _
      rw [← h2]; rfl
    · show [((a.part ps).2.length : Int)] = _
      rw [l, Exp.rt, if_neg (by simp [Exp.cnt])]
      congr 1; simp [Exp.cnt]; omega
  | .two o a c, ps => by
    obtain ⟨h1, h2⟩ := part_own a ps
    obtain ⟨h3, h4⟩ := part_own c (a.part ps).2
    have l := a.part_len ps
    have l2 := c.part_len (a.part ps).2
    have e : ((ps.length + a.cnt : Nat) : Int) = (ps.length : Int) + a.cnt := by omega
    rw [l, e] at h3 h4
    constructor
    · rw [Exp.part, Exp.own, List.map_append, h3, h1]
      simp only [List.append_assoc]
      congr 3
      show [intsD [.str o, (a.part ps).1, (c.part (a.part ps).2).1]] = _
      rw [← h2, ← h4]
      show [intsD ([(a.part ps).1] ++ [(c.part (a.part ps).2).1])] = _
      unfold intsD; rw [List.filterMap_append]
    · show [((c.part (a.part ps).2).2.length : Int)] = _
      rw [l2, l, Exp.rt, if_neg (by simp [Exp.cnt])]
      congr 1; simp [Exp.cnt]; omega
theorem part_rt {e : Exp} (h : 0 < e.cnt) (ps : List PyData) : (e.part ps).1 = .int ((ps.length : Int) + e.cnt - 1) := by
  have h2 := (part_own e ps).2
  unfold Exp.rt at h2
  rw [if_neg (by omega)] at h2
  cases e with
  | num => simp [Exp.cnt] at h
  | fld => simp [Exp.cnt] at h
  | plc k n => simp [Exp.part, Exp.cnt]
  | mrk k n => simp [Exp.part, Exp.cnt]
  | cell a =>
    have l := a.part_len ps
    show PyData.int _ = _
    congr 1; rw [l]; simp [Exp.cnt]; omega
  | two o a c =>
    have l := a.part_len ps
    have l2 := c.part_len (a.part ps).2
    show PyData.int _ = _
    congr 1; rw [l2, l]; simp [Exp.cnt]; omega
theorem ownsL_app : ∀ (es fs : List Exp) (b : Int), ownsL (es ++ fs) b = ownsL es b ++ ownsL fs (b + cnts es)
  | [], fs, b => by simp [ownsL, cnts]
  | e :: es, fs, b => by
    rw [List.cons_append, ownsL, ownsL_app es, ownsL, cnts, List.append_assoc]
    congr 3; omega
theorem ownsL_len : ∀ (es : List Exp) (b : Int), (ownsL es b).length = cnts es
  | [], _ => rfl
  | e :: es, b => by rw [ownsL, List.length_append, own_len, ownsL_len es, cnts]
theorem parts_own : ∀ (es : List Exp) (ps : List PyData), (parts es ps).2.map ownD = ps.map ownD ++ ownsL es ps.length
  | [], ps => by simp [parts, ownsL]
  | e :: es, ps => by
    rw [parts, parts_own es, (part_own e ps).1, ownsL, List.append_assoc, e.part_len]
    congr 3
def restsL (ss : List SetE) : List Exp := ss.flatMap SetE.rests
theorem proots_own : ∀ (ss : List SetE) (ps : List PyData), (proots ss ps).2.map ownD = ps.map ownD ++ ownsL (restsL ss) ps.length
  | [], ps => by simp [proots, restsL, ownsL]
  | s :: ss, ps => by
    have e : restsL (s :: ss) = s.rests ++ restsL ss := List.flatMap_cons
    rw [proots, proots_own ss, parts_own, List.append_assoc, e, ownsL_app, parts_len]
    congr 3
/-- the own parts of the part x -/
def ownF (ss : List SetE) (x : Int) : List Int := if 0 ≤ x then ((proots ss []).2.map ownD).getD x.toNat [] else []
theorem ownF_at {ss : List SetE} {i : Nat} {d : PyData} (h : (proots ss []).2[i]? = some d) : ownF ss i = ownD d := by
  unfold ownF
  rw [if_pos (by omega), List.getD_eq_getElem?_getD, Int.toNat_natCast, List.getElem?_map, h]; rfl
theorem ownsL_tr {es : List Exp} {b : Int} {own : Int → List Int} (h : ∀ (i : Nat) (l : List Int), (ownsL es b)[i]? = some l → own (b + i) = l) : ∀ p ∈ offs es b, Tr own p.1 p.2 := by
  induction es generalizing b with
  | nil => intro p hp; exact (List.not_mem_nil hp).elim
  | cons e es ih =>
    intro p hp
    rcases List.mem_cons.mp hp with rfl | hp
    · intro i l hi
      exact h i l (by rw [ownsL, List.getElem?_append_left (List.getElem?_eq_some_iff.mp hi).1]; exact hi)
    · refine ih (fun i l hi => ?_) p hp
      have := h (e.cnt + i) l (by rw [ownsL, List.getElem?_append_right (by rw [own_len]; omega), own_len, Nat.add_sub_cancel_left]; exact hi)
      rw [← this]; congr 1; omega
theorem ownF_tr (ss : List SetE) : ∀ p ∈ offs (restsL ss) 0, Tr (ownF ss) p.1 p.2 := by
  refine ownsL_tr fun i l hi => ?_
  have e := proots_own ss []
  rw [List.map_nil, List.nil_append] at e
  rw [List.length_nil] at e
  unfold ownF
  rw [if_pos (by omega), e, List.getD_eq_getElem?_getD, Int.zero_add, Int.toNat_natCast]
  show ((ownsL (restsL ss) 0)[i]?).getD [] = l
  rw [hi]; rfl
theorem proots_cnt (ss : List SetE) : (proots ss []).2.length = cnts (restsL ss) := by
  have e := congrArg List.length (proots_own ss [])
  rw [List.length_map, List.map_nil, List.nil_append, ownsL_len] at e
  exact e
/-- each part is used once at most -/
theorem own_once {own : Int → List Int} : ∀ (e : Exp) (b : Int), Tr own e b → (∀ x, b ≤ x → x < b + e.cnt → (own x).Nodup) ∧ ∀ x z y, b ≤ x → x < b + e.cnt → b ≤ z → z < b + e.cnt → y ∈ own x → y ∈ own z → x = z
  | .num _, b, _ => ⟨fun x h1 h2 => by simp [Exp.cnt] at h2; omega, fun x z y h1 h2 => by simp [Exp.cnt] at h2; omega⟩
  | .fld _, b, _ => ⟨fun x h1 h2 => by simp [Exp.cnt] at h2; omega, fun x z y h1 h2 => by simp [Exp.cnt] at h2; omega⟩
  | .plc _ _, b, t => by
    have e0 : own b = [] := by have := t 0 [] rfl; simpa using this
    refine ⟨fun x h1 h2 => ?_, fun x z y h1 h2 h3 h4 _ _ => ?_⟩
    · simp [Exp.cnt] at h2
      rw [show x = b by omega, e0]; exact List.nodup_nil
    · simp [Exp.cnt] at h2 h4; omega
  | .mrk _ _, b, t => by
    have e0 : own b = [] := by have := t 0 [] rfl; simpa using this
    refine ⟨fun x h1 h2 => ?_, fun x z y h1 h2 h3 h4 _ _ => ?_⟩
    · simp [Exp.cnt] at h2
      rw [show x = b by omega, e0]; exact List.nodup_nil
    · simp [Exp.cnt] at h2 h4; omega
  | .cell a, b, t => by
    obtain ⟨ta, tr⟩ := tr_cell t
    obtain ⟨n, u⟩ := own_once a b ta
    have c0 : ((Exp.cell a).cnt : Int) = a.cnt + 1 := by simp [Exp.cnt]
    rw [c0]
    have no : ∀ x y, b ≤ x → x < b + a.cnt → y ∈ own x → y ∈ own (b + a.cnt) → False := fun x y h1 h2 hy hy' => by
      rw [tr] at hy'
      have := rt_mem hy'
      have := own_sub a b ta x h1 h2 y hy
      omega
    refine ⟨fun x h1 h2 => ?_, fun x z y h1 h2 h3 h4 hx hz => ?_⟩
    · by_cases q : x < b + a.cnt
      · exact n x h1 q
      · rw [show x = b + a.cnt by omega, tr]; unfold Exp.rt
        by_cases c : a.cnt = 0 <;> simp [c]
    · by_cases q : x < b + a.cnt
      · by_cases q2 : z < b + a.cnt
        · exact u x z y h1 q h3 q2 hx hz
        · exact (no x y h1 q hx (by rw [show b + a.cnt = z by omega]; exact hz)).elim
      · by_cases q2 : z < b + a.cnt
        · exact (no z y h3 q2 hz (by rw [show b + a.cnt = x by omega]; exact hx)).elim
        · omega
  | .two o a c, b, t => by
    obtain ⟨ta, tc, tr⟩ := tr_two t
    obtain ⟨n, u⟩ := own_once a b ta
    obtain ⟨n2, u2⟩ := own_once c (b + a.cnt) tc
    have c0 : ((Exp.two o a c).cnt : Int) = a.cnt + c.cnt + 1 := by simp [Exp.cnt]
    rw [c0]
    have no : ∀ x y, b ≤ x → x < b + a.cnt + c.cnt → y ∈ own x → y ∈ own (b + a.cnt + c.cnt) → False := fun x y h1 h2 hy hy' => by
      rw [tr] at hy'
      by_cases q : x < b + a.cnt
      · have := own_sub a b ta x h1 q y hy
        rcases List.mem_append.mp hy' with g | g <;> have := rt_mem g <;> omega
      · have := own_sub c (b + a.cnt) tc x (by omega) h2 y hy
        rcases List.mem_append.mp hy' with g | g <;> have := rt_mem g <;> omega
    refine ⟨fun x h1 h2 => ?_, fun x z y h1 h2 h3 h4 hx hz => ?_⟩
    · by_cases q : x < b + a.cnt
      · exact n x h1 q
      · by_cases q2 : x < b + a.cnt + c.cnt
        · exact n2 x (by omega) q2
        · rw [show x = b + a.cnt + c.cnt by omega, tr]
          refine List.nodup_append.mpr ⟨?_, ?_, fun y h1 z h2 => ?_⟩
          · unfold Exp.rt
            by_cases c : a.cnt = 0 <;> simp [c]
          · unfold Exp.rt
            by_cases k : c.cnt = 0 <;> simp [k]
          · have := rt_mem h1
            have := rt_mem h2
            omega
    · have mid : ∀ x z, b ≤ x → x < b + a.cnt + c.cnt → b ≤ z → z < b + a.cnt + c.cnt → y ∈ own x → y ∈ own z → x = z := fun x z h1 h2 h3 h4 hx hz => by
        by_cases q : x < b + a.cnt
        · have := own_sub a b ta x h1 q y hx
          by_cases q2 : z < b + a.cnt
          · exact u x z y h1 q h3 q2 hx hz
          · have := own_sub c (b + a.cnt) tc z (by omega) (by omega) y hz
            omega
        · have := own_sub c (b + a.cnt) tc x (by omega) (by omega) y hx
          by_cases q2 : z < b + a.cnt
          · have := own_sub a b ta z h3 q2 y hz
            omega
          · exact u2 x z y (by omega) (by omega) (by omega) (by omega) hx hz
      by_cases q : x < b + a.cnt + c.cnt
      · by_cases q2 : z < b + a.cnt + c.cnt
        · exact mid x z h1 q h3 q2 hx hz
        · exact (no x y h1 q hx (by rw [show b + a.cnt + c.cnt = z by omega]; exact hz)).elim
      · by_cases q2 : z < b + a.cnt + c.cnt
        · exact (no z y h3 q2 hz (by rw [show b + a.cnt + c.cnt = x by omega]; exact hx)).elim
        · omega
/-- all that is known of the own parts -/
structure OwnOk (own : Int → List Int) (n : Int) : Prop where
  lt : ∀ x, 0 ≤ x → x < n → ∀ y ∈ own x, 0 ≤ y ∧ y < x
  nd : ∀ x, 0 ≤ x → x < n → (own x).Nodup
  once : ∀ x z y, 0 ≤ x → x < n → 0 ≤ z → z < n → y ∈ own x → y ∈ own z → x = z
theorem ownF_ok (ss : List SetE) : OwnOk (ownF ss) (cnts (restsL ss)) := by
  have tr := ownF_tr ss
  refine ⟨fun x h1 h2 y hy => ?_, fun x h1 h2 => ?_, fun x z y h1 h2 h3 h4 hx hz => ?_⟩
  · obtain ⟨p, hp, q1, q2⟩ := offs_in (es := restsL ss) (b := 0) h1 (by omega)
    have := own_sub p.1 p.2 (tr p hp) x q1 q2 y hy
    have := offs_ge hp
    omega
  · obtain ⟨p, hp, q1, q2⟩ := offs_in (es := restsL ss) (b := 0) h1 (by omega)
    exact (own_once p.1 p.2 (tr p hp)).1 x q1 q2
  · obtain ⟨p, hp, q1, q2⟩ := offs_in (es := restsL ss) (b := 0) h1 (by omega)
    obtain ⟨r, hr, q3, q4⟩ := offs_in (es := restsL ss) (b := 0) h3 (by omega)
    have a := own_sub p.1 p.2 (tr p hp) x q1 q2 y hx
    have b := own_sub r.1 r.2 (tr r hr) z q3 q4 y hz
    have e : p = r := by
      refine Classical.byContradiction fun ne => ?_
      have ap : ∀ (L : List (Exp × Int)), L.Pairwise Apart → p ∈ L → r ∈ L → p ≠ r → Apart p r := fun L => by
        induction L with
        | nil => intro _ h; exact (List.not_mem_nil h).elim
        | cons q L ih =>
          intro hp h1 h2 ne
          obtain ⟨a, b⟩ := List.pairwise_cons.mp hp
          rcases List.mem_cons.mp h1 with e1 | h1
          · rcases List.mem_cons.mp h2 with e2 | h2
            · exact (ne (e1.trans e2.symm)).elim
            · rw [e1]; exact a _ h2
          · rcases List.mem_cons.mp h2 with e2 | h2
            · rw [e2]; exact (a _ h1).symm
            · exact ih b h1 h2 ne
      have := ap _ offs_apart hp hr ne
      rcases this with z | z <;> omega
    subst e
    exact (own_once p.1 p.2 (tr p hp)).2 x z y q1 q2 q3 q4 hx hz

end J
namespace J
open PySem PySem.Spec PyProof.Rows L2
--plain
/-! ### orders that are, and that are none -/
def ordB (own : Int → List Int) (n : Int) : List (Option Int) → List Int → Bool
  | [], _ => true
  | none :: _, _ => false
  | some x :: r, seen => decide (0 ≤ x ∧ x ≤ n - 1) && (!decide (x ∈ seen) && ((own x).all (fun y => decide (y ∈ seen)) && ordB own n r (x :: seen)))
theorem ordB_some {own : Int → List Int} {n x : Int} {r : List (Option Int)} {seen : List Int} : ordB own n (some x :: r) seen = (decide (0 ≤ x ∧ x ≤ n - 1) && (!decide (x ∈ seen) && ((own x).all (fun y => decide (y ∈ seen)) && ordB own n r (x :: seen)))) := by rw [ordB]
def isOrdB (own : Int → List Int) (n : Int) (ws : List (Option Int)) : Bool := decide ((ws.length : Int) = n) && ordB own n ws []
theorem ordB_val {own : Int → List Int} {n : Int} : ∀ (ws : List (Option Int)) (seen : List Int), Val own seen → ordB own n ws seen = true → ∃ l : List Int, ws = l.map some ∧ Val own (l.reverse ++ seen) ∧ ∀ x ∈ l, 0 ≤ x ∧ x < n
  | [], seen, v, _ => ⟨[], rfl, v, fun _ h => (List.not_mem_nil h).elim⟩
  | none :: _, _, _, h => by cases h
  | some x :: r, seen, v, h => by
    unfold ordB at h
    simp only [Bool.and_eq_true, decide_eq_true_eq, Bool.not_eq_true', decide_eq_false_iff_not, List.all_eq_true] at h
    obtain ⟨h1, h2, h3, h4⟩ := h
    obtain ⟨l, e, vl, b⟩ := ordB_val r (x :: seen) ⟨h2, h3, v⟩ h4
    refine ⟨x :: l, by rw [e]; rfl, by rw [List.reverse_cons, List.append_assoc]; exact vl, fun y hy => ?_⟩
    rcases List.mem_cons.mp hy with rfl | hy
    · omega
    · exact b y hy
theorem val_app {own : Int → List Int} : ∀ {l m : List Int}, Val own (l ++ m) → Val own m
  | [], _, v => v
  | _ :: _, _, v => val_app v.2.2
theorem val_ordB {own : Int → List Int} {n : Int} : ∀ (l seen : List Int), Val own (l.reverse ++ seen) → (∀ x ∈ l, 0 ≤ x ∧ x < n) → ordB own n (l.map some) seen = true
  | [], _, _, _ => rfl
  | x :: l, seen, v, b => by
    rw [List.reverse_cons, List.append_assoc] at v
    have vx : Val own (x :: seen) := val_app v
    have ih := val_ordB l (x :: seen) v (fun y hy => b y (List.mem_cons_of_mem _ hy))
    have := b x List.mem_cons_self
    rw [List.map_cons]
    unfold ordB
    simp only [Bool.and_eq_true, decide_eq_true_eq, Bool.not_eq_true', decide_eq_false_iff_not, List.all_eq_true]
    exact ⟨by omega, vx.1, vx.2.1, ih⟩
structure Full (own : Int → List Int) (n : Int) (o : List Int) : Prop where
  val : Val own o.reverse
  mem : ∀ x, x ∈ o ↔ 0 ≤ x ∧ x < n
  len : (o.length : Int) = n
theorem Full.ord {own : Int → List Int} {n : Int} {o : List Int} (h : Full own n o) : isOrdB own n (o.map some) = true := by
  unfold isOrdB
  rw [List.length_map, decide_eq_true h.len, Bool.true_and]
  exact val_ordB o [] (by rw [List.append_nil]; exact h.val) (fun x hx => (h.mem x).mp hx)
/-- how many are held -/
theorem filter_one {l : List Int} {a : Int} (n : l.Nodup) (h : a ∈ l) : (l.filter (fun y => !decide (y = a))).length + 1 = l.length := by
  induction l with
  | nil => exact (List.not_mem_nil h).elim
  | cons b l ih =>
    obtain ⟨n1, n2⟩ := List.nodup_cons.mp n
    rw [List.filter_cons, List.length_cons]
    by_cases e : b = a
    · subst e
      rw [decide_eq_true rfl, if_neg (by decide)]
      rw [List.filter_eq_self.mpr]
      intro y hy
      have : y ≠ b := fun z => n1 (by rw [← z]; exact hy)
      simp [this]
    · have ha : a ∈ l := by
        rcases List.mem_cons.mp h with g | g
        · exact absurd g.symm e
        · exact g
      have := ih n2 ha
      rw [decide_eq_false e, if_pos (by decide), List.length_cons]
      omega
theorem filter_cnt : ∀ (o l : List Int), o.Nodup → l.Nodup → (∀ y ∈ o, y ∈ l) → (l.filter (fun y => !decide (y ∈ o))).length + o.length = l.length
  | [], l, _, _, _ => by
    rw [List.filter_eq_self.mpr (fun y _ => by simp)]; rfl
  | a :: o, l, n, m, s => by
    obtain ⟨n1, n2⟩ := List.nodup_cons.mp n
    have ih := filter_cnt o l n2 m (fun y hy => s y (List.mem_cons_of_mem _ hy))
    have e : l.filter (fun y => !decide (y ∈ a :: o)) = (l.filter (fun y => !decide (y ∈ o))).filter (fun y => !decide (y = a)) := by
      rw [List.filter_filter]
      apply List.filter_congr
      intro y _
      by_cases h1 : y = a <;> by_cases h2 : y ∈ o <;> simp [h1, h2]
    have ma : a ∈ l.filter (fun y => !decide (y ∈ o)) := List.mem_filter.mpr ⟨s a List.mem_cons_self, by simp [n1]⟩
    have := filter_one (m.filter _) ma
    rw [e, List.length_cons]
    omega
theorem held_sub {own : Int → List Int} : ∀ {R : List Int} {y : Int}, y ∈ held own R → y ∈ R
  | [], _, h => (List.not_mem_nil h).elim
  | x :: r, y, h => by
    rw [held] at h
    rcases List.mem_cons.mp h with e | h
    · rw [e]; exact List.mem_cons_self
    · exact List.mem_cons_of_mem _ (held_sub (List.mem_filter.mp h).1)
theorem held_nodup {own : Int → List Int} : ∀ {R : List Int}, Val own R → (held own R).Nodup
  | [], _ => List.nodup_nil
  | x :: r, v => by
    rw [held]
    exact List.nodup_cons.mpr ⟨fun h => v.1 (held_sub (List.mem_filter.mp h).1), (held_nodup v.2.2).filter _⟩
theorem held_mem {own : Int → List Int} : ∀ {R : List Int} {y : Int}, y ∈ R → (∀ z ∈ R, y ∉ own z) → y ∈ held own R
  | [], _, h, _ => (List.not_mem_nil h).elim
  | x :: r, y, h, k => by
    rw [held]
    rcases List.mem_cons.mp h with e | h
    · rw [e]; exact List.mem_cons_self
    · exact List.mem_cons_of_mem _ (List.mem_filter.mpr ⟨held_mem h (fun z hz => k z (List.mem_cons_of_mem _ hz)), by simp [k x List.mem_cons_self]⟩)
theorem held_cnt {own : Int → List Int} {n : Int} (k : OwnOk own n) {x : Int} {r : List Int} (v : Val own (x :: r)) (b : ∀ y ∈ x :: r, 0 ≤ y ∧ y < n) : ((held own (x :: r)).length : Int) = ((held own r).length : Int) + 1 - (own x).length := by
  have bx := b x List.mem_cons_self
  have sub : ∀ y ∈ own x, y ∈ held own r := fun y hy => held_mem (v.2.1 y hy) fun z hz hyz => by
    have bz := b z (List.mem_cons_of_mem _ hz)
    have := k.once x z y bx.1 bx.2 bz.1 bz.2 hy hyz
    exact v.1 (by rw [this]; exact hz)
  have := filter_cnt (own x) (held own r) (k.nd x bx.1 bx.2) (held_nodup v.2.2) sub
  rw [held, List.length_cons]
  omega
/-- the counts, one by one -/
def cnts' (own : Int → List Int) (o : List Int) (i : Nat) : Int := ((held own (o.take (i + 1)).reverse).length : Int)
def heldL (own : Int → List Int) (o : List Int) : List Int := (List.range o.length).map (cnts' own o)
theorem heldL_len (own : Int → List Int) (o : List Int) : (heldL own o).length = o.length := by unfold heldL; rw [List.length_map, List.length_range]
theorem rev_snoc {o : List Int} {i : Nat} {x : Int} (h : o[i]? = some x) : (o.take (i + 1)).reverse = x :: (o.take i).reverse := by rw [take_snoc h, List.reverse_append]; rfl
theorem heldL_take (own : Int → List Int) (o : List Int) {i : Nat} (h : i < o.length) : (heldL own o).take (i + 1) = (heldL own o).take i ++ [cnts' own o i] := by
  have : (heldL own o)[i]? = some (cnts' own o i) := by
    unfold heldL
    rw [List.getElem?_map, List.getElem?_range h]; rfl
  exact take_snoc this
/-- the greatest of the counts is at least what is needed -/
theorem heldL_max {own : Int → List Int} {o : List Int} {m : Int} {k : Nat} (hm : ∀ y ∈ 0 :: heldL own o, y ≤ m) (h : ∃ S, S <:+ o.reverse ∧ k ≤ (held own S).length) : (k : Int) ≤ m := by
  obtain ⟨S, s, l⟩ := h
  obtain ⟨A, hA⟩ := s
  have e : o = S.reverse ++ A.reverse := by
    have := congrArg List.reverse hA
    rw [List.reverse_reverse, List.reverse_append] at this
    exact this.symm
  cases S with
  | nil =>
    have := hm 0 List.mem_cons_self
    have : (held own []).length = 0 := rfl
    omega
  | cons x r =>
    have hl : r.length < o.length := by rw [e, List.length_append, List.length_reverse, List.length_cons]; omega
    have c : cnts' own o r.length = ((held own (x :: r)).length : Int) := by
      unfold cnts'
      rw [e, List.take_append_of_le_length (by rw [List.length_reverse, List.length_cons]; exact Nat.le_refl _), List.take_of_length_le (by rw [List.length_reverse, List.length_cons]; exact Nat.le_refl _), List.reverse_reverse]
    have := hm (cnts' own o r.length) (List.mem_cons_of_mem _ (List.mem_map.mpr ⟨r.length, List.mem_range.mpr hl, rfl⟩))
    omega
/-! things that are no orders -/
theorem bad_len {own : Int → List Int} {n : Int} {ws : List (Option Int)} (h : (ws.length : Int) ≠ n) : isOrdB own n ws = false := by
  unfold isOrdB; rw [decide_eq_false h]; rfl
theorem bad_by {own : Int → List Int} {n : Int} {ws : List (Option Int)} (h : ∀ l : List Int, ws = l.map some → Val own l.reverse → (∀ x ∈ l, 0 ≤ x ∧ x < n) → False) : isOrdB own n ws = false := by
  unfold isOrdB
  cases e : ordB own n ws [] with
  | false => rw [Bool.and_false]
  | true =>
    obtain ⟨l, e1, v, b⟩ := ordB_val ws [] trivial e
    rw [List.append_nil] at v
    exact (h l e1 v b).elim
theorem bad_none {own : Int → List Int} {n : Int} {ws : List (Option Int)} (h : none ∈ ws) : isOrdB own n ws = false := bad_by fun l e _ _ => by
  rw [e] at h
  obtain ⟨x, _, hx⟩ := List.mem_map.mp h
  cases hx
theorem map_some_inj {l m : List Int} (h : l.map some = m.map some) : l = m := by
  have := congrArg (List.filterMap id) h
  simpa using this
theorem bad_out {own : Int → List Int} {n : Int} {l : List Int} {x : Int} (h : x ∈ l) (k : x < 0 ∨ n ≤ x) : isOrdB own n (l.map some) = false := bad_by fun l' e _ b => by
  rw [map_some_inj e] at h
  have := b x h
  omega
theorem rev_nodup {l : List Int} (h : l.reverse.Nodup) : l.Nodup := (List.pairwise_reverse.mp h).imp fun g => g.symm
theorem bad_twice {own : Int → List Int} {n : Int} {l : List Int} (h : ¬ l.Nodup) : isOrdB own n (l.map some) = false := bad_by fun l' e v _ => by
  rw [map_some_inj e] at h
  exact h (rev_nodup (val_nodup v))
theorem val_at {own : Int → List Int} : ∀ {A B : List Int} {x y : Int}, Val own (A ++ x :: B) → y ∈ own x → y ∈ B
  | [], _, _, _, v, h => v.2.1 _ h
  | _ :: _, _, _, _, v, h => val_at v.2.2 h
/-- own part y stands at there, behind x at here -/
theorem bad_swap {own : Int → List Int} {n : Int} {l : List Int} {x y : Int} {i j : Nat} (hx : l[i]? = some x) (hy : l[j]? = some y) (hij : i < j) (h : y ∈ own x) : isOrdB own n (l.map some) = false := bad_by fun l' e v _ => by
  have e := map_some_inj e
  subst e
  obtain ⟨hi, exi⟩ := List.getElem?_eq_some_iff.mp hx
  have split : l = l.take i ++ x :: l.drop (i + 1) := by
    rw [← exi, List.getElem_cons_drop, List.take_append_drop]
  have vr : Val own ((l.drop (i + 1)).reverse ++ x :: (l.take i).reverse) := by
    have : l.reverse = (l.drop (i + 1)).reverse ++ x :: (l.take i).reverse := by
      conv => lhs; rw [split]
      simp
    rw [← this]; exact v
  have hb := List.mem_reverse.mp (val_at vr h)
  have nd : l.Nodup := rev_nodup (val_nodup v)
  obtain ⟨m, hm, em⟩ := List.getElem_of_mem hb
  rw [List.length_take] at hm
  rw [List.getElem_take] at em
  obtain ⟨hj, ej⟩ := List.getElem?_eq_some_iff.mp hy
  have := (List.getElem_inj (h₀ := by omega) (h₁ := hj) nd).mp (em.trans ej.symm)
  omega

end J
namespace J
open PySem PySem.Spec PyProof.Rows L2
--plain
/-! ### the best order: what it is, and how many it holds -/
def Exp.ord : Exp → Int → List Int
  | .num _, _ => []
  | .fld _, _ => []
  | .plc _ _, b => [b]
  | .mrk _ _, b => [b]
  | .cell a, b => a.ord b ++ [b + a.cnt]
  | .two _ a c, b => (if 0 < a.cnt ∧ 0 < c.cnt ∧ a.need < c.need then c.ord (b + a.cnt) ++ a.ord b else a.ord b ++ c.ord (b + a.cnt)) ++ [b + a.cnt + c.cnt]
theorem ord_mem : ∀ (e : Exp) (b x : Int), x ∈ e.ord b ↔ b ≤ x ∧ x < b + e.cnt
  | .num _, b, x => by simp [Exp.ord, Exp.cnt]
  | .fld _, b, x => by simp [Exp.ord, Exp.cnt]
  | .plc _ _, b, x => by simp [Exp.ord, Exp.cnt]; omega
  | .mrk _ _, b, x => by simp [Exp.ord, Exp.cnt]; omega
  | .cell a, b, x => by
    rw [Exp.ord, List.mem_append, ord_mem a, List.mem_singleton]
    simp only [Exp.cnt]; omega
  | .two _ a c, b, x => by
    rw [Exp.ord, List.mem_append, List.mem_singleton]
    by_cases h : 0 < a.cnt ∧ 0 < c.cnt ∧ a.need < c.need
    · rw [if_pos h, List.mem_append, ord_mem a, ord_mem c]
      simp only [Exp.cnt]; omega
    · rw [if_neg h, List.mem_append, ord_mem a, ord_mem c]
      simp only [Exp.cnt]; omega
theorem val_cat {own : Int → List Int} : ∀ {B A : List Int}, Val own A → Val own B → (∀ x ∈ B, x ∉ A) → Val own (B ++ A)
  | [], _, va, _, _ => va
  | x :: B, A, va, vb, d => by
    refine ⟨fun h => ?_, fun y hy => List.mem_append_left _ (vb.2.1 y hy), val_cat va vb.2.2 fun y hy => d y (List.mem_cons_of_mem _ hy)⟩
    rcases List.mem_append.mp h with g | g
    · exact vb.1 g
    · exact d x List.mem_cons_self g
theorem ord_val {own : Int → List Int} : ∀ (e : Exp) (b : Int), Tr own e b → Val own (e.ord b).reverse
  | .num _, _, _ => trivial
  | .fld _, _, _ => trivial
  | .plc _ _, b, t => by
    have : own b = [] := by have := t 0 [] rfl; simpa using this
    exact ⟨List.not_mem_nil, fun y hy => by rw [this] at hy; exact hy, trivial⟩
  | .mrk _ _, b, t => by
    have : own b = [] := by have := t 0 [] rfl; simpa using this
    exact ⟨List.not_mem_nil, fun y hy => by rw [this] at hy; exact hy, trivial⟩
  | .cell a, b, t => by
    obtain ⟨ta, tr⟩ := tr_cell t
    rw [Exp.ord, List.reverse_append]
    refine ⟨fun h => ?_, fun y hy => ?_, ord_val a b ta⟩
    · have := (ord_mem a b _).mp (List.mem_reverse.mp h); omega
    · rw [tr] at hy
      have := rt_mem hy
      exact List.mem_reverse.mpr ((ord_mem a b y).mpr (by omega))
  | .two o a c, b, t => by
    obtain ⟨ta, tc, tr⟩ := tr_two t
    rw [Exp.ord, List.reverse_append]
    have key : Val own (if 0 < a.cnt ∧ 0 < c.cnt ∧ a.need < c.need then c.ord (b + a.cnt) ++ a.ord b else a.ord b ++ c.ord (b + a.cnt)).reverse := by
      have d1 : ∀ x ∈ (c.ord (b + a.cnt)).reverse, x ∉ (a.ord b).reverse := fun x hx hx' => by
        have := (ord_mem c _ x).mp (List.mem_reverse.mp hx)
        have := (ord_mem a _ x).mp (List.mem_reverse.mp hx')
        omega
      by_cases h : 0 < a.cnt ∧ 0 < c.cnt ∧ a.need < c.need
      · rw [if_pos h, List.reverse_append]
        exact val_cat (ord_val c _ tc) (ord_val a _ ta) (fun x hx hx' => d1 x hx' hx)
      · rw [if_neg h, List.reverse_append]
        exact val_cat (ord_val a _ ta) (ord_val c _ tc) d1
    have mem : ∀ x, x ∈ (if 0 < a.cnt ∧ 0 < c.cnt ∧ a.need < c.need then c.ord (b + a.cnt) ++ a.ord b else a.ord b ++ c.ord (b + a.cnt)) ↔ b ≤ x ∧ x < b + a.cnt + c.cnt := fun x => by
      by_cases h : 0 < a.cnt ∧ 0 < c.cnt ∧ a.need < c.need
      · rw [if_pos h, List.mem_append, ord_mem a, ord_mem c]; omega
      · rw [if_neg h, List.mem_append, ord_mem a, ord_mem c]; omega
    refine ⟨fun h => ?_, fun y hy => ?_, key⟩
    · have := (mem _).mp (List.mem_reverse.mp h); omega
    · rw [tr] at hy
      refine List.mem_reverse.mpr ((mem y).mpr ?_)
      rcases List.mem_append.mp hy with g | g
      · have := rt_mem g; omega
      · have := rt_mem g; omega
/-- how many more are held -/
def sumO (own : Int → List Int) : List Int → Int
  | [] => 0
  | x :: r => 1 - (own x).length + sumO own r
theorem sumO_app (own : Int → List Int) : ∀ l m : List Int, sumO own (l ++ m) = sumO own l + sumO own m
  | [], m => by simp [sumO]
  | x :: l, m => by rw [List.cons_append, sumO, sumO_app own l, sumO]; omega
theorem rt_len (e : Exp) (b : Int) : ((e.rt b).length : Int) = if e.cnt = 0 then 0 else 1 := by
  unfold Exp.rt
  by_cases h : e.cnt = 0
  · rw [if_pos h, if_pos h]; rfl
  · rw [if_neg h, if_neg h]; rfl
theorem ord_up {own : Int → List Int} : ∀ (e : Exp) (b : Int), Tr own e b → (∀ k, sumO own ((e.ord b).take k) ≤ e.need) ∧ sumO own (e.ord b) = if e.cnt = 0 then 0 else 1
  | .num _, _, _ => ⟨fun k => by simp [Exp.ord, sumO, Exp.need], by simp [Exp.ord, sumO, Exp.cnt]⟩
  | .fld _, _, _ => ⟨fun k => by simp [Exp.ord, sumO, Exp.need], by simp [Exp.ord, sumO, Exp.cnt]⟩
  | .plc _ _, b, t => by
    have e0 : own b = [] := by have := t 0 [] rfl; simpa using this
    refine ⟨fun k => ?_, by simp [Exp.ord, sumO, Exp.cnt, e0]⟩
    cases k <;> simp [Exp.ord, sumO, Exp.need, e0]
  | .mrk _ _, b, t => by
    have e0 : own b = [] := by have := t 0 [] rfl; simpa using this
    refine ⟨fun k => ?_, by simp [Exp.ord, sumO, Exp.cnt, e0]⟩
    cases k <;> simp [Exp.ord, sumO, Exp.need, e0]
  | .cell a, b, t => by
    obtain ⟨ta, tr⟩ := tr_cell t
    obtain ⟨u1, u2⟩ := ord_up a b ta
    have tot : sumO own ((Exp.cell a).ord b) = 1 := by
      rw [Exp.ord, sumO_app, u2, sumO, sumO, tr, rt_len]
      by_cases h : a.cnt = 0 <;> simp [h]
    refine ⟨fun k => ?_, by rw [tot]; simp [Exp.cnt]⟩
    by_cases h : k ≤ (a.ord b).length
    · rw [Exp.ord, List.take_append_of_le_length h]
      have := u1 k
      simp only [Exp.need]; omega
    · rw [List.take_of_length_le (by rw [Exp.ord, List.length_append, List.length_singleton]; omega), tot]
      simp only [Exp.need]; omega
  | .two o a c, b, t => by
    obtain ⟨ta, tc, tr⟩ := tr_two t
    obtain ⟨u1, u2⟩ := ord_up a b ta
    obtain ⟨v1, v2⟩ := ord_up c (b + a.cnt) tc
    have na := need_cnt a
    have nc := need_cnt c
    -- one behind the other
    have two : ∀ (A C : List Int) (m k : Nat) (x y : Int), (∀ j, sumO own (A.take j) ≤ m) → sumO own A = x → (∀ j, sumO own (C.take j) ≤ k) → ∀ j, sumO own ((A ++ C).take j) ≤ max (m : Int) (x + k) := fun A C m k x y h1 h2 h3 j => by
      rw [List.take_append, sumO_app]
      by_cases z : j ≤ A.length
      · rw [show j - A.length = 0 by omega, List.take_zero]
        have := h1 j
        show _ + 0 ≤ _
        omega
      · rw [List.take_of_length_le (by omega), h2]
        have := h3 (j - A.length)
        omega
    have key : (∀ j, sumO own ((if 0 < a.cnt ∧ 0 < c.cnt ∧ a.need < c.need then c.ord (b + a.cnt) ++ a.ord b else a.ord b ++ c.ord (b + a.cnt)).take j) ≤ ((Exp.two o a c).need : Nat)) ∧
        sumO own (if 0 < a.cnt ∧ 0 < c.cnt ∧ a.need < c.need then c.ord (b + a.cnt) ++ a.ord b else a.ord b ++ c.ord (b + a.cnt)) = (if a.cnt = 0 then 0 else 1) + (if c.cnt = 0 then 0 else 1) := by
      by_cases h : 0 < a.cnt ∧ 0 < c.cnt ∧ a.need < c.need
      · rw [if_pos h]
        refine ⟨fun j => ?_, by rw [sumO_app, u2, v2]; omega⟩
        have := two _ _ _ _ _ 0 v1 v2 u1 j
        rw [if_neg (show ¬ c.cnt = 0 by omega)] at this
        simp only [Exp.need]
        rw [if_neg (by omega)]
        omega
      · rw [if_neg h]
        refine ⟨fun j => ?_, by rw [sumO_app, u2, v2]⟩
        have := two _ _ _ _ _ 0 u1 u2 v1 j
        simp only [Exp.need]
        by_cases z : a.need = c.need ∧ 0 < a.need
        · rw [if_pos z]
          by_cases z2 : a.cnt = 0
          · rw [if_pos z2] at this; omega
          · rw [if_neg z2] at this; omega
        · rw [if_neg z]
          by_cases z2 : a.cnt = 0
          · rw [if_pos z2] at this; omega
          · rw [if_neg z2] at this; omega
    have tot : sumO own ((Exp.two o a c).ord b) = 1 := by
      rw [Exp.ord, sumO_app, key.2, sumO, sumO, tr, List.length_append]
      have h1 := rt_len a b
      have h2 := rt_len c (b + a.cnt)
      omega
    refine ⟨fun k => ?_, by rw [tot]; simp [Exp.cnt]⟩
    rw [Exp.ord]
    generalize hM : (if 0 < a.cnt ∧ 0 < c.cnt ∧ a.need < c.need then c.ord (b + a.cnt) ++ a.ord b else a.ord b ++ c.ord (b + a.cnt)) = M at key
    by_cases h : k ≤ M.length
    · rw [List.take_append_of_le_length h]
      exact key.1 k
    · have : sumO own ((M ++ [b + ↑a.cnt + ↑c.cnt]).take k) = 1 := by
        rw [List.take_of_length_le (by rw [List.length_append, List.length_singleton]; omega), ← tot, Exp.ord, hM]
      rw [this]
      simp only [Exp.need]
      by_cases z : a.need = c.need ∧ 0 < a.need
      · rw [if_pos z]; omega
      · rw [if_neg z]; omega

end J
namespace J
open PySem PySem.Spec PyProof.Rows L2
local macro_rules | `(tactic| walk_at "cls") => `(tactic| first
  | with_reducible exact Facts.cl_Step
  | with_reducible exact Facts.cl_Get
  | with_reducible exact Facts.cl_Ask
  | with_reducible exact Facts.cl_Cell
  | with_reducible exact Facts.cl_Two
  | with_reducible exact Facts.cl_Put
  | with_reducible exact Facts.cl_Tell
  | with_reducible exact Facts.cl_Store
  | with_reducible exact Facts.cl_Parts
  | with_reducible exact Facts.cl_Order)
local macro_rules | `(tactic| walk_at "na") => `(tactic| first
  | with_reducible exact Facts.na_Get_to
  | with_reducible exact Facts.na_Get_sel
  | with_reducible exact Facts.na_Ask_to
  | with_reducible exact Facts.na_Ask_sel
  | with_reducible exact Facts.na_Cell_to
  | with_reducible exact Facts.na_Cell_source
  | with_reducible exact Facts.na_Two_to
  | with_reducible exact Facts.na_Two_op
  | with_reducible exact Facts.na_Two_one
  | with_reducible exact Facts.na_Two_other
  | with_reducible exact Facts.na_Put_sel
  | with_reducible exact Facts.na_Put_source
  | with_reducible exact Facts.na_Tell_sel
  | with_reducible exact Facts.na_Tell_source
  | with_reducible exact Facts.na_Store_at
  | with_reducible exact Facts.na_Store_source
  | with_reducible exact Facts.na_Parts_rows
  | with_reducible exact Facts.na_Order_parts
  | with_reducible exact Facts.na_Order_order
  | with_reducible exact Facts.na_Order_needed)
local macro_rules | `(tactic| walk_at "ty") => `(tactic| first
  | with_reducible exact ty_int
  | with_reducible exact ty_bl
  | with_reducible exact ty_str
  | with_reducible exact ty_non
  | ((with_reducible refine' ty_lst ?vv); (case vv => walk_at "tr"))
  | ((with_reducible refine' ty_sqT ?vv); (case vv => walk_at "tr"))
  | ((with_reducible refine' ty_dic ?vv); (case vv => walk_at "tr")))
local macro_rules | `(tactic| walk_at "ix") => `(tactic| first | exact at0 | exact at1 | exact at2 | assumption)
local macro_rules | `(tactic| walk_at "size") => `(tactic| first
  | assumption
  | (show _ < sizeLine; rw [sizeLine_eq]; (try simp only [List.length_cons, List.length_nil, List.length_append, List.length_map]); omega)
  | (show _ ≤ sizeLine; rw [sizeLine_eq]; (try simp only [List.length_cons, List.length_nil, List.length_append, List.length_map]); omega))
local macro_rules | `(tactic| walk_at "side") => `(tactic| first
  | assumption
  | ((with_reducible refine cdw ?_ ?_) <;> omega)
  | omega
  | (exact ⟨by omega, by omega⟩)
  | (exact Or.inl ⟨by omega, by omega⟩)
  | (exact Or.inr ⟨by omega, by omega⟩)
  | decide
  | (simp only [List.length_cons, List.length_nil, List.length_append, List.length_map]; omega)
  | (show _ ≤ _; decide))
local macro_rules | `(tactic| walk_at "as") => `(tactic| with_reducible assumption)
local macro_rules | `(tactic| walk_at "tr") => `(tactic| first
  | with_reducible assumption
  | with_reducible exact upd_same
  | ((with_reducible refine' SqL.of ?hh); (case hh => walk_at "as"))
  | ((with_reducible refine' SqT.of ?hh); (case hh => walk_at "as"))
  | ((with_reducible refine' Same.stm ?ee ?gg); (case ee => walk_at "as"); (case gg => walk_at "tr"))
  | ((with_reducible refine' Same.sqT ?ee ?gg); (case ee => walk_at "as"); (case gg => walk_at "tr"))
  | ((with_reducible refine' Same.sqL ?ee ?gg); (case ee => walk_at "as"); (case gg => walk_at "tr"))
  | ((with_reducible refine' Same.at ?ee ?gg); (case ee => walk_at "as"); (case gg => walk_at "tr"))
  | ((with_reducible refine' But.stm ?ee ?ff ?gg); (case ee => walk_at "as"); (case ff => walk_at "ne"); (case gg => walk_at "tr"))
  | ((with_reducible refine' But.tup ?ee ?ff ?gg); (case ee => walk_at "as"); (case ff => walk_at "tr1"); (case gg => walk_at "tr"))
  | ((with_reducible refine' But.sqT ?ee ?ff ?gg); (case ee => walk_at "as"); (case ff => walk_at "tr1"); (case gg => walk_at "tr"))
  | ((with_reducible refine' But.tupL ?ee ?ff ?gg); (case ee => walk_at "as"); (case ff => walk_at "tr1"); (case gg => walk_at "tr"))
  | ((with_reducible refine' But.sqTL ?ee ?ff ?gg); (case ee => walk_at "as"); (case ff => walk_at "tr1"); (case gg => walk_at "tr"))
  | ((with_reducible refine' But.sqL ?ee ?ff ?gg); (case ee => walk_at "as"); (case ff => walk_at "ne"); (case gg => walk_at "tr"))
  | ((with_reducible refine' But.at ?ee ?ff ?gg); (case ee => walk_at "as"); (case ff => walk_at "ne"); (case gg => walk_at "tr")))
local macro_rules | `(tactic| walk_at "ts") => `(tactic| first
  | with_reducible assumption
  | with_reducible exact TS.refl _
  | ((with_reducible refine' TS.trans ?gg (TS.of ?ee)); (case ee => walk_at "as"); (case gg => walk_at "ts"))
  | ((with_reducible refine' TS.trans ?gg (TS.butS ?ee ?ff)); (case ee => walk_at "as"); (case ff => walk_at "tr1"); (case gg => walk_at "ts"))
  | ((with_reducible refine' TS.trans ?gg (TS.butL ?ee ?ff)); (case ee => walk_at "as"); (case ff => walk_at "tr1"); (case gg => walk_at "ts"))
  | ((with_reducible refine' TS.trans ?gg (TS.butI ?ee ?ff)); (case ee => walk_at "as"); (case ff => walk_at "tr1"); (case gg => walk_at "ts")))
local macro_rules | `(tactic| walk_at "sm") => `(tactic| first
  | with_reducible assumption
  | with_reducible exact Same.refl _
  | ((with_reducible refine' Same.trans ?gg ?ee); (case ee => walk_at "as"); (case gg => walk_at "sm"))
  | ((with_reducible refine' But.new ?gg ?nn ?ee); (case ee => walk_at "as"); (case nn => walk_at "fr"); (case gg => walk_at "sm")))
local macro_rules | `(tactic| walk_at "fr") => `(tactic| first
  | with_reducible assumption
  | ((with_reducible refine' Same.back ?ee ?nn); (case nn => walk_at "as"); (case ee => walk_at "sm"))
  | ((with_reducible refine' But.back ?ee ?ff ?nn); (case nn => walk_at "as"); (case ff => walk_at "ne0"); (case ee => walk_at "bu")))
local macro_rules | `(tactic| walk_at "bu") => `(tactic| first
  | with_reducible assumption
  | with_reducible exact But.refl _ _
  | ((with_reducible refine' But.trans ?gg ?ee); (case ee => walk_at "as"); (case gg => walk_at "bu"))
  | ((with_reducible refine' But.trans ?gg (But.of ?ee)); (case ee => walk_at "as"); (case gg => walk_at "bu"))
  | ((with_reducible refine' But.new2 ?gg ?nn ?ee); (case ee => walk_at "as"); (case nn => walk_at "frB"); (case gg => walk_at "bu")))
local macro_rules | `(tactic| walk_at "frB") => `(tactic| first
  | with_reducible assumption
  | ((with_reducible refine' Same.back ?ee ?nn); (case nn => walk_at "as"); (case ee => walk_at "sm"))
  | ((with_reducible refine' But.back' ?ee ?ff ?nn); (case nn => walk_at "as"); (case ee => walk_at "bu"); (case ff => walk_at "tr1")))
local macro_rules | `(tactic| walk_at "tr1") => `(tactic| first
  | with_reducible assumption
  | ((with_reducible refine' Same.stm ?ee ?gg); (case ee => walk_at "as"); (case gg => walk_at "tr1"))
  | ((with_reducible refine' Same.at ?ee ?gg); (case ee => walk_at "as"); (case gg => walk_at "tr1"))
  | ((with_reducible refine' But.at ?ee ?ff ?gg); (case ee => walk_at "as"); (case ff => walk_at "ne0"); (case gg => walk_at "tr1"))
  | ((with_reducible refine' But.stm ?ee ?ff ?gg); (case ee => walk_at "as"); (case ff => walk_at "ne0"); (case gg => walk_at "tr1")))
local macro_rules | `(tactic| walk_at "ne0") => `(tactic| first
  | with_reducible assumption
  | (with_reducible apply Ne.symm; with_reducible assumption))
local macro_rules | `(tactic| walk_at "ne") => `(tactic| first
  | with_reducible assumption
  | (with_reducible apply Ne.symm; with_reducible assumption)
  | ((with_reducible refine' stm_ne ?hh ?nn); (case nn => walk_at "as"); (case hh => walk_at "tr1"))
  | ((with_reducible refine' ne_of_none ?hh ?nn); (case nn => walk_at "as"); (case hh => walk_at "tr1"))
  | ((with_reducible apply Ne.symm); (with_reducible refine' ne_of_none ?hh ?nn); (case nn => walk_at "as"); (case hh => walk_at "tr1")))
local macro_rules | `(tactic| walk_at "v") => `(tactic| first
  | with_reducible refine w_seq ?_
  | ((with_reducible refine' w_var ?vv ?_); (case vv => exact rfl))
  | with_reducible refine w_c ?_
  | with_reducible refine w_op ?_
  | with_reducible refine w_asg ?_
  | with_reducible refine w_gName ?_
  | with_reducible refine w_ret ?_
  | with_reducible refine w_ifS ?_
  | with_reducible refine w_drop ?_
  | with_reducible refine w_next ?_
  | with_reducible refine w_cons ?_
  | with_reducible refine w_nil ?_
  | with_reducible refine w_call ?_
  | with_reducible refine w_cb ?_
  | with_reducible refine w_rI0 ?_
  | with_reducible refine w_addI ?_
  | with_reducible refine w_eqI ?_
  | with_reducible refine w_neI ?_
  | with_reducible refine w_eqS ?_
  | with_reducible refine w_neS ?_
  | with_reducible refine w_eqB ?_
  | with_reducible refine w_neB ?_
  | with_reducible refine w_chain ?_
  | with_reducible refine w_test ?_
  | with_reducible refine w_tB ?_
  | with_reducible refine w_bl ?_
  | ((with_reducible refine' w_mulI ?vv ?_); (case vv => walk_at "side"))
  | ((with_reducible refine' w_rI ?vv ?_); (case vv => walk_at "side"))
  | with_reducible refine w_int1 ?_
  | with_reducible refine w_int1b ?_
  | with_reducible refine w_tup ?_
  | with_reducible refine w_lst ?_
  | with_reducible refine w_un ?_
  | with_reducible refine w_rU ?_
  | with_reducible refine w_not ?_
  | with_reducible refine w_notV ?_
  | with_reducible refine w_ifE ?_
  | with_reducible refine w_nT ?_
  | with_reducible refine w_nF ?_
  | with_reducible refine iteT ?_
  | with_reducible refine iteF ?_
  | ((with_reducible refine' w_ixT ?vv ?ww ?_); (case vv => walk_at "tr"); (case ww => walk_at "ix"))
  | ((with_reducible refine' w_ixL ?vv ?ww ?_); (case vv => walk_at "tr"); (case ww => walk_at "ix"))
  | with_reducible refine w_gSub ?_
  | ((with_reducible refine' w_setL ?vv ?ww ?_); (case vv => walk_at "tr"); (case ww => first | rfl | decide | assumption))
  | ((with_reducible refine' w_lenL ?vv ?_); (case vv => walk_at "tr"))
  | ((with_reducible refine' w_lenT ?vv ?_); (case vv => walk_at "tr"))
  | with_reducible refine w_max2 ?_
  | with_reducible refine w_max3 ?_
  | with_reducible refine w_din ?_
  | with_reducible refine w_dnotin ?_
  | with_reducible refine w_dput ?_
  | with_reducible refine w_min2 ?_
  | with_reducible refine w_bm ?_
  | with_reducible refine w_bm0 ?_
  | ((with_reducible refine' w_tyL ?vv ?_); (case vv => walk_at "tr"))
  | ((with_reducible refine' w_append ?vv ?ww ?_); (case vv => walk_at "tr"); (case ww => walk_at "size"))
  | ((with_reducible refine' w_size ?vv ?_); (case vv => walk_at "size"))
  | with_reducible refine w_forL ?_
  | with_reducible refine w_forT ?_
  | with_reducible refine w_forR1 ?_
  | with_reducible refine w_forR2 ?_
  | with_reducible refine w_lcL ?_
  | with_reducible refine w_lcT ?_
  | with_reducible refine w_lcR1 ?_
  | with_reducible refine w_yes ?_
  | with_reducible refine w_sl ?_
  | with_reducible refine w_noPart ?_
  | with_reducible refine w_part ?_
  | with_reducible refine w_int ?_
  | ((with_reducible refine' w_slL ?vv ?_); (case vv => walk_at "tr"))
  | ((with_reducible refine' w_seqL ?vv ?ww ?_); (case vv => walk_at "tr"); (case ww => rfl))
  | ((with_reducible refine' w_seqT ?vv ?ww ?_); (case vv => walk_at "tr"); (case ww => rfl))
  | with_reducible refine w_gNil ?_
  | with_reducible refine w_gCons ?_
  | with_reducible refine w_forZ ?_
  | with_reducible refine w_forM ?_
  | with_reducible refine w_forE ?_
  | with_reducible refine w_forV ?_
  | with_reducible refine w_lcZ ?_
  | with_reducible refine w_lcE ?_
  | ((with_reducible refine' w_isi (b := true) ?vv ?ww ?_); (case vv => walk_at "ty"); (case ww => decide +kernel))
  | ((with_reducible refine' w_isi (b := false) ?vv ?ww ?_); (case vv => walk_at "ty"); (case ww => decide +kernel))
  | with_reducible refine w_revL ?_
  | with_reducible refine w_pairN ?_
  | with_reducible refine w_pairC ?_
  | with_reducible refine w_dget ?_
  | with_reducible refine w_met ?_
  | ((with_reducible refine' w_metAt ?vv ?ww ?_); (case vv => walk_at "tr"); (case ww => rfl))
  | with_reducible refine w_mkI ?_
  | with_reducible refine w_fld ?_
  | ((with_reducible refine' w_fldAt ?vv ?cc ?nn ?ww ?_); (case vv => walk_at "tr"); (case cc => walk_at "cls"); (case nn => walk_at "na"); (case ww => rfl))
  | with_reducible refine w_sfld ?_
  | ((with_reducible refine' w_sfldAt ?vv ?cc ?nn ?ll ?ee ?_); (case vv => walk_at "tr"); (case cc => walk_at "cls"); (case nn => walk_at "na"); (case ll => simp); (case ee => rfl))
  | ((with_reducible refine' w_tupL ?vv ?_); (case vv => walk_at "tr"))
  | ((with_reducible refine' w_tupT ?vv ?_); (case vv => walk_at "tr"))
  | ((with_reducible refine' w_listL ?vv ?_); (case vv => walk_at "tr"))
  | ((with_reducible refine' w_listT ?vv ?_); (case vv => walk_at "tr"))
  | with_reducible refine w_tyS ?_
  | with_reducible refine w_retN ?_
  | with_reducible refine w_break ?_
  | with_reducible refine w_cont ?_)
local macro_rules | `(tactic| walk_at "w") => `(tactic| first
  | walk_at "v"
  | with_reducible refine w_or ?_
  | with_reducible refine w_and ?_
  | with_reducible refine w_andV ?_
  | with_reducible refine w_orV ?_)
local macro_rules | `(tactic| walk_at "wd") => `(tactic| first
  | walk_at "w"
  | ((with_reducible refine' w_decT ?vv ?_); (case vv => decide +kernel))
  | ((with_reducible refine' w_decF ?vv ?_); (case vv => decide +kernel)))
local macro_rules | `(tactic| walk_at "tz") => `(tactic| (intro S z; (repeat walk_at "w"); exact z))
local macro_rules | `(tactic| walk_at "wf") => `(tactic| first
  | walk_at "wd"
  | ((with_reducible refine' w_decF ?vv ?_); (case vv => with_reducible assumption)))
/-! ### drawn expressions and sets -/
def spE (K : PySem.W.Frag) (n : Nat) : Sp := fun vs H Q _ => ∃ (s : Addr) (k : Int), vs = [.ref s, .int k] ∧ Stm H s ∧ k ≤ n ∧ 1 ≤ n ∧ ∀ v e H', Dp K H' v (Exp.d e) → OkE n e → Stm H' s → But s H H' → Q v H'
theorem len_law_e {K : PySem.W.Frag} {n : Nat} {vs H Q E} (h : spE K n vs H Q E) : vs.length = 2 := by obtain ⟨_, _, rfl, _⟩ := h; rfl
theorem no_law_e {K : PySem.W.Frag} {vs H Q E} (h : spE K 0 vs H Q E) : False := by obtain ⟨_, _, _, _, _, h, _⟩ := h; omega
theorem dp_pair {K : PySem.W.Frag} {H : Hp} {p : Addr} {k : Str} {n : Int} (h : SqT K H p [.str k, .int n]) : Dp K H (.ref p) (selD k n) := .tup h (.cons (.str k) (.cons (.int n) .nil))
theorem op_at {i : Int} {H : Hp} {Q : VK} {K : PySem.W.Frag} {p : Addr} (h : SqL K H p [.str "+", .str "-", .str "&", .str "|", .str "^", .str "<<", .str ">>", .str "<", .str "="]) (h0 : 0 ≤ i) (h1 : i < 9) (k : ∀ o, OpS o → Q (.str o) H) : rIx K (.ref p) (.int i) H Q := by
  have c : i = 0 ∨ i = 1 ∨ i = 2 ∨ i = 3 ∨ i = 4 ∨ i = 5 ∨ i = 6 ∨ i = 7 ∨ i = 8 := by omega
  rcases c with rfl | rfl | rfl | rfl | rfl | rfl | rfl | rfl | rfl <;> exact w_ixL h (atI_of (by decide) rfl) (k _ (by unfold OpS; simp))
theorem sel_at {i x y : Int} {H : Hp} {Q : VK} {K : PySem.W.Frag} {p a b : Addr} (h : SqL K H p [.ref a, .ref b]) (ha : SqT K H a [.str "is", .int x]) (hb : SqT K H b [.str "by", .int y]) (h0 : 0 ≤ i) (h1 : i < 2)
    (k : ∀ q k n, SelS k → SqT K H q [.str k, .int n] → Q (.ref q) H) : rIx K (.ref p) (.int i) H Q := by
  have c : i = 0 ∨ i = 1 := by omega
  rcases c with rfl | rfl
  · exact w_ixL h at0 (k _ _ _ (.inl rfl) ha)
  · exact w_ixL h at1 (k _ _ _ (.inr rfl) hb)
theorem num_at {i : Int} {H : Hp} {Q : VK} {K : PySem.W.Frag} {p : Addr} (h : SqL K H p [.int 4, .int (2 ^ (24 : Int).toNat)]) (h0 : 0 ≤ i) (h1 : i < 2) (k : ∀ m : Int, 0 < m → m < 2 ^ 200 → Q (.int m) H) : rIx K (.ref p) (.int i) H Q := by
  have c : i = 0 ∨ i = 1 := by omega
  rcases c with rfl | rfl
  · exact w_ixL h at0 (k _ (by decide) (by decide))
  · exact w_ixL h at1 (k _ (by decide) (by decide))
theorem leaf_at {i m f n : Int} {k : Str} {H : Hp} {Q : VK} {K : PySem.W.Frag} {p a b c d e s : Addr} (h : SqL K H p [.ref a, .ref b, .ref c, .ref d, .ref e]) (ha : SqT K H a [.str "number", .int m]) (hb : SqT K H b [.str "field", .int f])
    (hc : SqT K H c [.str "place", .ref s]) (hd : SqT K H d [.str "mark", .ref s]) (he : SqT K H e [.str "place", .ref s]) (hs : SqT K H s [.str k, .int n]) (ks : SelS k) (h0 : 0 ≤ i) (h1 : i < 5)
    (q : ∀ v e, Dp K H v (Exp.d e) → OkE 1 e → Q v H) : rIx K (.ref p) (.int i) H Q := by
  have z : i = 0 ∨ i = 1 ∨ i = 2 ∨ i = 3 ∨ i = 4 := by omega
  rcases z with rfl | rfl | rfl | rfl | rfl
  · exact w_ixL h at0 (q _ (.num m) (.tup ha (.cons (.str _) (.cons (.int _) .nil))) ⟨Nat.le_refl 1, trivial⟩)
  · exact w_ixL h at1 (q _ (.fld f) (.tup hb (.cons (.str _) (.cons (.int _) .nil))) ⟨Nat.le_refl 1, trivial⟩)
  · exact w_ixL h at2 (q _ (.plc k n) (.tup hc (.cons (.str _) (.cons (dp_pair hs) .nil))) ⟨Nat.le_refl 1, ks⟩)
  · exact w_ixL h (atI_of (by decide) rfl) (q _ (.mrk k n) (.tup hd (.cons (.str _) (.cons (dp_pair hs) .nil))) ⟨Nat.le_refl 1, ks⟩)
  · exact w_ixL h (atI_of (by decide) rfl) (q _ (.plc k n) (.tup he (.cons (.str _) (.cons (dp_pair hs) .nil))) ⟨Nat.le_refl 1, ks⟩)
theorem Exp.ts {K : PySem.W.Frag} {H H' : Hp} {e : Exp} {v : V} (t : TS H H') (h : Dp K H v e.d) : Dp K H' v e.d := dp_ts t _ _ e.tup h
section
variable {P : Program} {w : World} {K : PySem.W.Frag} {mg : Str → Option Value}
theorem ok_law_e [c : Facts K mg] (G__law_take : Fn P w K mg "_law_take" 1 ["stream", "many"] (spTake)) : ∀ n : Nat, Fn P w K mg "_law_e" (n + 2) ["stream", "deep"] ((spE K n))
  | 0 => by
    obtain ⟨fd, F⟩ := c.d_law_e
    exact Fn.mk' (k := 1) F c.g_law_e sc_law_e (fun vs H Q E h => (no_law_e h).elim) (fun _ _ _ _ _ _ us hl => match us, hl with | [_, _], _ => rfl) (fun base cdv A outer s H vs Q E hr h => (no_law_e h).elim)
  | n + 1 => by
    have G__law_e := ok_law_e G__law_take n
    obtain ⟨fd, F⟩ := c.d_law_e
    refine Fn.mk' F c.g_law_e sc_law_e (k := n + 2) (fun vs H Q E h => ?_) (fun _ _ _ _ _ _ us hl => match us, hl with | [_, _], _ => rfl) (fun base cdv A outer s H vs Q E hr h => ?_)
    · exact len_law_e h
    · have nd := sc_law_e.nd
      have hu := hu_of hr
      have hr__law_e : Room (n + 2) _ := hr.mono (by omega)
      have hr__law_take : Room 1 _ := hr.mono (by omega)
      refine ⟨_, (pss_cons (ps_set (i := 2) nd rfl (Or.inl rfl) (pe_fn G__law_take hr__law_take (by rfl) (pa_cons (pv 0) (pa_cons pe_int pa_nil))))
      (pss_cons (ps_if (PW.pt (pw_or (pt_cmpR op_lt (pv 1) pe_int (nomark _)) (pw_or1 (pt_cmpR op_lt (pv 2) pe_int (nomark _))))) (pss_cons (ps_set (i := 3) nd rfl (Or.inl rfl) (pe_ix (ix_any (K := K) rfl) (pe_lst (pa_cons (pe_tup (pa_cons pe_str (pa_cons (pe_fn G__law_take hr__law_take (by rfl) (pa_cons (pv 0) (pa_cons pe_int pa_nil))) pa_nil))) (pa_cons (pe_tup (pa_cons pe_str (pa_cons (pe_fn G__law_take hr__law_take (by rfl) (pa_cons (pv 0) (pa_cons pe_int pa_nil))) pa_nil))) pa_nil))) (pe_fn G__law_take hr__law_take (by rfl) (pa_cons (pv 0) (pa_cons pe_int pa_nil))) (fun _ _ => rfl)))
      (pss_cons (ps_set (i := 4) nd rfl (Or.inl rfl) (pe_tup (pa_cons pe_str (pa_cons (pe_fn G__law_take hr__law_take (by rfl) (pa_cons (pv 0) (pa_cons (pe_ix (ix_any (K := K) rfl) (pe_lst (pa_cons pe_int (pa_cons (pe_op op_pow pe_int pe_int) pa_nil))) (pe_fn G__law_take hr__law_take (by rfl) (pa_cons (pv 0) (pa_cons pe_int pa_nil))) (fun _ _ => rfl)) pa_nil))) pa_nil))))
      (pss_cons (ps_set (i := 5) nd rfl (Or.inl rfl) (pe_tup (pa_cons pe_str (pa_cons (pe_fn G__law_take hr__law_take (by rfl) (pa_cons (pv 0) (pa_cons pe_int pa_nil))) pa_nil))))
      (pss_one (ps_ret (pe_ix (ix_any (K := K) rfl) (pe_lst (pa_cons (pv 4) (pa_cons (pv 5) (pa_cons (pe_tup (pa_cons pe_str (pa_cons (pv 3) pa_nil))) (pa_cons (pe_tup (pa_cons pe_str (pa_cons (pv 3) pa_nil))) (pa_cons (pe_tup (pa_cons pe_str (pa_cons (pv 3) pa_nil))) pa_nil)))))) (pe_fn G__law_take hr__law_take (by rfl) (pa_cons (pv 0) (pa_cons pe_int pa_nil))) (fun _ _ => rfl))))))) pss_nil)
      (pss_cons (ps_if (pt_cmpR (op_eqA (K := K) rfl hr.units) (pv 2) pe_int (nomark _)) (pss_one (ps_ret (pe_tup (pa_cons pe_str (pa_cons (pe_fn G__law_e hr__law_e (by rfl) (pa_cons (pv 0) (pa_cons (pe_op op_sub (pv 1) pe_int) pa_nil))) pa_nil))))) pss_nil)
      (pss_cons (ps_set (i := 6) nd rfl (Or.inl rfl) (pe_ix (ix_any (K := K) rfl) (pe_lst (pa_cons pe_str (pa_cons pe_str (pa_cons pe_str (pa_cons pe_str (pa_cons pe_str (pa_cons pe_str (pa_cons pe_str (pa_cons pe_str (pa_cons pe_str pa_nil)))))))))) (pe_fn G__law_take hr__law_take (by rfl) (pa_cons (pv 0) (pa_cons pe_int pa_nil))) (fun _ _ => rfl)))
      (pss_one (ps_ret (pe_tup (pa_cons (pv 6) (pa_cons (pe_fn G__law_e hr__law_e (by rfl) (pa_cons (pv 0) (pa_cons (pe_op op_sub (pv 1) pe_int) pa_nil))) (pa_cons (pe_fn G__law_e hr__law_e (by rfl) (pa_cons (pv 0) (pa_cons (pe_op op_sub (pv 1) pe_int) pa_nil))) pa_nil)))))))))), ?_⟩
      try dsimp only [cxOf, Cx.nox, Cx.wish]
      obtain ⟨s, k, rfl, hs, hk, hn, q⟩ := h
      repeat walk_at "w"
      refine ⟨s, 7, rfl, hs, by decide, by decide, fun way H1 w0 w1 hs1 e1 => ?_⟩
      repeat walk_at "v"
      refine w_orP (k < 2) (way < 3) (by walk_at "tz") (by walk_at "tz") (fun b hb => ?_)
      refine ite2 (fun hk => ?_) (fun hk => ?_)
      · repeat walk_at "w"
        refine ⟨s, 4, rfl, hs1, by decide, by decide, fun x H2 x0 x1 hs2 e2 => ?_⟩
        repeat walk_at "w"
        refine w_new fun p3 H3 n3 s3 f3 => ?_
        have hs3 : Stm H3 s := s3.stm hs2
        repeat walk_at "w"
        refine ⟨s, 3, rfl, hs3, by decide, by decide, fun y H4 y0 y1 hs4 e4 => ?_⟩
        repeat walk_at "w"
        refine w_new fun p5 H5 n5 s5 f5 => ?_
        repeat walk_at "w"
        refine w_new fun p6 H6 n6 s6 f6 => ?_
        have hs6 : Stm H6 s := s6.stm (s5.stm hs4)
        repeat walk_at "w"
        refine ⟨s, 2, rfl, hs6, by decide, by decide, fun z H7 z0 z1 hs7 e7 => ?_⟩
        have t35 : TS H3 H5 := (TS.butS e4 hs3).trans (TS.of s5)
        have t57 : TS H5 H7 := (TS.of s6).trans (TS.butS e7 hs6)
        refine sel_at (SqL.of (e7.at (fun q => by rw [q] at f6; obtain ⟨_, _, _, g⟩ := hs6; rw [f6] at g; cases g) f6)) ((t35.trans t57).sqT (SqT.of f3)) (t57.sqT (SqT.of f5)) z0 z1 fun sl kk nn ks hsl => ?_
        repeat walk_at "w"
        refine w_new fun p8 H8 n8 s8 f8 => ?_
        have hs8 : Stm H8 s := s8.stm hs7
        repeat walk_at "w"
        refine ⟨s, 2, rfl, hs8, by decide, by decide, fun z2 H9 z20 z21 hs9 e9 => ?_⟩
        repeat walk_at "w"
        refine num_at (by walk_at "tr") z20 z21 fun m m0 m1 => ?_
        repeat walk_at "w"
        refine ⟨s, m, rfl, hs9, m0, m1, fun nb H10 _ _ hs10 e10 => ?_⟩
        repeat walk_at "w"
        refine w_new fun p11 H11 n11 s11 f11 => ?_
        have hs11 : Stm H11 s := s11.stm hs10
        repeat walk_at "w"
        refine ⟨s, 3, rfl, hs11, by decide, by decide, fun fd H12 _ _ hs12 e12 => ?_⟩
        repeat walk_at "w"
        refine w_new fun p13 H13 n13 s13 f13 => ?_
        repeat walk_at "w"
        refine w_new fun p14 H14 n14 s14 f14 => ?_
        repeat walk_at "w"
        refine w_new fun p15 H15 n15 s15 f15 => ?_
        repeat walk_at "w"
        refine w_new fun p16 H16 n16 s16 f16 => ?_
        repeat walk_at "w"
        refine w_new fun p17 H17 n17 s17 f17 => ?_
        have hs17 : Stm H17 s := s17.stm (s16.stm (s15.stm (s14.stm (s13.stm hs12))))
        repeat walk_at "w"
        refine ⟨s, 5, rfl, hs17, by decide, by decide, fun lf H18 l0 l1 hs18 e18 => ?_⟩
        refine leaf_at (k := kk) (n := nn) (by walk_at "tr") (by walk_at "tr") (by walk_at "tr") (by walk_at "tr") (by walk_at "tr") (by walk_at "tr") (by walk_at "tr") ks l0 l1 fun v e de oe => ?_
        exact q v e H18 de (oe.mono hn) hs18 (by walk_at "bu")
      · have hw : ¬ (k < 2) := fun z => hk (hb.mpr (.inl z))
        repeat walk_at "w"
        refine ite2 (fun hk3 => ?_) (fun hk3 => ?_)
        · repeat walk_at "w"
          refine ⟨s, _, rfl, hs1, by omega, by omega, fun v e H2 de oe hs2 e2 => ?_⟩
          repeat walk_at "w"
          refine w_new fun p3 H3 n3 s3 f3 => ?_
          exact q _ (.cell e) H3 (.tup (SqT.of f3) (.cons (.str _) (.cons (Exp.ts (TS.of s3) de) .nil))) ⟨Nat.succ_le_succ oe.1, oe.2⟩ (s3.stm hs2) (by walk_at "bu")
        · repeat walk_at "w"
          refine w_new fun p2 H2 n2 s2 f2 => ?_
          have hs2 : Stm H2 s := s2.stm hs1
          repeat walk_at "w"
          refine ⟨s, 9, rfl, hs2, by decide, by decide, fun ow H3 o0 o1 hs3 e3 => ?_⟩
          refine op_at (by walk_at "tr") o0 o1 fun o ho => ?_
          repeat walk_at "w"
          refine ⟨s, _, rfl, hs3, by omega, by omega, fun v e H4 de oe hs4 e4 => ?_⟩
          repeat walk_at "w"
          refine ⟨s, _, rfl, hs4, by omega, by omega, fun v2 f H5 df of hs5 e5 => ?_⟩
          repeat walk_at "w"
          refine w_new fun p6 H6 n6 s6 f6 => ?_
          exact q _ (.two o e f) H6 (.tup (SqT.of f6) (.cons (.str _) (.cons (Exp.ts ((TS.butS e5 hs4).trans (TS.of s6)) de) (.cons (Exp.ts (TS.of s6) df) .nil))))
            ⟨Nat.succ_le_succ (Nat.max_le.mpr ⟨oe.1, of.1⟩), ho, oe.2, of.2⟩ (s6.stm hs5) (by walk_at "bu")
end

end J
namespace J
open PySem PySem.Spec PyProof.Rows L2
local macro_rules | `(tactic| walk_at "cls") => `(tactic| first
  | with_reducible exact Facts.cl_Step
  | with_reducible exact Facts.cl_Get
  | with_reducible exact Facts.cl_Ask
  | with_reducible exact Facts.cl_Cell
  | with_reducible exact Facts.cl_Two
  | with_reducible exact Facts.cl_Put
  | with_reducible exact Facts.cl_Tell
  | with_reducible exact Facts.cl_Store
  | with_reducible exact Facts.cl_Parts
  | with_reducible exact Facts.cl_Order)
local macro_rules | `(tactic| walk_at "na") => `(tactic| first
  | with_reducible exact Facts.na_Get_to
  | with_reducible exact Facts.na_Get_sel
  | with_reducible exact Facts.na_Ask_to
  | with_reducible exact Facts.na_Ask_sel
  | with_reducible exact Facts.na_Cell_to
  | with_reducible exact Facts.na_Cell_source
  | with_reducible exact Facts.na_Two_to
  | with_reducible exact Facts.na_Two_op
  | with_reducible exact Facts.na_Two_one
  | with_reducible exact Facts.na_Two_other
  | with_reducible exact Facts.na_Put_sel
  | with_reducible exact Facts.na_Put_source
  | with_reducible exact Facts.na_Tell_sel
  | with_reducible exact Facts.na_Tell_source
  | with_reducible exact Facts.na_Store_at
  | with_reducible exact Facts.na_Store_source
  | with_reducible exact Facts.na_Parts_rows
  | with_reducible exact Facts.na_Order_parts
  | with_reducible exact Facts.na_Order_order
  | with_reducible exact Facts.na_Order_needed)
local macro_rules | `(tactic| walk_at "ty") => `(tactic| first
  | with_reducible exact ty_int
  | with_reducible exact ty_bl
  | with_reducible exact ty_str
  | with_reducible exact ty_non
  | ((with_reducible refine' ty_lst ?vv); (case vv => walk_at "tr"))
  | ((with_reducible refine' ty_sqT ?vv); (case vv => walk_at "tr"))
  | ((with_reducible refine' ty_dic ?vv); (case vv => walk_at "tr")))
local macro_rules | `(tactic| walk_at "ix") => `(tactic| first | exact at0 | exact at1 | exact at2 | assumption)
local macro_rules | `(tactic| walk_at "size") => `(tactic| first
  | assumption
  | (show _ < sizeLine; rw [sizeLine_eq]; (try simp only [List.length_cons, List.length_nil, List.length_append, List.length_map]); omega)
  | (show _ ≤ sizeLine; rw [sizeLine_eq]; (try simp only [List.length_cons, List.length_nil, List.length_append, List.length_map]); omega))
local macro_rules | `(tactic| walk_at "side") => `(tactic| first
  | assumption
  | ((with_reducible refine cdw ?_ ?_) <;> omega)
  | omega
  | (exact ⟨by omega, by omega⟩)
  | (exact Or.inl ⟨by omega, by omega⟩)
  | (exact Or.inr ⟨by omega, by omega⟩)
  | decide
  | (simp only [List.length_cons, List.length_nil, List.length_append, List.length_map]; omega)
  | (show _ ≤ _; decide))
local macro_rules | `(tactic| walk_at "as") => `(tactic| with_reducible assumption)
local macro_rules | `(tactic| walk_at "tr") => `(tactic| first
  | with_reducible assumption
  | with_reducible exact upd_same
  | ((with_reducible refine' SqL.of ?hh); (case hh => walk_at "as"))
  | ((with_reducible refine' SqT.of ?hh); (case hh => walk_at "as"))
  | ((with_reducible refine' Same.stm ?ee ?gg); (case ee => walk_at "as"); (case gg => walk_at "tr"))
  | ((with_reducible refine' Same.sqT ?ee ?gg); (case ee => walk_at "as"); (case gg => walk_at "tr"))
  | ((with_reducible refine' Same.sqL ?ee ?gg); (case ee => walk_at "as"); (case gg => walk_at "tr"))
  | ((with_reducible refine' Same.at ?ee ?gg); (case ee => walk_at "as"); (case gg => walk_at "tr"))
  | ((with_reducible refine' But.stm ?ee ?ff ?gg); (case ee => walk_at "as"); (case ff => walk_at "ne"); (case gg => walk_at "tr"))
  | ((with_reducible refine' But.tup ?ee ?ff ?gg); (case ee => walk_at "as"); (case ff => walk_at "tr1"); (case gg => walk_at "tr"))
  | ((with_reducible refine' But.sqT ?ee ?ff ?gg); (case ee => walk_at "as"); (case ff => walk_at "tr1"); (case gg => walk_at "tr"))
  | ((with_reducible refine' But.tupL ?ee ?ff ?gg); (case ee => walk_at "as"); (case ff => walk_at "tr1"); (case gg => walk_at "tr"))
  | ((with_reducible refine' But.sqTL ?ee ?ff ?gg); (case ee => walk_at "as"); (case ff => walk_at "tr1"); (case gg => walk_at "tr"))
  | ((with_reducible refine' But.sqL ?ee ?ff ?gg); (case ee => walk_at "as"); (case ff => walk_at "ne"); (case gg => walk_at "tr"))
  | ((with_reducible refine' But.at ?ee ?ff ?gg); (case ee => walk_at "as"); (case ff => walk_at "ne"); (case gg => walk_at "tr")))
local macro_rules | `(tactic| walk_at "ts") => `(tactic| first
  | with_reducible assumption
  | with_reducible exact TS.refl _
  | ((with_reducible refine' TS.trans ?gg (TS.of ?ee)); (case ee => walk_at "as"); (case gg => walk_at "ts"))
  | ((with_reducible refine' TS.trans ?gg (TS.butS ?ee ?ff)); (case ee => walk_at "as"); (case ff => walk_at "tr1"); (case gg => walk_at "ts"))
  | ((with_reducible refine' TS.trans ?gg (TS.butL ?ee ?ff)); (case ee => walk_at "as"); (case ff => walk_at "tr1"); (case gg => walk_at "ts"))
  | ((with_reducible refine' TS.trans ?gg (TS.butI ?ee ?ff)); (case ee => walk_at "as"); (case ff => walk_at "tr1"); (case gg => walk_at "ts")))
local macro_rules | `(tactic| walk_at "sm") => `(tactic| first
  | with_reducible assumption
  | with_reducible exact Same.refl _
  | ((with_reducible refine' Same.trans ?gg ?ee); (case ee => walk_at "as"); (case gg => walk_at "sm"))
  | ((with_reducible refine' But.new ?gg ?nn ?ee); (case ee => walk_at "as"); (case nn => walk_at "fr"); (case gg => walk_at "sm")))
local macro_rules | `(tactic| walk_at "fr") => `(tactic| first
  | with_reducible assumption
  | ((with_reducible refine' Same.back ?ee ?nn); (case nn => walk_at "as"); (case ee => walk_at "sm"))
  | ((with_reducible refine' But.back ?ee ?ff ?nn); (case nn => walk_at "as"); (case ff => walk_at "ne0"); (case ee => walk_at "bu")))
local macro_rules | `(tactic| walk_at "bu") => `(tactic| first
  | with_reducible assumption
  | with_reducible exact But.refl _ _
  | ((with_reducible refine' But.trans ?gg ?ee); (case ee => walk_at "as"); (case gg => walk_at "bu"))
  | ((with_reducible refine' But.trans ?gg (But.of ?ee)); (case ee => walk_at "as"); (case gg => walk_at "bu"))
  | ((with_reducible refine' But.new2 ?gg ?nn ?ee); (case ee => walk_at "as"); (case nn => walk_at "frB"); (case gg => walk_at "bu")))
local macro_rules | `(tactic| walk_at "frB") => `(tactic| first
  | with_reducible assumption
  | ((with_reducible refine' Same.back ?ee ?nn); (case nn => walk_at "as"); (case ee => walk_at "sm"))
  | ((with_reducible refine' But.back' ?ee ?ff ?nn); (case nn => walk_at "as"); (case ee => walk_at "bu"); (case ff => walk_at "tr1")))
local macro_rules | `(tactic| walk_at "tr1") => `(tactic| first
  | with_reducible assumption
  | ((with_reducible refine' Same.stm ?ee ?gg); (case ee => walk_at "as"); (case gg => walk_at "tr1"))
  | ((with_reducible refine' Same.at ?ee ?gg); (case ee => walk_at "as"); (case gg => walk_at "tr1"))
  | ((with_reducible refine' But.at ?ee ?ff ?gg); (case ee => walk_at "as"); (case ff => walk_at "ne0"); (case gg => walk_at "tr1"))
  | ((with_reducible refine' But.stm ?ee ?ff ?gg); (case ee => walk_at "as"); (case ff => walk_at "ne0"); (case gg => walk_at "tr1")))
local macro_rules | `(tactic| walk_at "ne0") => `(tactic| first
  | with_reducible assumption
  | (with_reducible apply Ne.symm; with_reducible assumption))
local macro_rules | `(tactic| walk_at "ne") => `(tactic| first
  | with_reducible assumption
  | (with_reducible apply Ne.symm; with_reducible assumption)
  | ((with_reducible refine' stm_ne ?hh ?nn); (case nn => walk_at "as"); (case hh => walk_at "tr1"))
  | ((with_reducible refine' ne_of_none ?hh ?nn); (case nn => walk_at "as"); (case hh => walk_at "tr1"))
  | ((with_reducible apply Ne.symm); (with_reducible refine' ne_of_none ?hh ?nn); (case nn => walk_at "as"); (case hh => walk_at "tr1")))
local macro_rules | `(tactic| walk_at "v") => `(tactic| first
  | with_reducible refine w_seq ?_
  | ((with_reducible refine' w_var ?vv ?_); (case vv => exact rfl))
  | with_reducible refine w_c ?_
  | with_reducible refine w_op ?_
  | with_reducible refine w_asg ?_
  | with_reducible refine w_gName ?_
  | with_reducible refine w_ret ?_
  | with_reducible refine w_ifS ?_
  | with_reducible refine w_drop ?_
  | with_reducible refine w_next ?_
  | with_reducible refine w_cons ?_
  | with_reducible refine w_nil ?_
  | with_reducible refine w_call ?_
  | with_reducible refine w_cb ?_
  | with_reducible refine w_rI0 ?_
  | with_reducible refine w_addI ?_
  | with_reducible refine w_eqI ?_
  | with_reducible refine w_neI ?_
  | with_reducible refine w_eqS ?_
  | with_reducible refine w_neS ?_
  | with_reducible refine w_eqB ?_
  | with_reducible refine w_neB ?_
  | with_reducible refine w_chain ?_
  | with_reducible refine w_test ?_
  | with_reducible refine w_tB ?_
  | with_reducible refine w_bl ?_
  | ((with_reducible refine' w_mulI ?vv ?_); (case vv => walk_at "side"))
  | ((with_reducible refine' w_rI ?vv ?_); (case vv => walk_at "side"))
  | with_reducible refine w_int1 ?_
  | with_reducible refine w_int1b ?_
  | with_reducible refine w_tup ?_
  | with_reducible refine w_lst ?_
  | with_reducible refine w_un ?_
  | with_reducible refine w_rU ?_
  | with_reducible refine w_not ?_
  | with_reducible refine w_notV ?_
  | with_reducible refine w_ifE ?_
  | with_reducible refine w_nT ?_
  | with_reducible refine w_nF ?_
  | with_reducible refine iteT ?_
  | with_reducible refine iteF ?_
  | ((with_reducible refine' w_ixT ?vv ?ww ?_); (case vv => walk_at "tr"); (case ww => walk_at "ix"))
  | ((with_reducible refine' w_ixL ?vv ?ww ?_); (case vv => walk_at "tr"); (case ww => walk_at "ix"))
  | with_reducible refine w_gSub ?_
  | ((with_reducible refine' w_setL ?vv ?ww ?_); (case vv => walk_at "tr"); (case ww => first | rfl | decide | assumption))
  | ((with_reducible refine' w_lenL ?vv ?_); (case vv => walk_at "tr"))
  | ((with_reducible refine' w_lenT ?vv ?_); (case vv => walk_at "tr"))
  | with_reducible refine w_max2 ?_
  | with_reducible refine w_max3 ?_
  | with_reducible refine w_din ?_
  | with_reducible refine w_dnotin ?_
  | with_reducible refine w_dput ?_
  | with_reducible refine w_min2 ?_
  | with_reducible refine w_bm ?_
  | with_reducible refine w_bm0 ?_
  | ((with_reducible refine' w_tyL ?vv ?_); (case vv => walk_at "tr"))
  | ((with_reducible refine' w_append ?vv ?ww ?_); (case vv => walk_at "tr"); (case ww => walk_at "size"))
  | ((with_reducible refine' w_size ?vv ?_); (case vv => walk_at "size"))
  | with_reducible refine w_forL ?_
  | with_reducible refine w_forT ?_
  | with_reducible refine w_forR1 ?_
  | with_reducible refine w_forR2 ?_
  | with_reducible refine w_lcL ?_
  | with_reducible refine w_lcT ?_
  | with_reducible refine w_lcR1 ?_
  | with_reducible refine w_yes ?_
  | with_reducible refine w_sl ?_
  | with_reducible refine w_noPart ?_
  | with_reducible refine w_part ?_
  | with_reducible refine w_int ?_
  | ((with_reducible refine' w_slL ?vv ?_); (case vv => walk_at "tr"))
  | ((with_reducible refine' w_seqL ?vv ?ww ?_); (case vv => walk_at "tr"); (case ww => rfl))
  | ((with_reducible refine' w_seqT ?vv ?ww ?_); (case vv => walk_at "tr"); (case ww => rfl))
  | with_reducible refine w_gNil ?_
  | with_reducible refine w_gCons ?_
  | with_reducible refine w_forZ ?_
  | with_reducible refine w_forM ?_
  | with_reducible refine w_forE ?_
  | with_reducible refine w_forV ?_
  | with_reducible refine w_lcZ ?_
  | with_reducible refine w_lcE ?_
  | ((with_reducible refine' w_isi (b := true) ?vv ?ww ?_); (case vv => walk_at "ty"); (case ww => decide +kernel))
  | ((with_reducible refine' w_isi (b := false) ?vv ?ww ?_); (case vv => walk_at "ty"); (case ww => decide +kernel))
  | with_reducible refine w_revL ?_
  | with_reducible refine w_pairN ?_
  | with_reducible refine w_pairC ?_
  | with_reducible refine w_dget ?_
  | with_reducible refine w_met ?_
  | ((with_reducible refine' w_metAt ?vv ?ww ?_); (case vv => walk_at "tr"); (case ww => rfl))
  | with_reducible refine w_mkI ?_
  | with_reducible refine w_fld ?_
  | ((with_reducible refine' w_fldAt ?vv ?cc ?nn ?ww ?_); (case vv => walk_at "tr"); (case cc => walk_at "cls"); (case nn => walk_at "na"); (case ww => rfl))
  | with_reducible refine w_sfld ?_
  | ((with_reducible refine' w_sfldAt ?vv ?cc ?nn ?ll ?ee ?_); (case vv => walk_at "tr"); (case cc => walk_at "cls"); (case nn => walk_at "na"); (case ll => simp); (case ee => rfl))
  | ((with_reducible refine' w_tupL ?vv ?_); (case vv => walk_at "tr"))
  | ((with_reducible refine' w_tupT ?vv ?_); (case vv => walk_at "tr"))
  | ((with_reducible refine' w_listL ?vv ?_); (case vv => walk_at "tr"))
  | ((with_reducible refine' w_listT ?vv ?_); (case vv => walk_at "tr"))
  | with_reducible refine w_tyS ?_
  | with_reducible refine w_retN ?_
  | with_reducible refine w_break ?_
  | with_reducible refine w_cont ?_)
local macro_rules | `(tactic| walk_at "w") => `(tactic| first
  | walk_at "v"
  | with_reducible refine w_or ?_
  | with_reducible refine w_and ?_
  | with_reducible refine w_andV ?_
  | with_reducible refine w_orV ?_)
local macro_rules | `(tactic| walk_at "wd") => `(tactic| first
  | walk_at "w"
  | ((with_reducible refine' w_decT ?vv ?_); (case vv => decide +kernel))
  | ((with_reducible refine' w_decF ?vv ?_); (case vv => decide +kernel)))
local macro_rules | `(tactic| walk_at "tz") => `(tactic| (intro S z; (repeat walk_at "w"); exact z))
local macro_rules | `(tactic| walk_at "wf") => `(tactic| first
  | walk_at "wd"
  | ((with_reducible refine' w_decF ?vv ?_); (case vv => with_reducible assumption)))
def spSets (K : PySem.W.Frag) : Sp := fun vs H Q _ => ∃ (s : Addr), vs = [.ref s] ∧ Stm H s ∧ ∀ v ss H', Dp K H' v (setsD ss) → ss.length ≤ 4 → (∀ x ∈ ss, OkS 4 x) → Stm H' s → But s H H' → Q v H'
theorem len_law_sets {K : PySem.W.Frag} {vs H Q E} (h : spSets K vs H Q E) : vs.length = 1 := by obtain ⟨_, rfl, _⟩ := h; rfl
theorem times_at {i : Int} {H : Hp} {Q : VK} {K : PySem.W.Frag} {p : Addr} (h : SqL K H p [.int 1, .int 2, .int 3, .int 4, .int 0]) (h0 : 0 ≤ i) (h1 : i < 5) (k : ∀ m : Int, 0 ≤ m → m ≤ 4 → Q (.int m) H) : rIx K (.ref p) (.int i) H Q := by
  have z : i = 0 ∨ i = 1 ∨ i = 2 ∨ i = 3 ∨ i = 4 := by omega
  rcases z with rfl | rfl | rfl | rfl | rfl
  · exact w_ixL h at0 (k _ (by decide) (by decide))
  · exact w_ixL h at1 (k _ (by decide) (by decide))
  · exact w_ixL h at2 (k _ (by decide) (by decide))
  · exact w_ixL h (atI_of (by decide) rfl) (k _ (by decide) (by decide))
  · exact w_ixL h (atI_of (by decide) rfl) (k _ (by decide) (by decide))
theorem kind_at {b : Bool} {H : Hp} {Q : VK} {K : PySem.W.Frag} {p : Addr} {x y : Str} (h : SqL K H p [.str x, .str y]) (k : Q (.str (if b = true then y else x)) H) : rIx K (.ref p) (.int (if b = true then 1 else 0)) H Q := by
  cases b
  · exact w_ixL h at0 k
  · exact w_ixL h at1 k
def SetE.kind : SetE → Str
  | .cell _ _ => "cell"
  | .sel m _ _ _ => if m then "mark" else "place"
theorem SetE.at0 {K : PySem.W.Frag} {H : Hp} {v : V} : ∀ {s : SetE}, Dp K H v s.d → ∃ p r, v = .ref p ∧ SqT K H p (.str s.kind :: r)
  | .cell a b, h => by
    obtain ⟨p, xs, rfl, hs, ha⟩ := dp_tup h
    obtain ⟨x, r, rfl, hx, _⟩ := dpa_cons ha
    rw [dp_str hx] at hs
    exact ⟨p, r, rfl, hs⟩
  | .sel _ _ _ _, h => by
    obtain ⟨p, xs, rfl, hs, ha⟩ := dp_tup h
    obtain ⟨x, r, rfl, hx, _⟩ := dpa_cons ha
    rw [dp_str hx] at hs
    exact ⟨p, r, rfl, hs⟩
/-- a list of drawn sets -/
def SL (K : PySem.W.Frag) (H : Hp) (p : Addr) (ss : List SetE) : Prop := ∃ xs, H p = some (.lst xs) ∧ DpAll K H xs (ss.map SetE.d) ∧ ∀ x ∈ ss, OkS 4 x
theorem SL.new {K : PySem.W.Frag} {H : Hp} {p : Addr} (h : H p = some (.lst [])) : SL K H p [] := ⟨[], h, .nil, fun _ q => (List.not_mem_nil q).elim⟩
theorem SL.len {K : PySem.W.Frag} {H : Hp} {p : Addr} {ss : List SetE} (h : SL K H p ss) : ∃ xs, H p = some (.lst xs) ∧ xs.length = ss.length := by
  obtain ⟨xs, h, d, _⟩ := h
  exact ⟨xs, h, by rw [dpa_len d, List.length_map]⟩
theorem SL.ts {K : PySem.W.Frag} {H H' : Hp} {p : Addr} {ss : List SetE} (h : SL K H p ss) (e : TS H H') (k : ∀ xs, H p = some (.lst xs) → H' p = some (.lst xs)) : SL K H' p ss := by
  obtain ⟨xs, h, d, o⟩ := h
  exact ⟨xs, k _ h, dpAll_ts e _ _ (setsD_tup ss) d, o⟩
section
variable {P : Program} {w : World} {K : PySem.W.Frag} {mg : Str → Option Value}
theorem ok_law_sets [c : Facts K mg] (G__law_e : Fn P w K mg "_law_e" 6 ["stream", "deep"] ((spE K 4))) (G__law_take : Fn P w K mg "_law_take" 1 ["stream", "many"] (spTake)) : Fn P w K mg "_law_sets" 7 ["stream"] ((spSets K)) := by
  obtain ⟨fd, F⟩ := c.d_law_sets
  refine Fn.mk' F c.g_law_sets sc_law_sets (k := 6) (fun vs H Q E h => ?_) (fun _ _ _ _ _ _ us hl => match us, hl with | [_], _ => rfl) (fun base cdv A outer s H vs Q E hr h => ?_)
  · exact len_law_sets h
  · have nd := sc_law_sets.nd
    have hu := hu_of hr
    have hr__law_e : Room 6 _ := hr.mono (by omega)
    have hr__law_take : Room 1 _ := hr.mono (by omega)
    refine ⟨_, (pss_cons (ps_set (i := 1) nd rfl (Or.inl rfl) (pe_lst pa_nil))
      (pss_cons (ps_set (i := 2) nd rfl (Or.inl rfl) (pe_op (op_addA (K := K) rfl) pe_int (pe_fn G__law_take hr__law_take (by rfl) (pa_cons (pv 0) (pa_cons pe_int pa_nil)))))
      (pss_cons (ps_for PassesOwn.never rfl (pi_range1 (by rfl) c.f_range (pa_cons (pe_ix (ix_any (K := K) rfl) (pe_lst (pa_cons pe_int (pa_cons pe_int (pa_cons pe_int (pa_cons pe_int (pa_cons pe_int pa_nil)))))) (pe_fn G__law_take hr__law_take (by rfl) (pa_cons (pv 0) (pa_cons pe_int pa_nil))) (fun _ _ => rfl)) pa_nil)) (pg_name (i := 3) nd rfl (Or.inl rfl)) (pss_cons (ps_set (i := 4) nd rfl (Or.inl rfl) (pe_fn G__law_take hr__law_take (by rfl) (pa_cons (pv 0) (pa_cons pe_int pa_nil))))
      (pss_cons (ps_set (i := 5) nd rfl (Or.inl rfl) (pe_ix (ix_any (K := K) rfl) (pe_lst (pa_cons (pe_tup (pa_cons pe_str (pa_cons (pe_fn G__law_take hr__law_take (by rfl) (pa_cons (pv 0) (pa_cons pe_int pa_nil))) pa_nil))) (pa_cons (pe_tup (pa_cons pe_str (pa_cons (pe_fn G__law_take hr__law_take (by rfl) (pa_cons (pv 0) (pa_cons pe_int pa_nil))) pa_nil))) pa_nil))) (pe_fn G__law_take hr__law_take (by rfl) (pa_cons (pv 0) (pa_cons pe_int pa_nil))) (fun _ _ => rfl)))
      (pss_one (ps_if (PW.pt (pw_and (pt_cmpR (op_eqA (K := K) rfl hr.units) (pv 4) pe_int (nomark _)) (pw_and1 (pt_cmpR (op_eqA (K := K) rfl hr.units) (pe_lc (own := [("one", 6)]) rfl nd (pi_list (pv 1)) (blkOk_by (N := N_law_sets) (sc := defScope s_law_sets) (by decide +kernel)) (fun _ _ _ _ _ => (pg_name (i := 6) nd rfl (Or.inl rfl))) (fun _ _ _ _ _ => pts_one (pt_cmpR (op_eqA (K := K) rfl hr.units) (pe_ix (ix_any (K := K) rfl) (pv 6) pe_int (fun _ _ => rfl)) pe_str (nomark _))) (fun _ _ _ _ _ => (pv 6))) (pe_lst pa_nil) (nomark _))))) (pss_one (ps_expr (pe_bm PySem.F.plainAttrs_list PySem.F.slot_list_append PySem.F.type_list_append mt_append (pv 1) (pa_cons (pe_tup (pa_cons pe_str (pa_cons (pe_fn G__law_e hr__law_e (by rfl) (pa_cons (pv 0) (pa_cons (pv 2) pa_nil))) (pa_cons (pe_fn G__law_e hr__law_e (by rfl) (pa_cons (pv 0) (pa_cons (pv 2) pa_nil))) pa_nil)))) pa_nil)))) (pss_one (ps_expr (pe_bm PySem.F.plainAttrs_list PySem.F.slot_list_append PySem.F.type_list_append mt_append (pv 1) (pa_cons (pe_tup (pa_cons (pe_ix (ix_any (K := K) rfl) (pe_lst (pa_cons pe_str (pa_cons pe_str pa_nil))) (pe_callTy call_int1A (by rfl) c.f_int boot_int (pa_cons (pe_cmpR (op_eqA (K := K) rfl hr.units) (pv 4) pe_int (nomark _)) pa_nil)) (fun _ _ => rfl)) (pa_cons (pv 5) (pa_cons (pe_fn G__law_e hr__law_e (by rfl) (pa_cons (pv 0) (pa_cons (pv 2) pa_nil))) pa_nil)))) pa_nil)))))))))
      (pss_one (ps_ret (pe_callTy (call_tupA (K := K) rfl) (by rfl) c.f_tuple boot_tuple (pa_cons (pv 1) pa_nil))))))), ?_⟩
    try dsimp only [cxOf, Cx.nox, Cx.wish]
    obtain ⟨s, rfl, hs, q⟩ := h
    repeat walk_at "w"
    refine w_new fun p1 H1 n1 s1 f1 => ?_
    have hs1 : Stm H1 s := s1.stm hs
    repeat walk_at "w"
    refine ⟨s, 4, rfl, hs1, by decide, by decide, fun dp H2 d0 d1 hs2 e2 => ?_⟩
    repeat walk_at "w"
    refine w_new fun p3 H3 n3 s3 f3 => ?_
    have hs3 : Stm H3 s := s3.stm hs2
    repeat walk_at "w"
    refine ⟨s, 5, rfl, hs3, by decide, by decide, fun tm H4 t0 t1 hs4 e4 => ?_⟩
    repeat walk_at "w"
    refine times_at (by walk_at "tr") t0 t1 fun m m0 m1 => ?_
    repeat walk_at "w"
    have f4 : H4 p1 = some (.lst []) := by walk_at "tr"
    have b4 : But s H H4 := by walk_at "bu"
    have np : p1 ≠ s := stm_ne hs n1
    refine fl_rng1 (fun i σ H' => ∃ ss k y z, ss.length = i ∧ SL K H' p1 ss ∧ Stm H' s ∧ But s H H' ∧ σ = [some (.ref s), some (.ref p1), some (.int (1 + dp)), k, y, z, none]) (by omega) (by omega) ⟨[], _, _, _, rfl, SL.new f4, hs4, b4, rfl⟩ (fun i σ H5 hi hp => ?_) (fun σ H5 hp => ?_)
    · obtain ⟨ss, k, y, z, hl, hS, hs5, b5, rfl⟩ := hp
      repeat walk_at "w"
      refine ⟨s, 3, rfl, hs5, by decide, by decide, fun wy H6 w0 w1 hs6 e6 => ?_⟩
      repeat walk_at "w"
      refine ⟨s, 4, rfl, hs6, by decide, by decide, fun x H7 x0 x1 hs7 e7 => ?_⟩
      repeat walk_at "w"
      refine w_new fun p8 H8 n8 s8 f8 => ?_
      have hs8 : Stm H8 s := s8.stm hs7
      repeat walk_at "w"
      refine ⟨s, 3, rfl, hs8, by decide, by decide, fun y H9 y0 y1 hs9 e9 => ?_⟩
      repeat walk_at "w"
      refine w_new fun p10 H10 n10 s10 f10 => ?_
      repeat walk_at "w"
      refine w_new fun p11 H11 n11 s11 f11 => ?_
      have hs11 : Stm H11 s := s11.stm (s10.stm hs9)
      repeat walk_at "w"
      refine ⟨s, 2, rfl, hs11, by decide, by decide, fun z H12 z0 z1 hs12 e12 => ?_⟩
      refine sel_at (by walk_at "tr") (by walk_at "tr") (by walk_at "tr") z0 z1 fun sl kk nn ks hsl => ?_
      have hS12 : SL K H12 p1 ss := by
        refine hS.ts (by walk_at "ts") fun xs hx => ?_
        walk_at "tr"
      have b12 : But s H H12 := by walk_at "bu"
      clear hS e12 e9 e7 e6 s8 s10 s11 hs8 hs9 hs11 hs6 hs7 f8 f10 f11 n8 n10 n11 b5 hs5
      repeat walk_at "v"
      refine w_andK (Same H12) (fun b H' sm => ?_) (fun hR => ?_)
      · obtain ⟨xs, hx, hd, ho⟩ : SL K H' p1 ss := hS12.ts (TS.of sm) fun xs hx => sm _ _ hx
        have hs' : Stm H' s := sm.stm hs12
        have hxl : xs.length = i := by rw [dpa_len hd, List.length_map, hl]
        have b' : But s H H' := b12.trans (But.of sm)
        have hsl' : SqT K H' sl [.str kk, .int nn] := sm.sqT hsl
        clear b12 hs12 hS12 hsl
        refine ite2 (fun hb => ?_) (fun hb => ?_)
        · repeat walk_at "w"
          refine ⟨s, _, rfl, hs', by omega, by decide, fun v e H13 de oe hs13 e13 => ?_⟩
          repeat walk_at "w"
          refine ⟨s, _, rfl, hs13, by omega, by decide, fun v2 f H14 df of hs14 e14 => ?_⟩
          repeat walk_at "w"
          refine w_new fun p15 H15 n15 s15 f15 => ?_
          repeat walk_at "w"
          refine w_chg fun H16 e16 f16 => ?_
          repeat walk_at "w"
          have f15' : H15 p1 = some (.lst xs) := by walk_at "tr"
          have t16 : TS H15 H16 := TS.butL e16 f15'
          have t13 : TS H' H15 := ((TS.butS e13 hs').trans (TS.butS e14 hs13)).trans (TS.of s15)
          have hs15 : Stm H15 s := s15.stm hs14
          refine ⟨ss ++ [.cell e f], _, _, _, by rw [List.length_append, hl]; rfl, ⟨_, f16, ?_, ?_⟩, e16.stm np.symm hs15, ?_, rfl⟩
          · rw [List.map_append]
            refine dpa_app (dpAll_ts (t13.trans t16) _ _ (setsD_tup ss) hd) (dpa_one (.tup (t16.sqT (SqT.of f15)) (.cons (.str _) (.cons (Exp.ts ((TS.butS e14 hs13).trans ((TS.of s15).trans t16)) de) (.cons (Exp.ts ((TS.of s15).trans t16) df) .nil)))))
          · intro x hx
            rcases List.mem_append.mp hx with g | g
            · exact ho x g
            · rw [List.mem_singleton.mp g]; exact ⟨oe, of⟩
          · walk_at "bu"
        · repeat walk_at "w"
          refine w_new fun p13 H13 n13 s13 f13 => ?_
          repeat walk_at "w"
          refine kind_at (SqL.of f13) ?_
          repeat walk_at "w"
          refine ⟨s, _, rfl, s13.stm hs', by omega, by decide, fun v e H14 de oe hs14 e14 => ?_⟩
          repeat walk_at "w"
          refine w_new fun p15 H15 n15 s15 f15 => ?_
          repeat walk_at "w"
          refine w_chg fun H16 e16 f16 => ?_
          repeat walk_at "w"
          have f15' : H15 p1 = some (.lst xs) := by walk_at "tr"
          have t16 : TS H15 H16 := TS.butL e16 f15'
          have t13 : TS H' H15 := ((TS.of s13).trans (TS.butS e14 (s13.stm hs'))).trans (TS.of s15)
          have hs15 : Stm H15 s := s15.stm hs14
          refine ⟨ss ++ [.sel (decide (wy = 1)) kk nn e], _, _, _, by rw [List.length_append, hl]; rfl, ⟨_, f16, ?_, ?_⟩, e16.stm np.symm hs15, ?_, rfl⟩
          · rw [List.map_append]
            refine dpa_app (dpAll_ts (t13.trans t16) _ _ (setsD_tup ss) hd) (dpa_one (.tup (t16.sqT (SqT.of f15)) (.cons (.str _) (.cons (dp_pair ((t13.trans t16).sqT hsl')) (.cons (Exp.ts ((TS.of s15).trans t16) de) .nil)))))
          · intro x hx
            rcases List.mem_append.mp hx with g | g
            · exact ho x g
            · rw [List.mem_singleton.mp g]; exact ⟨ks, oe⟩
          · walk_at "bu"
      · repeat walk_at "w"
        refine ite2 (fun hw => ?_) (fun hw => ?_)
        · repeat walk_at "w"
          obtain ⟨xs, hx, hd, ho⟩ := hS12
          refine lc_L xs (fun D i ys H' => Same H12 H' ∧ ∃ ts, DpAll K H' ys (ts.map SetE.d) ∧ ∀ x ∈ ts, OkS 4 x) (SqL.of hx) (fun D H' hD e f => ⟨e, [], .nil, fun _ q => (List.not_mem_nil q).elim⟩) (fun D hD i ys H' hi hy hp => hp.1.sqL (SqL.of hx)) (fun D hD j x ys H' hi hj hy hp => ?_) (fun D hD ys H' hl hy hp => ?_)
          · obtain ⟨e, ts, hts, ot⟩ := hp
            obtain ⟨d, hd1, hd2⟩ := dpa_at' (dpAll_ts (TS.of e) _ _ (setsD_tup ss) hd) hi
            obtain ⟨a, ha, rfl⟩ : ∃ a ∈ ss, a.d = d := List.mem_map.mp (List.mem_of_getElem? hd1)
            obtain ⟨pa, r, rfl, hpa⟩ := SetE.at0 hd2
            repeat walk_at "w"
            refine ite2 (fun hk => ?_) (fun hk => ?_)
            · repeat walk_at "w"
              refine lc_end hy hj (by have := (List.getElem?_eq_some_iff.mp hi).1; rw [sizeLine_eq]; have := dpa_len hd; rw [List.length_map] at this; omega) fun H'' e2 f2 => ?_
              have t2 : TS H' H'' := TS.butL e2 hy
              refine ⟨But.new e hD e2, ts ++ [a], ?_, ?_⟩
              · rw [List.map_append]
                exact dpa_app (dpAll_ts t2 _ _ (setsD_tup ts) hts) (dpa_one (dp_ts t2 _ _ a.tup hd2))
              · intro x hx
                rcases List.mem_append.mp hx with g | g
                · exact ot x g
                · rw [List.mem_singleton.mp g]; exact ho a ha
            · exact lc_skip hy hj ⟨e, ts, hts, ot⟩
          · obtain ⟨e, ts, hts, ot⟩ := hp
            repeat walk_at "w"
            refine w_new fun p14 H14 n14 s14 f14 => ?_
            refine w_eqP (e := .list []) (.lst (SqL.of (s14.at hy)) (dpAll_ts (TS.of s14) _ _ (setsD_tup ts) hts)) (.lst (SqL.of f14) .nil) (cmpL ot) (cmpL (ss := []) (fun _ q => (List.not_mem_nil q).elim)) fun b hb => ?_
            repeat walk_at "w"
            exact hR _ _ (e.trans s14)
        · exact hR _ _ (Same.refl _)
    · obtain ⟨ss, k, y, z, hl, ⟨xs, hx, hd, ho⟩, hs5, b5, rfl⟩ := hp
      repeat walk_at "w"
      refine w_new fun p6 H6 n6 s6 f6 => ?_
      exact q _ ss H6 (.tup (SqT.of f6) (dpAll_ts (TS.of s6) _ _ (setsD_tup ss) hd)) (by omega) ho (s6.stm hs5) (b5.trans (But.of s6))
end

end J
namespace J
open PySem PySem.Spec PyProof.Rows L2
local macro_rules | `(tactic| walk_at "cls") => `(tactic| first
  | with_reducible exact Facts.cl_Step
  | with_reducible exact Facts.cl_Get
  | with_reducible exact Facts.cl_Ask
  | with_reducible exact Facts.cl_Cell
  | with_reducible exact Facts.cl_Two
  | with_reducible exact Facts.cl_Put
  | with_reducible exact Facts.cl_Tell
  | with_reducible exact Facts.cl_Store
  | with_reducible exact Facts.cl_Parts
  | with_reducible exact Facts.cl_Order)
local macro_rules | `(tactic| walk_at "na") => `(tactic| first
  | with_reducible exact Facts.na_Get_to
  | with_reducible exact Facts.na_Get_sel
  | with_reducible exact Facts.na_Ask_to
  | with_reducible exact Facts.na_Ask_sel
  | with_reducible exact Facts.na_Cell_to
  | with_reducible exact Facts.na_Cell_source
  | with_reducible exact Facts.na_Two_to
  | with_reducible exact Facts.na_Two_op
  | with_reducible exact Facts.na_Two_one
  | with_reducible exact Facts.na_Two_other
  | with_reducible exact Facts.na_Put_sel
  | with_reducible exact Facts.na_Put_source
  | with_reducible exact Facts.na_Tell_sel
  | with_reducible exact Facts.na_Tell_source
  | with_reducible exact Facts.na_Store_at
  | with_reducible exact Facts.na_Store_source
  | with_reducible exact Facts.na_Parts_rows
  | with_reducible exact Facts.na_Order_parts
  | with_reducible exact Facts.na_Order_order
  | with_reducible exact Facts.na_Order_needed)
local macro_rules | `(tactic| walk_at "ty") => `(tactic| first
  | with_reducible exact ty_int
  | with_reducible exact ty_bl
  | with_reducible exact ty_str
  | with_reducible exact ty_non
  | ((with_reducible refine' ty_lst ?vv); (case vv => walk_at "tr"))
  | ((with_reducible refine' ty_sqT ?vv); (case vv => walk_at "tr"))
  | ((with_reducible refine' ty_dic ?vv); (case vv => walk_at "tr")))
local macro_rules | `(tactic| walk_at "ix") => `(tactic| first | exact at0 | exact at1 | exact at2 | assumption)
local macro_rules | `(tactic| walk_at "size") => `(tactic| first
  | assumption
  | (show _ < sizeLine; rw [sizeLine_eq]; (try simp only [List.length_cons, List.length_nil, List.length_append, List.length_map]); omega)
  | (show _ ≤ sizeLine; rw [sizeLine_eq]; (try simp only [List.length_cons, List.length_nil, List.length_append, List.length_map]); omega))
local macro_rules | `(tactic| walk_at "side") => `(tactic| first
  | assumption
  | ((with_reducible refine cdw ?_ ?_) <;> omega)
  | omega
  | (exact ⟨by omega, by omega⟩)
  | (exact Or.inl ⟨by omega, by omega⟩)
  | (exact Or.inr ⟨by omega, by omega⟩)
  | decide
  | (simp only [List.length_cons, List.length_nil, List.length_append, List.length_map]; omega)
  | (show _ ≤ _; decide))
local macro_rules | `(tactic| walk_at "as") => `(tactic| with_reducible assumption)
local macro_rules | `(tactic| walk_at "tr") => `(tactic| first
  | with_reducible assumption
  | with_reducible exact upd_same
  | ((with_reducible refine' SqL.of ?hh); (case hh => walk_at "as"))
  | ((with_reducible refine' SqT.of ?hh); (case hh => walk_at "as"))
  | ((with_reducible refine' Same.stm ?ee ?gg); (case ee => walk_at "as"); (case gg => walk_at "tr"))
  | ((with_reducible refine' Same.sqT ?ee ?gg); (case ee => walk_at "as"); (case gg => walk_at "tr"))
  | ((with_reducible refine' Same.sqL ?ee ?gg); (case ee => walk_at "as"); (case gg => walk_at "tr"))
  | ((with_reducible refine' Same.at ?ee ?gg); (case ee => walk_at "as"); (case gg => walk_at "tr"))
  | ((with_reducible refine' But.stm ?ee ?ff ?gg); (case ee => walk_at "as"); (case ff => walk_at "ne"); (case gg => walk_at "tr"))
  | ((with_reducible refine' But.tup ?ee ?ff ?gg); (case ee => walk_at "as"); (case ff => walk_at "tr1"); (case gg => walk_at "tr"))
  | ((with_reducible refine' But.sqT ?ee ?ff ?gg); (case ee => walk_at "as"); (case ff => walk_at "tr1"); (case gg => walk_at "tr"))
  | ((with_reducible refine' But.tupL ?ee ?ff ?gg); (case ee => walk_at "as"); (case ff => walk_at "tr1"); (case gg => walk_at "tr"))
  | ((with_reducible refine' But.sqTL ?ee ?ff ?gg); (case ee => walk_at "as"); (case ff => walk_at "tr1"); (case gg => walk_at "tr"))
  | ((with_reducible refine' But.sqL ?ee ?ff ?gg); (case ee => walk_at "as"); (case ff => walk_at "ne"); (case gg => walk_at "tr"))
  | ((with_reducible refine' But.at ?ee ?ff ?gg); (case ee => walk_at "as"); (case ff => walk_at "ne"); (case gg => walk_at "tr")))
local macro_rules | `(tactic| walk_at "ts") => `(tactic| first
  | with_reducible assumption
  | with_reducible exact TS.refl _
  | ((with_reducible refine' TS.trans ?gg (TS.of ?ee)); (case ee => walk_at "as"); (case gg => walk_at "ts"))
  | ((with_reducible refine' TS.trans ?gg (TS.butS ?ee ?ff)); (case ee => walk_at "as"); (case ff => walk_at "tr1"); (case gg => walk_at "ts"))
  | ((with_reducible refine' TS.trans ?gg (TS.butL ?ee ?ff)); (case ee => walk_at "as"); (case ff => walk_at "tr1"); (case gg => walk_at "ts"))
  | ((with_reducible refine' TS.trans ?gg (TS.butI ?ee ?ff)); (case ee => walk_at "as"); (case ff => walk_at "tr1"); (case gg => walk_at "ts")))
local macro_rules | `(tactic| walk_at "sm") => `(tactic| first
  | with_reducible assumption
  | with_reducible exact Same.refl _
  | ((with_reducible refine' Same.trans ?gg ?ee); (case ee => walk_at "as"); (case gg => walk_at "sm"))
  | ((with_reducible refine' But.new ?gg ?nn ?ee); (case ee => walk_at "as"); (case nn => walk_at "fr"); (case gg => walk_at "sm")))
local macro_rules | `(tactic| walk_at "fr") => `(tactic| first
  | with_reducible assumption
  | ((with_reducible refine' Same.back ?ee ?nn); (case nn => walk_at "as"); (case ee => walk_at "sm"))
  | ((with_reducible refine' But.back ?ee ?ff ?nn); (case nn => walk_at "as"); (case ff => walk_at "ne0"); (case ee => walk_at "bu")))
local macro_rules | `(tactic| walk_at "bu") => `(tactic| first
  | with_reducible assumption
  | with_reducible exact But.refl _ _
  | ((with_reducible refine' But.trans ?gg ?ee); (case ee => walk_at "as"); (case gg => walk_at "bu"))
  | ((with_reducible refine' But.trans ?gg (But.of ?ee)); (case ee => walk_at "as"); (case gg => walk_at "bu"))
  | ((with_reducible refine' But.new2 ?gg ?nn ?ee); (case ee => walk_at "as"); (case nn => walk_at "frB"); (case gg => walk_at "bu")))
local macro_rules | `(tactic| walk_at "frB") => `(tactic| first
  | with_reducible assumption
  | ((with_reducible refine' Same.back ?ee ?nn); (case nn => walk_at "as"); (case ee => walk_at "sm"))
  | ((with_reducible refine' But.back' ?ee ?ff ?nn); (case nn => walk_at "as"); (case ee => walk_at "bu"); (case ff => walk_at "tr1")))
local macro_rules | `(tactic| walk_at "tr1") => `(tactic| first
  | with_reducible assumption
  | ((with_reducible refine' Same.stm ?ee ?gg); (case ee => walk_at "as"); (case gg => walk_at "tr1"))
  | ((with_reducible refine' Same.at ?ee ?gg); (case ee => walk_at "as"); (case gg => walk_at "tr1"))
  | ((with_reducible refine' But.at ?ee ?ff ?gg); (case ee => walk_at "as"); (case ff => walk_at "ne0"); (case gg => walk_at "tr1"))
  | ((with_reducible refine' But.stm ?ee ?ff ?gg); (case ee => walk_at "as"); (case ff => walk_at "ne0"); (case gg => walk_at "tr1")))
local macro_rules | `(tactic| walk_at "ne0") => `(tactic| first
  | with_reducible assumption
  | (with_reducible apply Ne.symm; with_reducible assumption))
local macro_rules | `(tactic| walk_at "ne") => `(tactic| first
  | with_reducible assumption
  | (with_reducible apply Ne.symm; with_reducible assumption)
  | ((with_reducible refine' stm_ne ?hh ?nn); (case nn => walk_at "as"); (case hh => walk_at "tr1"))
  | ((with_reducible refine' ne_of_none ?hh ?nn); (case nn => walk_at "as"); (case hh => walk_at "tr1"))
  | ((with_reducible apply Ne.symm); (with_reducible refine' ne_of_none ?hh ?nn); (case nn => walk_at "as"); (case hh => walk_at "tr1")))
local macro_rules | `(tactic| walk_at "v") => `(tactic| first
  | with_reducible refine w_seq ?_
  | ((with_reducible refine' w_var ?vv ?_); (case vv => exact rfl))
  | with_reducible refine w_c ?_
  | with_reducible refine w_op ?_
  | with_reducible refine w_asg ?_
  | with_reducible refine w_gName ?_
  | with_reducible refine w_ret ?_
  | with_reducible refine w_ifS ?_
  | with_reducible refine w_drop ?_
  | with_reducible refine w_next ?_
  | with_reducible refine w_cons ?_
  | with_reducible refine w_nil ?_
  | with_reducible refine w_call ?_
  | with_reducible refine w_cb ?_
  | with_reducible refine w_rI0 ?_
  | with_reducible refine w_addI ?_
  | with_reducible refine w_eqI ?_
  | with_reducible refine w_neI ?_
  | with_reducible refine w_eqS ?_
  | with_reducible refine w_neS ?_
  | with_reducible refine w_eqB ?_
  | with_reducible refine w_neB ?_
  | with_reducible refine w_chain ?_
  | with_reducible refine w_test ?_
  | with_reducible refine w_tB ?_
  | with_reducible refine w_bl ?_
  | ((with_reducible refine' w_mulI ?vv ?_); (case vv => walk_at "side"))
  | ((with_reducible refine' w_rI ?vv ?_); (case vv => walk_at "side"))
  | with_reducible refine w_int1 ?_
  | with_reducible refine w_int1b ?_
  | with_reducible refine w_tup ?_
  | with_reducible refine w_lst ?_
  | with_reducible refine w_un ?_
  | with_reducible refine w_rU ?_
  | with_reducible refine w_not ?_
  | with_reducible refine w_notV ?_
  | with_reducible refine w_ifE ?_
  | with_reducible refine w_nT ?_
  | with_reducible refine w_nF ?_
  | with_reducible refine iteT ?_
  | with_reducible refine iteF ?_
  | ((with_reducible refine' w_ixT ?vv ?ww ?_); (case vv => walk_at "tr"); (case ww => walk_at "ix"))
  | ((with_reducible refine' w_ixL ?vv ?ww ?_); (case vv => walk_at "tr"); (case ww => walk_at "ix"))
  | with_reducible refine w_gSub ?_
  | ((with_reducible refine' w_setL ?vv ?ww ?_); (case vv => walk_at "tr"); (case ww => first | rfl | decide | assumption))
  | ((with_reducible refine' w_lenL ?vv ?_); (case vv => walk_at "tr"))
  | ((with_reducible refine' w_lenT ?vv ?_); (case vv => walk_at "tr"))
  | with_reducible refine w_max2 ?_
  | with_reducible refine w_max3 ?_
  | with_reducible refine w_din ?_
  | with_reducible refine w_dnotin ?_
  | with_reducible refine w_dput ?_
  | with_reducible refine w_min2 ?_
  | with_reducible refine w_bm ?_
  | with_reducible refine w_bm0 ?_
  | ((with_reducible refine' w_tyL ?vv ?_); (case vv => walk_at "tr"))
  | ((with_reducible refine' w_append ?vv ?ww ?_); (case vv => walk_at "tr"); (case ww => walk_at "size"))
  | ((with_reducible refine' w_size ?vv ?_); (case vv => walk_at "size"))
  | with_reducible refine w_forL ?_
  | with_reducible refine w_forT ?_
  | with_reducible refine w_forR1 ?_
  | with_reducible refine w_forR2 ?_
  | with_reducible refine w_lcL ?_
  | with_reducible refine w_lcT ?_
  | with_reducible refine w_lcR1 ?_
  | with_reducible refine w_yes ?_
  | with_reducible refine w_sl ?_
  | with_reducible refine w_noPart ?_
  | with_reducible refine w_part ?_
  | with_reducible refine w_int ?_
  | ((with_reducible refine' w_slL ?vv ?_); (case vv => walk_at "tr"))
  | ((with_reducible refine' w_seqL ?vv ?ww ?_); (case vv => walk_at "tr"); (case ww => rfl))
  | ((with_reducible refine' w_seqT ?vv ?ww ?_); (case vv => walk_at "tr"); (case ww => rfl))
  | with_reducible refine w_gNil ?_
  | with_reducible refine w_gCons ?_
  | with_reducible refine w_forZ ?_
  | with_reducible refine w_forM ?_
  | with_reducible refine w_forE ?_
  | with_reducible refine w_forV ?_
  | with_reducible refine w_lcZ ?_
  | with_reducible refine w_lcE ?_
  | ((with_reducible refine' w_isi (b := true) ?vv ?ww ?_); (case vv => walk_at "ty"); (case ww => decide +kernel))
  | ((with_reducible refine' w_isi (b := false) ?vv ?ww ?_); (case vv => walk_at "ty"); (case ww => decide +kernel))
  | with_reducible refine w_revL ?_
  | with_reducible refine w_pairN ?_
  | with_reducible refine w_pairC ?_
  | with_reducible refine w_dget ?_
  | with_reducible refine w_met ?_
  | ((with_reducible refine' w_metAt ?vv ?ww ?_); (case vv => walk_at "tr"); (case ww => rfl))
  | with_reducible refine w_mkI ?_
  | with_reducible refine w_fld ?_
  | ((with_reducible refine' w_fldAt ?vv ?cc ?nn ?ww ?_); (case vv => walk_at "tr"); (case cc => walk_at "cls"); (case nn => walk_at "na"); (case ww => rfl))
  | with_reducible refine w_sfld ?_
  | ((with_reducible refine' w_sfldAt ?vv ?cc ?nn ?ll ?ee ?_); (case vv => walk_at "tr"); (case cc => walk_at "cls"); (case nn => walk_at "na"); (case ll => simp); (case ee => rfl))
  | ((with_reducible refine' w_tupL ?vv ?_); (case vv => walk_at "tr"))
  | ((with_reducible refine' w_tupT ?vv ?_); (case vv => walk_at "tr"))
  | ((with_reducible refine' w_listL ?vv ?_); (case vv => walk_at "tr"))
  | ((with_reducible refine' w_listT ?vv ?_); (case vv => walk_at "tr"))
  | with_reducible refine w_tyS ?_
  | with_reducible refine w_retN ?_
  | with_reducible refine w_break ?_
  | with_reducible refine w_cont ?_)
local macro_rules | `(tactic| walk_at "w") => `(tactic| first
  | walk_at "v"
  | with_reducible refine w_or ?_
  | with_reducible refine w_and ?_
  | with_reducible refine w_andV ?_
  | with_reducible refine w_orV ?_)
local macro_rules | `(tactic| walk_at "wd") => `(tactic| first
  | walk_at "w"
  | ((with_reducible refine' w_decT ?vv ?_); (case vv => decide +kernel))
  | ((with_reducible refine' w_decF ?vv ?_); (case vv => decide +kernel)))
local macro_rules | `(tactic| walk_at "tz") => `(tactic| (intro S z; (repeat walk_at "w"); exact z))
local macro_rules | `(tactic| walk_at "wf") => `(tactic| first
  | walk_at "wd"
  | ((with_reducible refine' w_decF ?vv ?_); (case vv => with_reducible assumption)))
/-! ### the law's own parts -/
/-- a list of rows -/
def PL (K : PySem.W.Frag) (H : Hp) (l : Addr) (ps : List PyData) : Prop := ∃ xs, H l = some (.lst xs) ∧ DpAll K H xs ps ∧ Rows ps
theorem PL.new {K : PySem.W.Frag} {H : Hp} {l : Addr} (h : H l = some (.lst [])) : PL K H l [] := ⟨[], h, .nil, rows_nil⟩
theorem PL.ts {K : PySem.W.Frag} {H H' : Hp} {l : Addr} {ps : List PyData} (h : PL K H l ps) (e : TS H H') (k : ∀ xs, H l = some (.lst xs) → H' l = some (.lst xs)) : PL K H' l ps := by
  obtain ⟨xs, h, d, o⟩ := h
  exact ⟨xs, k _ h, dpAll_ts e _ _ (rows_all o).1 d, o⟩
theorem PL.same {K : PySem.W.Frag} {H H' : Hp} {l : Addr} {ps : List PyData} (h : PL K H l ps) (e : Same H H') : PL K H' l ps := h.ts (TS.of e) fun _ => e _ _
theorem PL.but {K : PySem.W.Frag} {H H' : Hp} {l m : Addr} {ps qs : List PyData} (h : PL K H l ps) (g : PL K H m qs) (n : l ≠ m) (e : But m H H') : PL K H' l ps := by
  obtain ⟨_, g, _⟩ := g
  exact h.ts (TS.butL e g) fun _ q => e _ _ n q
theorem PL.tsB {K : PySem.W.Frag} {H H' : Hp} {l : Addr} {ps : List PyData} (h : PL K H l ps) (e : But l H H') : TS H H' := by
  obtain ⟨_, h, _⟩ := h
  exact TS.butL e h
/-- one row more -/
theorem PL.snoc {K : PySem.W.Frag} {H H' : Hp} {l : Addr} {ps : List PyData} {d : PyData} {xs : List V} {v : V} (h : PL K H l ps) (hx : H l = some (.lst xs)) (e : But l H H') (f : H' l = some (.lst (xs ++ [v]))) (hv : Dp K H v d) (r : Row d) : PL K H' l (ps ++ [d]) ∧ TS H H' := by
  obtain ⟨ys, h, hd, ho⟩ := h
  cases Option.some.inj (h.symm.trans hx)
  have t : TS H H' := TS.butL e h
  exact ⟨⟨_, f, dpa_app (dpAll_ts t _ _ (rows_all ho).1 hd) (dpa_one (dp_ts t _ _ r.all.1 hv)), rows_snoc ho r⟩, t⟩
theorem PL.len {K : PySem.W.Frag} {H : Hp} {l : Addr} {ps : List PyData} {xs : List V} (h : PL K H l ps) (hx : H l = some (.lst xs)) : xs.length = ps.length := by
  obtain ⟨ys, h, hd, ho⟩ := h
  cases Option.some.inj (h.symm.trans hx)
  exact dpa_len hd
theorem Item.ts {K : PySem.W.Frag} {H H' : Hp} {d : PyData} {v : V} (i : Item d) (t : TS H H') (h : Dp K H v d) : Dp K H' v d := dp_ts t _ _ i.tup h
def spPart (K : PySem.W.Frag) (n : Nat) : Sp := fun vs H Q _ => ∃ (v : V) (l : Addr) (e : Exp) (ps : List PyData), vs = [v, .ref l] ∧ Dp K H v e.d ∧ OkE n e ∧ PL K H l ps ∧ ps.length + e.cnt ≤ 1000 ∧
  ∀ r H', Dp K H' r (e.part ps).1 → PL K H' l (e.part ps).2 → But l H H' → Q r H'
theorem len_law_part {K : PySem.W.Frag} {n : Nat} {vs H Q E} (h : spPart K n vs H Q E) : vs.length = 2 := by obtain ⟨_, _, _, _, rfl, _⟩ := h; rfl
theorem no_law_part {K : PySem.W.Frag} {vs H Q E} (h : spPart K 0 vs H Q E) : False := by obtain ⟨_, _, _, _, _, _, h, _⟩ := h; exact okE_0 h
theorem exp_sel {K : PySem.W.Frag} {H : Hp} {v : V} {k s : Str} {n : Int} (h : Dp K H v (.tuple [.str s, selD k n])) : ∃ p u, v = .ref p ∧ SqT K H p [.str s, u] ∧ Dp K H u (selD k n) := by
  obtain ⟨p, xs, rfl, hs, ha⟩ := dp_tup h
  obtain ⟨x, r, rfl, hx, hr⟩ := dpa_cons ha
  obtain ⟨y, r, rfl, hy, hr⟩ := dpa_cons hr
  cases dpa_nil hr
  rw [dp_str hx] at hs
  exact ⟨p, y, rfl, hs, hy⟩
theorem exp_1 {K : PySem.W.Frag} {H : Hp} {v : V} {s : Str} {d : PyData} (h : Dp K H v (.tuple [.str s, d])) : ∃ p u, v = .ref p ∧ SqT K H p [.str s, u] ∧ Dp K H u d := by
  obtain ⟨p, xs, rfl, hs, ha⟩ := dp_tup h
  obtain ⟨x, r, rfl, hx, hr⟩ := dpa_cons ha
  obtain ⟨y, r, rfl, hy, hr⟩ := dpa_cons hr
  cases dpa_nil hr
  rw [dp_str hx] at hs
  exact ⟨p, y, rfl, hs, hy⟩
theorem exp_2 {K : PySem.W.Frag} {H : Hp} {v : V} {s : Str} {d e : PyData} (h : Dp K H v (.tuple [.str s, d, e])) : ∃ p u w, v = .ref p ∧ SqT K H p [.str s, u, w] ∧ Dp K H u d ∧ Dp K H w e := by
  obtain ⟨p, xs, rfl, hs, ha⟩ := dp_tup h
  obtain ⟨x, r, rfl, hx, hr⟩ := dpa_cons ha
  obtain ⟨y, r, rfl, hy, hr⟩ := dpa_cons hr
  obtain ⟨z, r, rfl, hz, hr⟩ := dpa_cons hr
  cases dpa_nil hr
  rw [dp_str hx] at hs
  exact ⟨p, y, z, rfl, hs, hy, hz⟩
theorem Exp.cases {n : Nat} {e : Exp} (h : OkE (n + 1) e) : (∃ j, e = .num j) ∨ (∃ j, e = .fld j) ∨ (∃ k j, e = .plc k j ∧ SelS k) ∨ (∃ k j, e = .mrk k j ∧ SelS k) ∨
    ∃ (o : Str) (es : List Exp), PyData.strOk o = true ∧ (o ≠ "number" ∧ o ≠ "field" ∧ o ≠ "place" ∧ o ≠ "mark") ∧ es.length ≤ 2 ∧ 1 ≤ es.length ∧ (∀ x ∈ es, OkE n x) ∧ e.d = .tuple (.str o :: es.map Exp.d) ∧
      (∀ ps, e.part ps = (.int (J.parts es ps).2.length, (J.parts es ps).2 ++ [.tuple (.str o :: (J.parts es ps).1)])) ∧ e.cnt = cnts es + 1 := by
  cases e with
  | num j => exact .inl ⟨j, rfl⟩
  | fld j => exact .inr (.inl ⟨j, rfl⟩)
  | plc k j => exact .inr (.inr (.inl ⟨k, j, rfl, h.2⟩))
  | mrk k j => exact .inr (.inr (.inr (.inl ⟨k, j, rfl, h.2⟩)))
  | cell a =>
    refine .inr (.inr (.inr (.inr ⟨"cell", [a], by decide +kernel, by decide +kernel, by simp, by simp, fun x hx => ?_, rfl, fun ps => rfl, by simp [Exp.cnt, cnts]⟩)))
    rw [List.mem_singleton.mp hx]
    exact okE_cell h
  | two o a b =>
    obtain ⟨oo, oa, ob⟩ := okE_two h
    obtain ⟨n1, n2, n3, n4, _⟩ := oo.ne
    refine .inr (.inr (.inr (.inr ⟨o, [a, b], oo.ok, ⟨n1, n2, n3, n4⟩, Nat.le_refl _, by simp, fun x hx => ?_, rfl, fun ps => rfl, by simp [Exp.cnt, cnts]⟩)))
    simp only [List.mem_cons, List.mem_nil_iff, or_false] at hx
    rcases hx with rfl | rfl
    · exact oa
    · exact ob
theorem exp_n {K : PySem.W.Frag} {H : Hp} {v : V} {s : Str} {ds : List PyData} (h : Dp K H v (.tuple (.str s :: ds))) : ∃ p us, v = .ref p ∧ SqT K H p (.str s :: us) ∧ DpAll K H us ds := by
  obtain ⟨p, xs, rfl, hs, ha⟩ := dp_tup h
  obtain ⟨x, r, rfl, hx, hr⟩ := dpa_cons ha
  rw [dp_str hx] at hs
  exact ⟨p, r, rfl, hs, hr⟩
theorem exps_tup : ∀ es : List Exp, tupAll (es.map Exp.d) = true
  | [] => rfl
  | e :: es => by rw [List.map_cons, tupAll, e.tup, exps_tup es]; rfl
theorem row_1 {s : Str} {d : PyData} (h : PyData.strOk s = true) (i : Item d) : Row (.tuple [.str s, d]) := ⟨_, rfl, fun x hx => by
  simp only [List.mem_cons, List.mem_nil_iff, or_false] at hx
  rcases hx with rfl | rfl
  · exact .str h
  · exact i⟩
theorem row_2 {s : Str} {d e : PyData} (h : PyData.strOk s = true) (i : Item d) (j : Item e) : Row (.tuple [.str s, d, e]) := ⟨_, rfl, fun x hx => by
  simp only [List.mem_cons, List.mem_nil_iff, or_false] at hx
  rcases hx with rfl | rfl | rfl
  · exact .str h
  · exact i
  · exact j⟩
theorem len_sub {xs : List V} {ps : List PyData} {v : V} (h : xs.length = ps.length) : ((((xs ++ [v]).length : Nat) : Int) - 1) = (ps.length : Int) := by
  rw [List.length_append, h, List.length_singleton]
  omega
section
variable {P : Program} {w : World} {K : PySem.W.Frag} {mg : Str → Option Value}
theorem ok_law_part [c : Facts K mg] : ∀ n : Nat, Fn P w K mg "_law_part" (n + 1) ["e", "parts"] ((spPart K n))
  | 0 => by
    obtain ⟨fd, F⟩ := c.d_law_part
    exact Fn.mk' (k := 0) F c.g_law_part sc_law_part (fun vs H Q E h => (no_law_part h).elim) (fun _ _ _ _ _ _ us hl => match us, hl with | [_, _], _ => rfl) (fun base cdv A outer s H vs Q E hr h => (no_law_part h).elim)
  | n + 1 => by
    have G__law_part := ok_law_part n
    obtain ⟨fd, F⟩ := c.d_law_part
    refine Fn.mk' F c.g_law_part sc_law_part (k := n + 1) (fun vs H Q E h => ?_) (fun _ _ _ _ _ _ us hl => match us, hl with | [_, _], _ => rfl) (fun base cdv A outer s H vs Q E hr h => ?_)
    · exact len_law_part h
    · have nd := sc_law_part.nd
      have hu := hu_of hr
      have hr__law_part : Room (n + 1) _ := hr.mono (by omega)
      refine ⟨_, (pss_cons (ps_if (PW.pt (pw_or (pt_cmpR (op_eqA (K := K) rfl hr.units) (pe_ix (ix_any (K := K) rfl) (pv 0) pe_int (fun _ _ => rfl)) pe_str (nomark _)) (pw_or1 (pt_cmpR (op_eqA (K := K) rfl hr.units) (pe_ix (ix_any (K := K) rfl) (pv 0) pe_int (fun _ _ => rfl)) pe_str (nomark _))))) (pss_one (ps_ret (pv 0))) pss_nil)
      (pss_cons (ps_if (PW.pt (pw_or (pt_cmpR (op_eqA (K := K) rfl hr.units) (pe_ix (ix_any (K := K) rfl) (pv 0) pe_int (fun _ _ => rfl)) pe_str (nomark _)) (pw_or1 (pt_cmpR (op_eqA (K := K) rfl hr.units) (pe_ix (ix_any (K := K) rfl) (pv 0) pe_int (fun _ _ => rfl)) pe_str (nomark _))))) (pss_one (ps_expr (pe_bm PySem.F.plainAttrs_list PySem.F.slot_list_append PySem.F.type_list_append mt_append (pv 1) (pa_cons (pe_tup (pa_cons (pe_ix (ix_any (K := K) rfl) (pe_lst (pa_cons pe_str (pa_cons pe_str pa_nil))) (pe_callTy call_int1A (by rfl) c.f_int boot_int (pa_cons (pe_cmpR (op_eqA (K := K) rfl hr.units) (pe_ix (ix_any (K := K) rfl) (pv 0) pe_int (fun _ _ => rfl)) pe_str (nomark _)) pa_nil)) (fun _ _ => rfl)) (pa_cons (pe_ix (ix_any (K := K) rfl) (pv 0) pe_int (fun _ _ => rfl)) pa_nil))) pa_nil)))) (pss_one (ps_if (pt_cmpR (op_eqA (K := K) rfl hr.units) (pe_ix (ix_any (K := K) rfl) (pv 0) pe_int (fun _ _ => rfl)) pe_str (nomark _)) (pss_cons (ps_set (i := 2) nd rfl (Or.inl rfl) (pe_fn G__law_part hr__law_part (by rfl) (pa_cons (pe_ix (ix_any (K := K) rfl) (pv 0) pe_int (fun _ _ => rfl)) (pa_cons (pv 1) pa_nil))))
      (pss_one (ps_expr (pe_bm PySem.F.plainAttrs_list PySem.F.slot_list_append PySem.F.type_list_append mt_append (pv 1) (pa_cons (pe_tup (pa_cons pe_str (pa_cons (pv 2) pa_nil))) pa_nil))))) (pss_cons (ps_set (i := 3) nd rfl (Or.inl rfl) (pe_fn G__law_part hr__law_part (by rfl) (pa_cons (pe_ix (ix_any (K := K) rfl) (pv 0) pe_int (fun _ _ => rfl)) (pa_cons (pv 1) pa_nil))))
      (pss_cons (ps_set (i := 4) nd rfl (Or.inl rfl) (pe_fn G__law_part hr__law_part (by rfl) (pa_cons (pe_ix (ix_any (K := K) rfl) (pv 0) pe_int (fun _ _ => rfl)) (pa_cons (pv 1) pa_nil))))
      (pss_one (ps_expr (pe_bm PySem.F.plainAttrs_list PySem.F.slot_list_append PySem.F.type_list_append mt_append (pv 1) (pa_cons (pe_tup (pa_cons (pe_ix (ix_any (K := K) rfl) (pv 0) pe_int (fun _ _ => rfl)) (pa_cons (pv 3) (pa_cons (pv 4) pa_nil)))) pa_nil)))))))))
      (pss_one (ps_ret (pe_op op_sub (pe_callB (call_lenA (K := K) rfl) (by rfl) c.f_len boot_len (pa_cons (pv 1) pa_nil)) pe_int))))), ?_⟩
      try dsimp only [cxOf, Cx.nox, Cx.wish]
      obtain ⟨v, l, e, ps, rfl, hv, oe, hP, hz, q⟩ := h
      cases e with
      | num j =>
        obtain ⟨p, u, rfl, hp, hu'⟩ := exp_1 hv
        repeat walk_at "wf"
        exact q _ H hv hP (But.refl _ _)
      | fld j =>
        obtain ⟨p, u, rfl, hp, hu'⟩ := exp_1 hv
        repeat walk_at "wf"
        exact q _ H hv hP (But.refl _ _)
      | plc k j =>
        obtain ⟨p, u, rfl, hp, hu'⟩ := exp_1 hv
        obtain ⟨xs, hx, _⟩ := id hP
        have hxl : xs.length ≤ 1000 := by rw [hP.len hx]; omega
        repeat walk_at "wf"
        refine w_new fun p1 H1 n1 s1 f1 => ?_
        repeat walk_at "w"
        refine w_new fun p2 H2 n2 s2 f2 => ?_
        repeat walk_at "w"
        refine w_chg fun H3 e3 f3 => ?_
        repeat walk_at "w"
        have s12 : Same H H2 := s1.trans s2
        have z := PL.snoc (hP.same s12) (s12 _ _ hx) e3 f3 (.tup (SqT.of f2) (.cons (.str _) (.cons (dp_ts (TS.of s12) _ _ (tupD_sel _ _) hu') .nil))) (row_sel (by decide +kernel) oe.2)
        rw [len_sub (hP.len hx)]
        exact q _ H3 (.int _) z.1 (by walk_at "bu")
      | mrk k j =>
        obtain ⟨p, u, rfl, hp, hu'⟩ := exp_1 hv
        obtain ⟨xs, hx, _⟩ := id hP
        have hxl : xs.length ≤ 1000 := by rw [hP.len hx]; omega
        repeat walk_at "wf"
        refine w_new fun p1 H1 n1 s1 f1 => ?_
        repeat walk_at "w"
        refine w_new fun p2 H2 n2 s2 f2 => ?_
        repeat walk_at "w"
        refine w_chg fun H3 e3 f3 => ?_
        repeat walk_at "w"
        have s12 : Same H H2 := s1.trans s2
        have z := PL.snoc (hP.same s12) (s12 _ _ hx) e3 f3 (.tup (SqT.of f2) (.cons (.str _) (.cons (dp_ts (TS.of s12) _ _ (tupD_sel _ _) hu') .nil))) (row_sel (by decide +kernel) oe.2)
        rw [len_sub (hP.len hx)]
        exact q _ H3 (.int _) z.1 (by walk_at "bu")
      | cell a =>
        obtain ⟨p, u, rfl, hp, hu'⟩ := exp_1 hv
        rw [Exp.cnt] at hz
        repeat walk_at "wf"
        refine ⟨u, l, a, ps, rfl, hu', okE_cell oe, hP, by omega, fun r H1 hr1 hP1 e1 => ?_⟩
        obtain ⟨xs, hx, _⟩ := id hP1
        have hxl : xs.length ≤ 1000 := by rw [hP1.len hx, a.part_len]; omega
        have i1 := (a.part_ok oe.2 hP.choose_spec.2.2).1
        repeat walk_at "w"
        refine w_new fun p2 H2 n2 s2 f2 => ?_
        repeat walk_at "w"
        refine w_chg fun H3 e3 f3 => ?_
        repeat walk_at "w"
        have z := PL.snoc (hP1.same s2) (s2 _ _ hx) e3 f3 (.tup (SqT.of f2) (.cons (.str _) (.cons (i1.ts (TS.of s2) hr1) .nil))) (row_1 (by decide +kernel) i1)
        rw [len_sub (hP1.len hx)]
        exact q _ H3 (.int _) z.1 (by walk_at "bu")
      | two o a b =>
        obtain ⟨p, u, u2, rfl, hp, hu', hu2⟩ := exp_2 hv
        obtain ⟨oo, oa, ob⟩ := okE_two oe
        obtain ⟨n1, n2, n3, n4, n5⟩ := oo.ne
        rw [Exp.cnt] at hz
        repeat walk_at "wf"
        refine ⟨u, l, a, ps, rfl, hu', oa, hP, by omega, fun r H1 hr1 hP1 e1 => ?_⟩
        have hp1 : SqT K H1 p _ := (hP.tsB e1).sqT hp
        have i1 := (a.part_ok oa.2 hP.choose_spec.2.2)
        repeat walk_at "w"
        refine ⟨u2, l, b, _, rfl, dp_ts (hP.tsB e1) _ _ b.tup hu2, ob, hP1, by rw [a.part_len]; omega, fun r2 H2 hr2 hP2 e2 => ?_⟩
        have hp2 : SqT K H2 p _ := (hP1.tsB e2).sqT hp1
        have i2 := (b.part_ok ob.2 i1.2)
        obtain ⟨xs, hx, _⟩ := id hP2
        have hxl : xs.length ≤ 1000 := by rw [hP2.len hx, b.part_len, a.part_len]; omega
        repeat walk_at "w"
        refine w_new fun p3 H3 n3 s3 f3 => ?_
        repeat walk_at "w"
        refine w_chg fun H4 e4 f4 => ?_
        repeat walk_at "w"
        have z := PL.snoc (hP2.same s3) (s3 _ _ hx) e4 f4 (.tup (SqT.of f3) (.cons (.str _) (.cons (i1.1.ts ((hP1.tsB e2).trans (TS.of s3)) hr1) (.cons (i2.1.ts (TS.of s3) hr2) .nil)))) (row_2 oo.ok i1.1 i2.1)
        rw [len_sub (hP2.len hx)]
        exact q _ H4 (.int _) z.1 (by walk_at "bu")
end

end J
namespace J
open PySem PySem.Spec PyProof.Rows L2
local macro_rules | `(tactic| walk_at "cls") => `(tactic| first
  | with_reducible exact Facts.cl_Step
  | with_reducible exact Facts.cl_Get
  | with_reducible exact Facts.cl_Ask
  | with_reducible exact Facts.cl_Cell
  | with_reducible exact Facts.cl_Two
  | with_reducible exact Facts.cl_Put
  | with_reducible exact Facts.cl_Tell
  | with_reducible exact Facts.cl_Store
  | with_reducible exact Facts.cl_Parts
  | with_reducible exact Facts.cl_Order)
local macro_rules | `(tactic| walk_at "na") => `(tactic| first
  | with_reducible exact Facts.na_Get_to
  | with_reducible exact Facts.na_Get_sel
  | with_reducible exact Facts.na_Ask_to
  | with_reducible exact Facts.na_Ask_sel
  | with_reducible exact Facts.na_Cell_to
  | with_reducible exact Facts.na_Cell_source
  | with_reducible exact Facts.na_Two_to
  | with_reducible exact Facts.na_Two_op
  | with_reducible exact Facts.na_Two_one
  | with_reducible exact Facts.na_Two_other
  | with_reducible exact Facts.na_Put_sel
  | with_reducible exact Facts.na_Put_source
  | with_reducible exact Facts.na_Tell_sel
  | with_reducible exact Facts.na_Tell_source
  | with_reducible exact Facts.na_Store_at
  | with_reducible exact Facts.na_Store_source
  | with_reducible exact Facts.na_Parts_rows
  | with_reducible exact Facts.na_Order_parts
  | with_reducible exact Facts.na_Order_order
  | with_reducible exact Facts.na_Order_needed)
local macro_rules | `(tactic| walk_at "ty") => `(tactic| first
  | with_reducible exact ty_int
  | with_reducible exact ty_bl
  | with_reducible exact ty_str
  | with_reducible exact ty_non
  | ((with_reducible refine' ty_lst ?vv); (case vv => walk_at "tr"))
  | ((with_reducible refine' ty_sqT ?vv); (case vv => walk_at "tr"))
  | ((with_reducible refine' ty_dic ?vv); (case vv => walk_at "tr")))
local macro_rules | `(tactic| walk_at "ix") => `(tactic| first | exact at0 | exact at1 | exact at2 | assumption)
local macro_rules | `(tactic| walk_at "size") => `(tactic| first
  | assumption
  | (show _ < sizeLine; rw [sizeLine_eq]; (try simp only [List.length_cons, List.length_nil, List.length_append, List.length_map]); omega)
  | (show _ ≤ sizeLine; rw [sizeLine_eq]; (try simp only [List.length_cons, List.length_nil, List.length_append, List.length_map]); omega))
local macro_rules | `(tactic| walk_at "side") => `(tactic| first
  | assumption
  | ((with_reducible refine cdw ?_ ?_) <;> omega)
  | omega
  | (exact ⟨by omega, by omega⟩)
  | (exact Or.inl ⟨by omega, by omega⟩)
  | (exact Or.inr ⟨by omega, by omega⟩)
  | decide
  | (simp only [List.length_cons, List.length_nil, List.length_append, List.length_map]; omega)
  | (show _ ≤ _; decide))
local macro_rules | `(tactic| walk_at "as") => `(tactic| with_reducible assumption)
local macro_rules | `(tactic| walk_at "tr") => `(tactic| first
  | with_reducible assumption
  | with_reducible exact upd_same
  | ((with_reducible refine' SqL.of ?hh); (case hh => walk_at "as"))
  | ((with_reducible refine' SqT.of ?hh); (case hh => walk_at "as"))
  | ((with_reducible refine' Same.stm ?ee ?gg); (case ee => walk_at "as"); (case gg => walk_at "tr"))
  | ((with_reducible refine' Same.sqT ?ee ?gg); (case ee => walk_at "as"); (case gg => walk_at "tr"))
  | ((with_reducible refine' Same.sqL ?ee ?gg); (case ee => walk_at "as"); (case gg => walk_at "tr"))
  | ((with_reducible refine' Same.at ?ee ?gg); (case ee => walk_at "as"); (case gg => walk_at "tr"))
  | ((with_reducible refine' But.stm ?ee ?ff ?gg); (case ee => walk_at "as"); (case ff => walk_at "ne"); (case gg => walk_at "tr"))
  | ((with_reducible refine' But.tup ?ee ?ff ?gg); (case ee => walk_at "as"); (case ff => walk_at "tr1"); (case gg => walk_at "tr"))
  | ((with_reducible refine' But.sqT ?ee ?ff ?gg); (case ee => walk_at "as"); (case ff => walk_at "tr1"); (case gg => walk_at "tr"))
  | ((with_reducible refine' But.tupL ?ee ?ff ?gg); (case ee => walk_at "as"); (case ff => walk_at "tr1"); (case gg => walk_at "tr"))
  | ((with_reducible refine' But.sqTL ?ee ?ff ?gg); (case ee => walk_at "as"); (case ff => walk_at "tr1"); (case gg => walk_at "tr"))
  | ((with_reducible refine' But.sqL ?ee ?ff ?gg); (case ee => walk_at "as"); (case ff => walk_at "ne"); (case gg => walk_at "tr"))
  | ((with_reducible refine' But.at ?ee ?ff ?gg); (case ee => walk_at "as"); (case ff => walk_at "ne"); (case gg => walk_at "tr")))
local macro_rules | `(tactic| walk_at "ts") => `(tactic| first
  | with_reducible assumption
  | with_reducible exact TS.refl _
  | ((with_reducible refine' TS.trans ?gg (TS.of ?ee)); (case ee => walk_at "as"); (case gg => walk_at "ts"))
  | ((with_reducible refine' TS.trans ?gg (TS.butS ?ee ?ff)); (case ee => walk_at "as"); (case ff => walk_at "tr1"); (case gg => walk_at "ts"))
  | ((with_reducible refine' TS.trans ?gg (TS.butL ?ee ?ff)); (case ee => walk_at "as"); (case ff => walk_at "tr1"); (case gg => walk_at "ts"))
  | ((with_reducible refine' TS.trans ?gg (TS.butI ?ee ?ff)); (case ee => walk_at "as"); (case ff => walk_at "tr1"); (case gg => walk_at "ts")))
local macro_rules | `(tactic| walk_at "sm") => `(tactic| first
  | with_reducible assumption
  | with_reducible exact Same.refl _
  | ((with_reducible refine' Same.trans ?gg ?ee); (case ee => walk_at "as"); (case gg => walk_at "sm"))
  | ((with_reducible refine' But.new ?gg ?nn ?ee); (case ee => walk_at "as"); (case nn => walk_at "fr"); (case gg => walk_at "sm")))
local macro_rules | `(tactic| walk_at "fr") => `(tactic| first
  | with_reducible assumption
  | ((with_reducible refine' Same.back ?ee ?nn); (case nn => walk_at "as"); (case ee => walk_at "sm"))
  | ((with_reducible refine' But.back ?ee ?ff ?nn); (case nn => walk_at "as"); (case ff => walk_at "ne0"); (case ee => walk_at "bu")))
local macro_rules | `(tactic| walk_at "bu") => `(tactic| first
  | with_reducible assumption
  | with_reducible exact But.refl _ _
  | ((with_reducible refine' But.trans ?gg ?ee); (case ee => walk_at "as"); (case gg => walk_at "bu"))
  | ((with_reducible refine' But.trans ?gg (But.of ?ee)); (case ee => walk_at "as"); (case gg => walk_at "bu"))
  | ((with_reducible refine' But.new2 ?gg ?nn ?ee); (case ee => walk_at "as"); (case nn => walk_at "frB"); (case gg => walk_at "bu")))
local macro_rules | `(tactic| walk_at "frB") => `(tactic| first
  | with_reducible assumption
  | ((with_reducible refine' Same.back ?ee ?nn); (case nn => walk_at "as"); (case ee => walk_at "sm"))
  | ((with_reducible refine' But.back' ?ee ?ff ?nn); (case nn => walk_at "as"); (case ee => walk_at "bu"); (case ff => walk_at "tr1")))
local macro_rules | `(tactic| walk_at "tr1") => `(tactic| first
  | with_reducible assumption
  | ((with_reducible refine' Same.stm ?ee ?gg); (case ee => walk_at "as"); (case gg => walk_at "tr1"))
  | ((with_reducible refine' Same.at ?ee ?gg); (case ee => walk_at "as"); (case gg => walk_at "tr1"))
  | ((with_reducible refine' But.at ?ee ?ff ?gg); (case ee => walk_at "as"); (case ff => walk_at "ne0"); (case gg => walk_at "tr1"))
  | ((with_reducible refine' But.stm ?ee ?ff ?gg); (case ee => walk_at "as"); (case ff => walk_at "ne0"); (case gg => walk_at "tr1")))
local macro_rules | `(tactic| walk_at "ne0") => `(tactic| first
  | with_reducible assumption
  | (with_reducible apply Ne.symm; with_reducible assumption))
local macro_rules | `(tactic| walk_at "ne") => `(tactic| first
  | with_reducible assumption
  | (with_reducible apply Ne.symm; with_reducible assumption)
  | ((with_reducible refine' stm_ne ?hh ?nn); (case nn => walk_at "as"); (case hh => walk_at "tr1"))
  | ((with_reducible refine' ne_of_none ?hh ?nn); (case nn => walk_at "as"); (case hh => walk_at "tr1"))
  | ((with_reducible apply Ne.symm); (with_reducible refine' ne_of_none ?hh ?nn); (case nn => walk_at "as"); (case hh => walk_at "tr1")))
local macro_rules | `(tactic| walk_at "v") => `(tactic| first
  | with_reducible refine w_seq ?_
  | ((with_reducible refine' w_var ?vv ?_); (case vv => exact rfl))
  | with_reducible refine w_c ?_
  | with_reducible refine w_op ?_
  | with_reducible refine w_asg ?_
  | with_reducible refine w_gName ?_
  | with_reducible refine w_ret ?_
  | with_reducible refine w_ifS ?_
  | with_reducible refine w_drop ?_
  | with_reducible refine w_next ?_
  | with_reducible refine w_cons ?_
  | with_reducible refine w_nil ?_
  | with_reducible refine w_call ?_
  | with_reducible refine w_cb ?_
  | with_reducible refine w_rI0 ?_
  | with_reducible refine w_addI ?_
  | with_reducible refine w_eqI ?_
  | with_reducible refine w_neI ?_
  | with_reducible refine w_eqS ?_
  | with_reducible refine w_neS ?_
  | with_reducible refine w_eqB ?_
  | with_reducible refine w_neB ?_
  | with_reducible refine w_chain ?_
  | with_reducible refine w_test ?_
  | with_reducible refine w_tB ?_
  | with_reducible refine w_bl ?_
  | ((with_reducible refine' w_mulI ?vv ?_); (case vv => walk_at "side"))
  | ((with_reducible refine' w_rI ?vv ?_); (case vv => walk_at "side"))
  | with_reducible refine w_int1 ?_
  | with_reducible refine w_int1b ?_
  | with_reducible refine w_tup ?_
  | with_reducible refine w_lst ?_
  | with_reducible refine w_un ?_
  | with_reducible refine w_rU ?_
  | with_reducible refine w_not ?_
  | with_reducible refine w_notV ?_
  | with_reducible refine w_ifE ?_
  | with_reducible refine w_nT ?_
  | with_reducible refine w_nF ?_
  | with_reducible refine iteT ?_
  | with_reducible refine iteF ?_
  | ((with_reducible refine' w_ixT ?vv ?ww ?_); (case vv => walk_at "tr"); (case ww => walk_at "ix"))
  | ((with_reducible refine' w_ixL ?vv ?ww ?_); (case vv => walk_at "tr"); (case ww => walk_at "ix"))
  | with_reducible refine w_gSub ?_
  | ((with_reducible refine' w_setL ?vv ?ww ?_); (case vv => walk_at "tr"); (case ww => first | rfl | decide | assumption))
  | ((with_reducible refine' w_lenL ?vv ?_); (case vv => walk_at "tr"))
  | ((with_reducible refine' w_lenT ?vv ?_); (case vv => walk_at "tr"))
  | with_reducible refine w_max2 ?_
  | with_reducible refine w_max3 ?_
  | with_reducible refine w_din ?_
  | with_reducible refine w_dnotin ?_
  | with_reducible refine w_dput ?_
  | with_reducible refine w_min2 ?_
  | with_reducible refine w_bm ?_
  | with_reducible refine w_bm0 ?_
  | ((with_reducible refine' w_tyL ?vv ?_); (case vv => walk_at "tr"))
  | ((with_reducible refine' w_append ?vv ?ww ?_); (case vv => walk_at "tr"); (case ww => walk_at "size"))
  | ((with_reducible refine' w_size ?vv ?_); (case vv => walk_at "size"))
  | with_reducible refine w_forL ?_
  | with_reducible refine w_forT ?_
  | with_reducible refine w_forR1 ?_
  | with_reducible refine w_forR2 ?_
  | with_reducible refine w_lcL ?_
  | with_reducible refine w_lcT ?_
  | with_reducible refine w_lcR1 ?_
  | with_reducible refine w_yes ?_
  | with_reducible refine w_sl ?_
  | with_reducible refine w_noPart ?_
  | with_reducible refine w_part ?_
  | with_reducible refine w_int ?_
  | ((with_reducible refine' w_slL ?vv ?_); (case vv => walk_at "tr"))
  | ((with_reducible refine' w_seqL ?vv ?ww ?_); (case vv => walk_at "tr"); (case ww => rfl))
  | ((with_reducible refine' w_seqT ?vv ?ww ?_); (case vv => walk_at "tr"); (case ww => rfl))
  | with_reducible refine w_gNil ?_
  | with_reducible refine w_gCons ?_
  | with_reducible refine w_forZ ?_
  | with_reducible refine w_forM ?_
  | with_reducible refine w_forE ?_
  | with_reducible refine w_forV ?_
  | with_reducible refine w_lcZ ?_
  | with_reducible refine w_lcE ?_
  | ((with_reducible refine' w_isi (b := true) ?vv ?ww ?_); (case vv => walk_at "ty"); (case ww => decide +kernel))
  | ((with_reducible refine' w_isi (b := false) ?vv ?ww ?_); (case vv => walk_at "ty"); (case ww => decide +kernel))
  | with_reducible refine w_revL ?_
  | with_reducible refine w_pairN ?_
  | with_reducible refine w_pairC ?_
  | with_reducible refine w_dget ?_
  | with_reducible refine w_met ?_
  | ((with_reducible refine' w_metAt ?vv ?ww ?_); (case vv => walk_at "tr"); (case ww => rfl))
  | with_reducible refine w_mkI ?_
  | with_reducible refine w_fld ?_
  | ((with_reducible refine' w_fldAt ?vv ?cc ?nn ?ww ?_); (case vv => walk_at "tr"); (case cc => walk_at "cls"); (case nn => walk_at "na"); (case ww => rfl))
  | with_reducible refine w_sfld ?_
  | ((with_reducible refine' w_sfldAt ?vv ?cc ?nn ?ll ?ee ?_); (case vv => walk_at "tr"); (case cc => walk_at "cls"); (case nn => walk_at "na"); (case ll => simp); (case ee => rfl))
  | ((with_reducible refine' w_tupL ?vv ?_); (case vv => walk_at "tr"))
  | ((with_reducible refine' w_tupT ?vv ?_); (case vv => walk_at "tr"))
  | ((with_reducible refine' w_listL ?vv ?_); (case vv => walk_at "tr"))
  | ((with_reducible refine' w_listT ?vv ?_); (case vv => walk_at "tr"))
  | with_reducible refine w_tyS ?_
  | with_reducible refine w_retN ?_
  | with_reducible refine w_break ?_
  | with_reducible refine w_cont ?_)
local macro_rules | `(tactic| walk_at "w") => `(tactic| first
  | walk_at "v"
  | with_reducible refine w_or ?_
  | with_reducible refine w_and ?_
  | with_reducible refine w_andV ?_
  | with_reducible refine w_orV ?_)
local macro_rules | `(tactic| walk_at "wd") => `(tactic| first
  | walk_at "w"
  | ((with_reducible refine' w_decT ?vv ?_); (case vv => decide +kernel))
  | ((with_reducible refine' w_decF ?vv ?_); (case vv => decide +kernel)))
local macro_rules | `(tactic| walk_at "tz") => `(tactic| (intro S z; (repeat walk_at "w"); exact z))
local macro_rules | `(tactic| walk_at "wf") => `(tactic| first
  | walk_at "wd"
  | ((with_reducible refine' w_decF ?vv ?_); (case vv => with_reducible assumption)))
/-! ### the program's parts and roots -/
def spInit (C : Addr) : Sp := fun vs H Q _ => ∃ (p dx : Addr), vs = [.ref p] ∧ H p = some (.ins C dx []) ∧ ∀ l H', H' p = some (.ins C dx [("rows", .ref l)]) → H' l = some (.lst []) → H l = none → But p H H' → Q .non H'
theorem len_Partsu_initu {C : Addr} {vs H Q E} (h : spInit C vs H Q E) : vs.length = 1 := by obtain ⟨_, _, rfl, _⟩ := h; rfl
def spPartIn (K : PySem.W.Frag) (C : Addr) (n : Nat) : Sp := fun vs H Q _ => ∃ (v : V) (p dx l : Addr) (e : Exp) (ps : List PyData), vs = [.ref p, v] ∧ H p = some (.ins C dx [("rows", .ref l)]) ∧ Dp K H v e.d ∧ OkE n e ∧ PL K H l ps ∧ ps.length + e.cnt ≤ 1000 ∧
  ∀ r H', Dp K H' r (e.part ps).1 → PL K H' l (e.part ps).2 → But l H H' → Q r H'
theorem len_Parts_part_in {K : PySem.W.Frag} {C : Addr} {n : Nat} {vs H Q E} (h : spPartIn K C n vs H Q E) : vs.length = 2 := by obtain ⟨_, _, _, _, _, _, rfl, _⟩ := h; rfl
theorem no_Parts_part_in {K : PySem.W.Frag} {C : Addr} {vs H Q E} (h : spPartIn K C 0 vs H Q E) : False := by obtain ⟨_, _, _, _, _, _, _, _, _, h, _⟩ := h; exact okE_0 h
section
variable {P : Program} {w : World} {K : PySem.W.Frag} {mg : Str → Option Value}
theorem ok_Partsu_initu [c : Facts K mg] {f : Addr} {fd : FuncData} (F : FunD K "__init__" "Parts.__init__" (defArgs s_Partsu_initu) (defBody s_Partsu_initu) (defScope s_Partsu_initu) [] [] f fd) : FnA P w K mg f 1 ["self"] ((spInit (He.ga K "Parts"))) := by
  refine FnA.mk' F sc_Partsu_initu (k := 0) (fun vs H Q E h => ?_) (fun _ _ _ _ _ _ us hl => match us, hl with | [_], _ => rfl) (fun base cdv A outer s H vs Q E hr h => ?_)
  · exact len_Partsu_initu h
  · have nd := sc_Partsu_initu.nd
    have hu := hu_of hr
    refine ⟨_, (pss_one (ps_fld (pv 0) (pe_lst pa_nil) rfl)), ?_⟩
    try dsimp only [cxOf, Cx.nox, Cx.wish]
    obtain ⟨p, dx, rfl, hp, q⟩ := h
    repeat walk_at "w"
    refine w_new fun l H1 n1 s1 f1 => ?_
    repeat walk_at "w"
    refine w_chg fun H2 e2 f2 => ?_
    exact q l H2 f2 (e2 _ _ (ne_of f1 (s1 _ _ hp) (by intro z; cases z)) f1) n1 (But.trans (But.of s1) e2)
theorem ok_Parts_part_in [c : Facts K mg] : ∀ n : Nat, FnA P w K mg (He.ma K (He.ga K "Parts") "part_in") (n + 1) ["self", "e"] ((spPartIn K (He.ga K "Parts") n))
  | 0 => by
    obtain ⟨fd, F⟩ := c.dm_Parts_part_in
    exact FnA.mk' (k := 0) F sc_Parts_part_in (fun vs H Q E h => (no_Parts_part_in h).elim) (fun _ _ _ _ _ _ us hl => match us, hl with | [_, _], _ => rfl) (fun base cdv A outer s H vs Q E hr h => (no_Parts_part_in h).elim)
  | n + 1 => by
    have GM_Parts_part_in := ok_Parts_part_in n
    obtain ⟨fd, F⟩ := c.dm_Parts_part_in
    refine FnA.mk' F sc_Parts_part_in (k := n + 1) (fun vs H Q E h => ?_) (fun _ _ _ _ _ _ us hl => match us, hl with | [_, _], _ => rfl) (fun base cdv A outer s H vs Q E hr h => ?_)
    · exact len_Parts_part_in h
    · have nd := sc_Parts_part_in.nd
      have hu := hu_of hr
      have hrM_Parts_part_in : Room (n + 1) _ := hr.mono (by omega)
      refine ⟨_, (pss_cons (ps_if (PW.pt (pw_or (pt_cmpR (op_eqA (K := K) rfl hr.units) (pe_ix (ix_any (K := K) rfl) (pv 1) pe_int (fun _ _ => rfl)) pe_str (nomark _)) (pw_or1 (pt_cmpR (op_eqA (K := K) rfl hr.units) (pe_ix (ix_any (K := K) rfl) (pv 1) pe_int (fun _ _ => rfl)) pe_str (nomark _))))) (pss_one (ps_ret (pv 1))) pss_nil)
      (pss_cons (ps_if (pt_cmpR (op_eqA (K := K) rfl hr.units) (pe_ix (ix_any (K := K) rfl) (pv 1) pe_int (fun _ _ => rfl)) pe_str (nomark _)) (pss_one (ps_expr (pe_bm PySem.F.plainAttrs_list PySem.F.slot_list_append PySem.F.type_list_append mt_append (pe_fldK (K := K) rfl (pv 0)) (pa_cons (pe_tup (pa_cons pe_str (pa_cons (pe_ix (ix_any (K := K) rfl) (pv 1) pe_int (fun _ _ => rfl)) pa_nil))) pa_nil)))) (pss_one (ps_if (pt_cmpR (op_eqA (K := K) rfl hr.units) (pe_ix (ix_any (K := K) rfl) (pv 1) pe_int (fun _ _ => rfl)) pe_str (nomark _)) (pss_one (ps_expr (pe_bm PySem.F.plainAttrs_list PySem.F.slot_list_append PySem.F.type_list_append mt_append (pe_fldK (K := K) rfl (pv 0)) (pa_cons (pe_tup (pa_cons pe_str (pa_cons (pe_ix (ix_any (K := K) rfl) (pv 1) pe_int (fun _ _ => rfl)) pa_nil))) pa_nil)))) (pss_cons (ps_setLc (i := 2) (own := [("one", 3)]) rfl nd rfl rfl (sw_true rfl rfl rfl (by decide +kernel)) (pi_tup (pe_slice (sl_any (K := K) rfl) (pv 1) (po_some pe_int) po_none)) (blkOk_by (N := N_Parts_part_in) (sc := defScope s_Parts_part_in) (by decide +kernel)) (fun _ _ _ _ _ => (pg_name (i := 3) nd rfl (Or.inl rfl))) (fun _ _ _ _ _ => pts_nil) (fun _ _ _ _ _ => (pe_met GM_Parts_part_in rfl c.cl_Parts c.me_Parts_part_in hrM_Parts_part_in (pv 0) (pa_cons (pv 3) pa_nil))))
      (pss_one (ps_expr (pe_bm PySem.F.plainAttrs_list PySem.F.slot_list_append PySem.F.type_list_append mt_append (pe_fldK (K := K) rfl (pv 0)) (pa_cons (pe_callTy (call_tupA (K := K) rfl) (by rfl) c.f_tuple boot_tuple (pa_cons (pe_op (op_addA (K := K) rfl) (pe_lst (pa_cons (pe_ix (ix_any (K := K) rfl) (pv 1) pe_int (fun _ _ => rfl)) pa_nil)) (pv 2)) pa_nil)) pa_nil))))))))
      (pss_one (ps_ret (pe_op op_sub (pe_callB (call_lenA (K := K) rfl) (by rfl) c.f_len boot_len (pa_cons (pe_fldK (K := K) rfl (pv 0)) pa_nil)) pe_int))))), ?_⟩
      try dsimp only [cxOf, Cx.nox, Cx.wish]
      obtain ⟨v, p, dx, l, e, ps, rfl, hp, hv, oe, hP, hz, q⟩ := h
      have npl : p ≠ l := ne_of hp hP.choose_spec.1 (by intro z; cases z)
      rcases Exp.cases oe with ⟨j, rfl⟩ | ⟨j, rfl⟩ | ⟨k, j, rfl, ks⟩ | ⟨k, j, rfl, ks⟩ | ⟨o, es, oo, ⟨o1, o2, o3, o4⟩, l2, l1, oes, ed, ep, ec⟩
      · obtain ⟨t, u, rfl, ht, hu'⟩ := exp_1 hv
        repeat walk_at "wf"
        exact q _ H hv hP (But.refl _ _)
      · obtain ⟨t, u, rfl, ht, hu'⟩ := exp_1 hv
        repeat walk_at "wf"
        exact q _ H hv hP (But.refl _ _)
      · obtain ⟨t, u, rfl, ht, hu'⟩ := exp_1 hv
        obtain ⟨xs, hx, _⟩ := id hP
        have hxl : xs.length ≤ 1000 := by rw [hP.len hx]; omega
        repeat walk_at "wf"
        refine w_new fun p1 H1 n1 s1 f1 => ?_
        repeat walk_at "w"
        refine w_chg fun H2 e2 f2 => ?_
        repeat walk_at "w"
        have z := PL.snoc (hP.same s1) (s1 _ _ hx) e2 f2 (.tup (SqT.of f1) (.cons (.str _) (.cons (dp_ts (TS.of s1) _ _ (tupD_sel _ _) hu') .nil))) (row_sel (by decide +kernel) oe.2)
        rw [len_sub (hP.len hx)]
        exact q _ H2 (.int _) z.1 (by walk_at "bu")
      · obtain ⟨t, u, rfl, ht, hu'⟩ := exp_1 hv
        obtain ⟨xs, hx, _⟩ := id hP
        have hxl : xs.length ≤ 1000 := by rw [hP.len hx]; omega
        repeat walk_at "wf"
        refine w_new fun p1 H1 n1 s1 f1 => ?_
        repeat walk_at "w"
        refine w_chg fun H2 e2 f2 => ?_
        repeat walk_at "w"
        have z := PL.snoc (hP.same s1) (s1 _ _ hx) e2 f2 (.tup (SqT.of f1) (.cons (.str _) (.cons (dp_ts (TS.of s1) _ _ (tupD_sel _ _) hu') .nil))) (row_sel (by decide +kernel) oe.2)
        rw [len_sub (hP.len hx)]
        exact q _ H2 (.int _) z.1 (by walk_at "bu")
      · rw [ed] at hv
        obtain ⟨t, us, rfl, ht, hus⟩ := exp_n hv
        have hul : us.length = es.length := by rw [dpa_len hus, List.length_map]
        repeat walk_at "wf"
        refine w_slT1 (σ := []) ht ?_
        refine w_new fun p1 H1 n1 s1 f1 => ?_
        have hus1 := dpAll_ts (TS.of s1) _ _ (exps_tup es) hus
        have hp1 := s1 _ _ hp
        have hP1 := hP.same s1
        have fold : ∀ i, i ≤ es.length → (J.parts (es.take i) ps).2.length ≤ ps.length + cnts es := fun i hi => by
          rw [parts_len]
          have : ∀ (es : List Exp) (i : Nat), cnts (es.take i) ≤ cnts es := by
            intro es
            induction es with
            | nil => intro i; rw [List.take_nil]; exact Nat.le_refl _
            | cons a es ih =>
              intro i
              cases i with
              | zero => exact Nat.zero_le _
              | succ i => rw [List.take_succ_cons, cnts, cnts]; have := ih i; omega
          have := this es i
          omega
        refine lc_T us (fun D i ys H' => But l H1 H' ∧ PL K H' l (J.parts (es.take i) ps).2 ∧ DpAll K H' ys (J.parts (es.take i) ps).1) (SqT.of f1) (fun D H' hD e f => ⟨But.of e, hP1.same e, .nil⟩)
          (fun D hD i ys H' hi hy hp => (hP1.tsB hp.1).sqT (SqT.of f1)) (fun D hD i x ys H' hi hl hy hp => ?_) (fun D hD ys H' hl hy hp => ?_)
        · obtain ⟨b1, hP', hys⟩ := hp
          have hi' : i < es.length := by have := (List.getElem?_eq_some_iff.mp hi).1; omega
          obtain ⟨a, ha⟩ : ∃ a, es[i]? = some a := ⟨_, List.getElem?_eq_getElem hi'⟩
          have hza : (J.parts (es.take i) ps).2.length + a.cnt ≤ 1000 := by
            have := fold (i + 1) hi'
            rw [take_snoc ha, parts_snoc] at this
            have e : (Exp.part a (J.parts (es.take i) ps).2).2.length ≤ ps.length + cnts es := this
            rw [a.part_len] at e
            omega
          have oa := oes a (List.mem_of_getElem? ha)
          have t1 : TS H1 H' := hP1.tsB b1
          have hx : Dp K H' x a.d := by
            obtain ⟨d, hd1, hd2⟩ := dpa_at' (dpAll_ts t1 _ _ (exps_tup es) hus1) hi
            rw [List.getElem?_map, ha] at hd1
            cases Option.some.inj hd1
            exact hd2
          have hpp : H' p = some (.ins (He.ga K "Parts") dx [("rows", .ref l)]) := b1 _ _ npl hp1
          have nDl : D ≠ l := fun z => by rw [z] at hD; obtain ⟨_, g, _⟩ := hP1; rw [hD] at g; cases g
          repeat walk_at "w"
          refine ⟨x, p, dx, l, a, _, rfl, hpp, hx, oa, hP', hza, fun r H2 hr hP2 e2 => ?_⟩
          have hy2 : H2 D = some (.lst ys) := e2 _ _ nDl hy
          refine lc_end hy2 hl (by rw [sizeLine_eq]; omega) fun H3 e3 f3 => ?_
          have t2 : TS H' H2 := hP'.tsB e2
          have t3 : TS H2 H3 := TS.butL e3 hy2
          have ip := a.part_ok oa.2 hP'.choose_spec.2.2
          have ii := parts_ok (es.take i) (ps := ps) (fun y hy => (oes y (List.mem_of_mem_take hy)).2) hP.choose_spec.2.2
          rw [take_snoc ha, parts_snoc]
          refine ⟨But.new2 (b1.trans e2) hD e3, hP2.ts t3 fun _ g => e3 _ _ nDl.symm g, ?_⟩
          exact dpa_app (dpAll_ts (t2.trans t3) _ _ (items_all ii.1).1 hys) (dpa_one (ip.1.ts t3 hr))
        · obtain ⟨b1, hP', hys⟩ := hp
          rw [hul, List.take_length] at hys hP'
          have t1 : TS H1 H' := hP1.tsB b1
          have hpp : H' p = some (.ins (He.ga K "Parts") dx [("rows", .ref l)]) := b1 _ _ npl hp1
          have ht' : SqT K H' t _ := t1.sqT ((TS.of s1).sqT ht)
          obtain ⟨xs, hx, _⟩ := id hP'
          have ii := parts_ok es (ps := ps) (fun y hy => (oes y hy).2) hP.choose_spec.2.2
          have hxl : xs.length ≤ 1000 := by rw [hP'.len hx]; have := fold es.length (Nat.le_refl _); rw [List.take_length] at this; omega
          repeat walk_at "w"
          refine w_new fun p2 H2 n2 s2 f2 => ?_
          repeat walk_at "w"
          refine w_addL f2 (s2 _ _ hy) (by rw [sizeLine_eq, List.length_singleton]; omega) ?_
          refine w_new fun p3 H3 n3 s3 f3 => ?_
          repeat walk_at "w"
          refine w_new fun p4 H4 n4 s4 f4 => ?_
          repeat walk_at "w"
          refine w_chg fun H5 e5 f5 => ?_
          repeat walk_at "w"
          have s24 : Same H' H4 := (s2.trans s3).trans s4
          have z := PL.snoc (hP'.same s24) (s24 _ _ hx) e5 f5 (.tup (SqT.of f4) (.cons (.str _) (dpAll_ts (TS.of s24) _ _ (items_all ii.1).1 hys))) ⟨_, rfl, fun x hx => by
            rcases List.mem_cons.mp hx with rfl | hx
            · exact .str oo
            · exact ii.1 x hx⟩
          rw [len_sub (hP'.len hx)]
          rw [ep] at q
          exact q _ H5 (.int _) z.1 (((But.of s1).trans b1).trans ((But.of s24).trans e5))
end

end J
namespace J
open PySem PySem.Spec PyProof.Rows L2
local macro_rules | `(tactic| walk_at "cls") => `(tactic| first
  | with_reducible exact Facts.cl_Step
  | with_reducible exact Facts.cl_Get
  | with_reducible exact Facts.cl_Ask
  | with_reducible exact Facts.cl_Cell
  | with_reducible exact Facts.cl_Two
  | with_reducible exact Facts.cl_Put
  | with_reducible exact Facts.cl_Tell
  | with_reducible exact Facts.cl_Store
  | with_reducible exact Facts.cl_Parts
  | with_reducible exact Facts.cl_Order)
local macro_rules | `(tactic| walk_at "na") => `(tactic| first
  | with_reducible exact Facts.na_Get_to
  | with_reducible exact Facts.na_Get_sel
  | with_reducible exact Facts.na_Ask_to
  | with_reducible exact Facts.na_Ask_sel
  | with_reducible exact Facts.na_Cell_to
  | with_reducible exact Facts.na_Cell_source
  | with_reducible exact Facts.na_Two_to
  | with_reducible exact Facts.na_Two_op
  | with_reducible exact Facts.na_Two_one
  | with_reducible exact Facts.na_Two_other
  | with_reducible exact Facts.na_Put_sel
  | with_reducible exact Facts.na_Put_source
  | with_reducible exact Facts.na_Tell_sel
  | with_reducible exact Facts.na_Tell_source
  | with_reducible exact Facts.na_Store_at
  | with_reducible exact Facts.na_Store_source
  | with_reducible exact Facts.na_Parts_rows
  | with_reducible exact Facts.na_Order_parts
  | with_reducible exact Facts.na_Order_order
  | with_reducible exact Facts.na_Order_needed)
local macro_rules | `(tactic| walk_at "ty") => `(tactic| first
  | with_reducible exact ty_int
  | with_reducible exact ty_bl
  | with_reducible exact ty_str
  | with_reducible exact ty_non
  | ((with_reducible refine' ty_lst ?vv); (case vv => walk_at "tr"))
  | ((with_reducible refine' ty_sqT ?vv); (case vv => walk_at "tr"))
  | ((with_reducible refine' ty_dic ?vv); (case vv => walk_at "tr")))
local macro_rules | `(tactic| walk_at "ix") => `(tactic| first | exact at0 | exact at1 | exact at2 | assumption)
local macro_rules | `(tactic| walk_at "size") => `(tactic| first
  | assumption
  | (show _ < sizeLine; rw [sizeLine_eq]; (try simp only [List.length_cons, List.length_nil, List.length_append, List.length_map]); omega)
  | (show _ ≤ sizeLine; rw [sizeLine_eq]; (try simp only [List.length_cons, List.length_nil, List.length_append, List.length_map]); omega))
local macro_rules | `(tactic| walk_at "side") => `(tactic| first
  | assumption
  | ((with_reducible refine cdw ?_ ?_) <;> omega)
  | omega
  | (exact ⟨by omega, by omega⟩)
  | (exact Or.inl ⟨by omega, by omega⟩)
  | (exact Or.inr ⟨by omega, by omega⟩)
  | decide
  | (simp only [List.length_cons, List.length_nil, List.length_append, List.length_map]; omega)
  | (show _ ≤ _; decide))
local macro_rules | `(tactic| walk_at "as") => `(tactic| with_reducible assumption)
local macro_rules | `(tactic| walk_at "tr") => `(tactic| first
  | with_reducible assumption
  | with_reducible exact upd_same
  | ((with_reducible refine' SqL.of ?hh); (case hh => walk_at "as"))
  | ((with_reducible refine' SqT.of ?hh); (case hh => walk_at "as"))
  | ((with_reducible refine' Same.stm ?ee ?gg); (case ee => walk_at "as"); (case gg => walk_at "tr"))
  | ((with_reducible refine' Same.sqT ?ee ?gg); (case ee => walk_at "as"); (case gg => walk_at "tr"))
  | ((with_reducible refine' Same.sqL ?ee ?gg); (case ee => walk_at "as"); (case gg => walk_at "tr"))
  | ((with_reducible refine' Same.at ?ee ?gg); (case ee => walk_at "as"); (case gg => walk_at "tr"))
  | ((with_reducible refine' But.stm ?ee ?ff ?gg); (case ee => walk_at "as"); (case ff => walk_at "ne"); (case gg => walk_at "tr"))
  | ((with_reducible refine' But.tup ?ee ?ff ?gg); (case ee => walk_at "as"); (case ff => walk_at "tr1"); (case gg => walk_at "tr"))
  | ((with_reducible refine' But.sqT ?ee ?ff ?gg); (case ee => walk_at "as"); (case ff => walk_at "tr1"); (case gg => walk_at "tr"))
  | ((with_reducible refine' But.tupL ?ee ?ff ?gg); (case ee => walk_at "as"); (case ff => walk_at "tr1"); (case gg => walk_at "tr"))
  | ((with_reducible refine' But.sqTL ?ee ?ff ?gg); (case ee => walk_at "as"); (case ff => walk_at "tr1"); (case gg => walk_at "tr"))
  | ((with_reducible refine' But.sqL ?ee ?ff ?gg); (case ee => walk_at "as"); (case ff => walk_at "ne"); (case gg => walk_at "tr"))
  | ((with_reducible refine' But.at ?ee ?ff ?gg); (case ee => walk_at "as"); (case ff => walk_at "ne"); (case gg => walk_at "tr")))
local macro_rules | `(tactic| walk_at "ts") => `(tactic| first
  | with_reducible assumption
  | with_reducible exact TS.refl _
  | ((with_reducible refine' TS.trans ?gg (TS.of ?ee)); (case ee => walk_at "as"); (case gg => walk_at "ts"))
  | ((with_reducible refine' TS.trans ?gg (TS.butS ?ee ?ff)); (case ee => walk_at "as"); (case ff => walk_at "tr1"); (case gg => walk_at "ts"))
  | ((with_reducible refine' TS.trans ?gg (TS.butL ?ee ?ff)); (case ee => walk_at "as"); (case ff => walk_at "tr1"); (case gg => walk_at "ts"))
  | ((with_reducible refine' TS.trans ?gg (TS.butI ?ee ?ff)); (case ee => walk_at "as"); (case ff => walk_at "tr1"); (case gg => walk_at "ts")))
local macro_rules | `(tactic| walk_at "sm") => `(tactic| first
  | with_reducible assumption
  | with_reducible exact Same.refl _
  | ((with_reducible refine' Same.trans ?gg ?ee); (case ee => walk_at "as"); (case gg => walk_at "sm"))
  | ((with_reducible refine' But.new ?gg ?nn ?ee); (case ee => walk_at "as"); (case nn => walk_at "fr"); (case gg => walk_at "sm")))
local macro_rules | `(tactic| walk_at "fr") => `(tactic| first
  | with_reducible assumption
  | ((with_reducible refine' Same.back ?ee ?nn); (case nn => walk_at "as"); (case ee => walk_at "sm"))
  | ((with_reducible refine' But.back ?ee ?ff ?nn); (case nn => walk_at "as"); (case ff => walk_at "ne0"); (case ee => walk_at "bu")))
local macro_rules | `(tactic| walk_at "bu") => `(tactic| first
  | with_reducible assumption
  | with_reducible exact But.refl _ _
  | ((with_reducible refine' But.trans ?gg ?ee); (case ee => walk_at "as"); (case gg => walk_at "bu"))
  | ((with_reducible refine' But.trans ?gg (But.of ?ee)); (case ee => walk_at "as"); (case gg => walk_at "bu"))
  | ((with_reducible refine' But.new2 ?gg ?nn ?ee); (case ee => walk_at "as"); (case nn => walk_at "frB"); (case gg => walk_at "bu")))
local macro_rules | `(tactic| walk_at "frB") => `(tactic| first
  | with_reducible assumption
  | ((with_reducible refine' Same.back ?ee ?nn); (case nn => walk_at "as"); (case ee => walk_at "sm"))
  | ((with_reducible refine' But.back' ?ee ?ff ?nn); (case nn => walk_at "as"); (case ee => walk_at "bu"); (case ff => walk_at "tr1")))
local macro_rules | `(tactic| walk_at "tr1") => `(tactic| first
  | with_reducible assumption
  | ((with_reducible refine' Same.stm ?ee ?gg); (case ee => walk_at "as"); (case gg => walk_at "tr1"))
  | ((with_reducible refine' Same.at ?ee ?gg); (case ee => walk_at "as"); (case gg => walk_at "tr1"))
  | ((with_reducible refine' But.at ?ee ?ff ?gg); (case ee => walk_at "as"); (case ff => walk_at "ne0"); (case gg => walk_at "tr1"))
  | ((with_reducible refine' But.stm ?ee ?ff ?gg); (case ee => walk_at "as"); (case ff => walk_at "ne0"); (case gg => walk_at "tr1")))
local macro_rules | `(tactic| walk_at "ne0") => `(tactic| first
  | with_reducible assumption
  | (with_reducible apply Ne.symm; with_reducible assumption))
local macro_rules | `(tactic| walk_at "ne") => `(tactic| first
  | with_reducible assumption
  | (with_reducible apply Ne.symm; with_reducible assumption)
  | ((with_reducible refine' stm_ne ?hh ?nn); (case nn => walk_at "as"); (case hh => walk_at "tr1"))
  | ((with_reducible refine' ne_of_none ?hh ?nn); (case nn => walk_at "as"); (case hh => walk_at "tr1"))
  | ((with_reducible apply Ne.symm); (with_reducible refine' ne_of_none ?hh ?nn); (case nn => walk_at "as"); (case hh => walk_at "tr1")))
local macro_rules | `(tactic| walk_at "v") => `(tactic| first
  | with_reducible refine w_seq ?_
  | ((with_reducible refine' w_var ?vv ?_); (case vv => exact rfl))
  | with_reducible refine w_c ?_
  | with_reducible refine w_op ?_
  | with_reducible refine w_asg ?_
  | with_reducible refine w_gName ?_
  | with_reducible refine w_ret ?_
  | with_reducible refine w_ifS ?_
  | with_reducible refine w_drop ?_
  | with_reducible refine w_next ?_
  | with_reducible refine w_cons ?_
  | with_reducible refine w_nil ?_
  | with_reducible refine w_call ?_
  | with_reducible refine w_cb ?_
  | with_reducible refine w_rI0 ?_
  | with_reducible refine w_addI ?_
  | with_reducible refine w_eqI ?_
  | with_reducible refine w_neI ?_
  | with_reducible refine w_eqS ?_
  | with_reducible refine w_neS ?_
  | with_reducible refine w_eqB ?_
  | with_reducible refine w_neB ?_
  | with_reducible refine w_chain ?_
  | with_reducible refine w_test ?_
  | with_reducible refine w_tB ?_
  | with_reducible refine w_bl ?_
  | ((with_reducible refine' w_mulI ?vv ?_); (case vv => walk_at "side"))
  | ((with_reducible refine' w_rI ?vv ?_); (case vv => walk_at "side"))
  | with_reducible refine w_int1 ?_
  | with_reducible refine w_int1b ?_
  | with_reducible refine w_tup ?_
  | with_reducible refine w_lst ?_
  | with_reducible refine w_un ?_
  | with_reducible refine w_rU ?_
  | with_reducible refine w_not ?_
  | with_reducible refine w_notV ?_
  | with_reducible refine w_ifE ?_
  | with_reducible refine w_nT ?_
  | with_reducible refine w_nF ?_
  | with_reducible refine iteT ?_
  | with_reducible refine iteF ?_
  | ((with_reducible refine' w_ixT ?vv ?ww ?_); (case vv => walk_at "tr"); (case ww => walk_at "ix"))
  | ((with_reducible refine' w_ixL ?vv ?ww ?_); (case vv => walk_at "tr"); (case ww => walk_at "ix"))
  | with_reducible refine w_gSub ?_
  | ((with_reducible refine' w_setL ?vv ?ww ?_); (case vv => walk_at "tr"); (case ww => first | rfl | decide | assumption))
  | ((with_reducible refine' w_lenL ?vv ?_); (case vv => walk_at "tr"))
  | ((with_reducible refine' w_lenT ?vv ?_); (case vv => walk_at "tr"))
  | with_reducible refine w_max2 ?_
  | with_reducible refine w_max3 ?_
  | with_reducible refine w_din ?_
  | with_reducible refine w_dnotin ?_
  | with_reducible refine w_dput ?_
  | with_reducible refine w_min2 ?_
  | with_reducible refine w_bm ?_
  | with_reducible refine w_bm0 ?_
  | ((with_reducible refine' w_tyL ?vv ?_); (case vv => walk_at "tr"))
  | ((with_reducible refine' w_append ?vv ?ww ?_); (case vv => walk_at "tr"); (case ww => walk_at "size"))
  | ((with_reducible refine' w_size ?vv ?_); (case vv => walk_at "size"))
  | with_reducible refine w_forL ?_
  | with_reducible refine w_forT ?_
  | with_reducible refine w_forR1 ?_
  | with_reducible refine w_forR2 ?_
  | with_reducible refine w_lcL ?_
  | with_reducible refine w_lcT ?_
  | with_reducible refine w_lcR1 ?_
  | with_reducible refine w_yes ?_
  | with_reducible refine w_sl ?_
  | with_reducible refine w_noPart ?_
  | with_reducible refine w_part ?_
  | with_reducible refine w_int ?_
  | ((with_reducible refine' w_slL ?vv ?_); (case vv => walk_at "tr"))
  | ((with_reducible refine' w_seqL ?vv ?ww ?_); (case vv => walk_at "tr"); (case ww => rfl))
  | ((with_reducible refine' w_seqT ?vv ?ww ?_); (case vv => walk_at "tr"); (case ww => rfl))
  | with_reducible refine w_gNil ?_
  | with_reducible refine w_gCons ?_
  | with_reducible refine w_forZ ?_
  | with_reducible refine w_forM ?_
  | with_reducible refine w_forE ?_
  | with_reducible refine w_forV ?_
  | with_reducible refine w_lcZ ?_
  | with_reducible refine w_lcE ?_
  | ((with_reducible refine' w_isi (b := true) ?vv ?ww ?_); (case vv => walk_at "ty"); (case ww => decide +kernel))
  | ((with_reducible refine' w_isi (b := false) ?vv ?ww ?_); (case vv => walk_at "ty"); (case ww => decide +kernel))
  | with_reducible refine w_revL ?_
  | with_reducible refine w_pairN ?_
  | with_reducible refine w_pairC ?_
  | with_reducible refine w_dget ?_
  | with_reducible refine w_met ?_
  | ((with_reducible refine' w_metAt ?vv ?ww ?_); (case vv => walk_at "tr"); (case ww => rfl))
  | with_reducible refine w_mkI ?_
  | with_reducible refine w_fld ?_
  | ((with_reducible refine' w_fldAt ?vv ?cc ?nn ?ww ?_); (case vv => walk_at "tr"); (case cc => walk_at "cls"); (case nn => walk_at "na"); (case ww => rfl))
  | with_reducible refine w_sfld ?_
  | ((with_reducible refine' w_sfldAt ?vv ?cc ?nn ?ll ?ee ?_); (case vv => walk_at "tr"); (case cc => walk_at "cls"); (case nn => walk_at "na"); (case ll => simp); (case ee => rfl))
  | ((with_reducible refine' w_tupL ?vv ?_); (case vv => walk_at "tr"))
  | ((with_reducible refine' w_tupT ?vv ?_); (case vv => walk_at "tr"))
  | ((with_reducible refine' w_listL ?vv ?_); (case vv => walk_at "tr"))
  | ((with_reducible refine' w_listT ?vv ?_); (case vv => walk_at "tr"))
  | with_reducible refine w_tyS ?_
  | with_reducible refine w_retN ?_
  | with_reducible refine w_break ?_
  | with_reducible refine w_cont ?_)
local macro_rules | `(tactic| walk_at "w") => `(tactic| first
  | walk_at "v"
  | with_reducible refine w_or ?_
  | with_reducible refine w_and ?_
  | with_reducible refine w_andV ?_
  | with_reducible refine w_orV ?_)
local macro_rules | `(tactic| walk_at "wd") => `(tactic| first
  | walk_at "w"
  | ((with_reducible refine' w_decT ?vv ?_); (case vv => decide +kernel))
  | ((with_reducible refine' w_decF ?vv ?_); (case vv => decide +kernel)))
local macro_rules | `(tactic| walk_at "tz") => `(tactic| (intro S z; (repeat walk_at "w"); exact z))
local macro_rules | `(tactic| walk_at "wf") => `(tactic| first
  | walk_at "wd"
  | ((with_reducible refine' w_decF ?vv ?_); (case vv => with_reducible assumption)))
def spRests (K : PySem.W.Frag) : Sp := fun vs H Q _ => ∃ (v : V) (s : SetE), vs = [v] ∧ Dp K H v s.d ∧ ∀ p us H', H' p = some (.lst us) → DpAll K H' us (s.rests.map Exp.d) → Same H H' → H p = none → Q (.ref p) H'
theorem len_rests_of {K : PySem.W.Frag} {vs H Q E} (h : spRests K vs H Q E) : vs.length = 1 := by obtain ⟨_, _, rfl, _⟩ := h; rfl
def spPR (K : PySem.W.Frag) : Sp := fun vs H Q _ => ∃ (v : V) (ss : List SetE), vs = [v] ∧ Dp K H v (setsD ss) ∧ ss.length ≤ 4 ∧ (∀ x ∈ ss, OkS 4 x) ∧ ∀ t l r H', H' t = some (.tup [.ref l, .ref r]) → PL K H' l (proots ss []).2 → PL K H' r (proots ss []).1 → H l = none → H r = none → Same H H' → l ≠ r → Q (.ref t) H'
theorem len_parts_and_roots {K : PySem.W.Frag} {vs H Q E} (h : spPR K vs H Q E) : vs.length = 1 := by obtain ⟨_, _, rfl, _⟩ := h; rfl
def spPof (K : PySem.W.Frag) : Sp := fun vs H Q _ => ∃ (v : V) (ss : List SetE), vs = [v] ∧ Dp K H v (setsD ss) ∧ ss.length ≤ 4 ∧ (∀ x ∈ ss, OkS 4 x) ∧ ∀ l H', PL K H' l (proots ss []).2 → H l = none → Same H H' → Q (.ref l) H'
def spRof (K : PySem.W.Frag) : Sp := fun vs H Q _ => ∃ (v : V) (ss : List SetE), vs = [v] ∧ Dp K H v (setsD ss) ∧ ss.length ≤ 4 ∧ (∀ x ∈ ss, OkS 4 x) ∧ ∀ l H', PL K H' l (proots ss []).1 → H l = none → Same H H' → Q (.ref l) H'
theorem len_parts_of {K : PySem.W.Frag} {vs H Q E} (h : spPof K vs H Q E) : vs.length = 1 := by obtain ⟨_, _, rfl, _⟩ := h; rfl
theorem len_roots_of {K : PySem.W.Frag} {vs H Q E} (h : spRof K vs H Q E) : vs.length = 1 := by obtain ⟨_, _, rfl, _⟩ := h; rfl
theorem set_d {K : PySem.W.Frag} {H : Hp} {v : V} {ss : List SetE} (h : Dp K H v (setsD ss)) : ∃ p xs, v = .ref p ∧ SqT K H p xs ∧ DpAll K H xs (ss.map SetE.d) := dp_tup h
theorem cnts_take (es : List Exp) : ∀ i : Nat, cnts (es.take i) ≤ cnts es := by
  induction es with
  | nil => intro i; rw [List.take_nil]; exact Nat.le_refl _
  | cons a es ih =>
    intro i
    cases i with
    | zero => exact Nat.zero_le _
    | succ i => rw [List.take_succ_cons, cnts, cnts]; have := ih i; omega
section
variable {P : Program} {w : World} {K : PySem.W.Frag} {mg : Str → Option Value}
theorem ok_rests_of [c : Facts K mg] : Fn P w K mg "rests_of" 1 ["one"] ((spRests K)) := by
  obtain ⟨fd, F⟩ := c.d_rests_of
  refine Fn.mk' F c.g_rests_of sc_rests_of (k := 0) (fun vs H Q E h => ?_) (fun _ _ _ _ _ _ us hl => match us, hl with | [_], _ => rfl) (fun base cdv A outer s H vs Q E hr h => ?_)
  · exact len_rests_of h
  · have nd := sc_rests_of.nd
    have hu := hu_of hr
    refine ⟨_, (pss_cons (ps_if (pt_cmpR (op_eqA (K := K) rfl hr.units) (pe_ix (ix_any (K := K) rfl) (pv 0) pe_int (fun _ _ => rfl)) pe_str (nomark _)) (pss_one (ps_ret (pe_lst (pa_cons (pe_ix (ix_any (K := K) rfl) (pv 0) pe_int (fun _ _ => rfl)) (pa_cons (pe_ix (ix_any (K := K) rfl) (pv 0) pe_int (fun _ _ => rfl)) pa_nil))))) pss_nil)
      (pss_one (ps_ret (pe_lst (pa_cons (pe_ix (ix_any (K := K) rfl) (pv 0) pe_int (fun _ _ => rfl)) pa_nil))))), ?_⟩
    try dsimp only [cxOf, Cx.nox, Cx.wish]
    obtain ⟨v, s, rfl, hv, q⟩ := h
    cases s with
    | cell a b =>
      obtain ⟨p, u, u2, rfl, hp, hu', hu2⟩ := exp_2 hv
      repeat walk_at "wf"
      refine w_new fun p1 H1 n1 s1 f1 => ?_
      exact q _ _ H1 f1 (.cons (Exp.ts (TS.of s1) hu') (.cons (Exp.ts (TS.of s1) hu2) .nil)) s1 n1
    | sel m k n e =>
      obtain ⟨p, u, u2, rfl, hp, hu', hu2⟩ := exp_2 hv
      have nc : (if m then ("mark" : Str) else "place") ≠ "cell" := by cases m <;> decide +kernel
      repeat walk_at "wf"
      refine w_new fun p1 H1 n1 s1 f1 => ?_
      exact q _ _ H1 f1 (.cons (Exp.ts (TS.of s1) hu2) .nil) s1 n1
theorem ok_parts_and_roots [c : Facts K mg] (G_rests_of : Fn P w K mg "rests_of" 1 ["one"] ((spRests K))) (GM_Parts___init__ : FnA P w K mg (He.ma K (He.ga K "Parts") "__init__") 1 ["self"] ((spInit (He.ga K "Parts")))) (GM_Parts_part_in : FnA P w K mg (He.ma K (He.ga K "Parts") "part_in") 5 ["self", "e"] ((spPartIn K (He.ga K "Parts") 4))) : Fn P w K mg "parts_and_roots" 6 ["sets"] ((spPR K)) := by
  obtain ⟨fd, F⟩ := c.d_parts_and_roots
  refine Fn.mk' F c.g_parts_and_roots sc_parts_and_roots (k := 5) (fun vs H Q E h => ?_) (fun _ _ _ _ _ _ us hl => match us, hl with | [_], _ => rfl) (fun base cdv A outer s H vs Q E hr h => ?_)
  · exact len_parts_and_roots h
  · have nd := sc_parts_and_roots.nd
    have hu := hu_of hr
    have hr_rests_of : Room 1 _ := hr.mono (by omega)
    have hrI_Parts : Room (1 + 1) _ := hr.mono (by omega)
    have hrM_Parts_part_in : Room 5 _ := hr.mono (by omega)
    refine ⟨_, (pss_cons (ps_set (i := 1) nd rfl (Or.inr rfl) (pe_mkI0 GM_Parts___init__ rfl c.mk_Parts c.gc_Parts hrI_Parts (by rfl)))
      (pss_cons (ps_set (i := 2) nd rfl (Or.inl rfl) (pe_lst pa_nil))
      (pss_cons (ps_for PassesOwn.never rfl (pi_tup (pv 0)) (pg_name (i := 3) nd rfl (Or.inl rfl)) (pss_one (ps_expr (pe_bm PySem.F.plainAttrs_list PySem.F.slot_list_append PySem.F.type_list_append mt_append (pv 2) (pa_cons (pe_callTy (call_tupA (K := K) rfl) (by rfl) c.f_tuple boot_tuple (pa_cons (pe_lc (own := [("e", 4)]) rfl nd (pi_list (pe_fn G_rests_of hr_rests_of (by rfl) (pa_cons (pv 3) pa_nil))) (blkOk_by (N := N_parts_and_roots) (sc := defScope s_parts_and_roots) (by decide +kernel)) (fun _ _ _ _ _ => (pg_name (i := 4) nd rfl (Or.inl rfl))) (fun _ _ _ _ _ => pts_nil) (fun _ _ _ _ _ => (pe_met GM_Parts_part_in rfl c.cl_Parts c.me_Parts_part_in hrM_Parts_part_in (pv 1) (pa_cons (pv 4) pa_nil)))) pa_nil)) pa_nil)))))
      (pss_one (ps_ret (pe_tup (pa_cons (pe_fldK (K := K) rfl (pv 1)) (pa_cons (pv 2) pa_nil)))))))), ?_⟩
    try dsimp only [cxOf, Cx.nox, Cx.wish]
    obtain ⟨v, ss, rfl, hv, hl, ho, q⟩ := h
    obtain ⟨a, xs, rfl, ha, hxs⟩ := set_d hv
    have hxl : xs.length = ss.length := by rw [dpa_len hxs, List.length_map]
    repeat walk_at "w"
    refine w_newI fun p dx H1 n1 s1 f1 => ?_
    refine ⟨p, dx, rfl, f1, fun l H2 f2 fl nl e2 => ⟨rfl, ?_⟩⟩
    repeat walk_at "w"
    refine w_new fun r H3 n3 s3 f3 => ?_
    have s02 : Same H H2 := But.new s1 n1 e2
    have s03 : Same H H3 := s02.trans s3
    have nl0 : H l = none := s1.free nl
    have nr0 : H r = none := s02.free n3
    have npl : p ≠ l := fun z => by rw [z, fl] at f2; cases f2
    have nrp : r ≠ p := fun z => by rw [z, f2] at n3; cases n3
    have nrl : r ≠ l := fun z => by rw [z, fl] at n3; cases n3
    repeat walk_at "w"
    refine fl_tup xs (fun i σ H' => ∃ o, σ = [some (.ref a), some (.ref p), some (.ref r), o, none] ∧ H' p = some (.ins (He.ga K "Parts") dx [("rows", .ref l)]) ∧ PL K H' l (proots (ss.take i) []).2 ∧ PL K H' r (proots (ss.take i) []).1 ∧ Same H H') (s03.sqT ha)
      ⟨_, rfl, s3 _ _ f2, (PL.new fl).same s3, PL.new f3, s03⟩ (fun i σ H' hi hp => ?_) (fun i x σ H' hi hp => ?_) (fun σ H' hp => ?_)
    · obtain ⟨o, rfl, _, _, _, sm⟩ := hp
      exact sm.sqT ha
    · obtain ⟨o, rfl, hpp, hP, hR, sm⟩ := hp
      have hi' : i < ss.length := by have := (List.getElem?_eq_some_iff.mp hi).1; omega
      obtain ⟨s, hs⟩ : ∃ s, ss[i]? = some s := ⟨_, List.getElem?_eq_getElem hi'⟩
      have os := ho s (List.mem_of_getElem? hs)
      have hx : Dp K H' x s.d := by
        obtain ⟨d, hd1, hd2⟩ := dpa_at' (dpAll_ts (TS.of sm) _ _ (setsD_tup ss) hxs) hi
        rw [List.getElem?_map, hs] at hd1
        cases Option.some.inj hd1
        exact hd2
      obtain ⟨ys, hy, hyd, hyr⟩ := id hR
      have ln := proots_len (ss.take i) [] (fun x hx => ho x (List.mem_of_mem_take hx))
      have lt : (ss.take i).length ≤ 4 := by rw [List.length_take]; omega
      have hyl : ys.length ≤ 4 := by rw [hR.len hy, ln.2]; exact lt
      have lp : (proots (ss.take i) []).2.length ≤ 120 := by have := ln.1; rw [List.length_nil] at this; omega
      have cr := cnts_le s.rests (okS_rests os)
      have rl : s.rests.length ≤ 2 := by cases s <;> simp [SetE.rests]
      repeat walk_at "w"
      refine ⟨x, s, rfl, hx, fun t us H4 ht hus s4 n4 => ?_⟩
      have hP4 := hP.same s4
      have hul : us.length = s.rests.length := by rw [dpa_len hus, List.length_map]
      refine lc_L us (fun D j zs H' => But l H4 H' ∧ PL K H' l (J.parts (s.rests.take j) (proots (ss.take i) []).2).2 ∧ DpAll K H' zs (J.parts (s.rests.take j) (proots (ss.take i) []).2).1) (SqL.of ht) (fun D H' hD e f => ⟨But.of e, hP4.same e, .nil⟩)
        (fun D hD j zs H' hi hy hp => ?_) (fun D hD j x zs H' hj hl hy hp => ?_) (fun D hD zs H' hl hz hp => ?_)
      · refine But.sqL hp.1 (fun z => ?_) (SqL.of ht)
        obtain ⟨_, g, _⟩ := hP
        rw [z, g] at n4; cases n4
      · obtain ⟨b1, hP', hys⟩ := hp
        have hj' : j < s.rests.length := by have := (List.getElem?_eq_some_iff.mp hj).1; omega
        obtain ⟨e, he⟩ : ∃ e, s.rests[j]? = some e := ⟨_, List.getElem?_eq_getElem hj'⟩
        have oe := okS_rests os e (List.mem_of_getElem? he)
        have ce := cnt4 oe (Nat.le_refl 4)
        have hza : (J.parts (s.rests.take j) (proots (ss.take i) []).2).2.length + e.cnt ≤ 1000 := by
          rw [parts_len]
          have := cnts_take s.rests j
          omega
        have t1 : TS H4 H' := hP4.tsB b1
        have hx : Dp K H' x e.d := by
          obtain ⟨d, hd1, hd2⟩ := dpa_at' (dpAll_ts t1 _ _ (exps_tup _) hus) hj
          rw [List.getElem?_map, he] at hd1
          cases Option.some.inj hd1
          exact hd2
        have hpp' : H' p = some (.ins (He.ga K "Parts") dx [("rows", .ref l)]) := b1 _ _ npl (s4 _ _ hpp)
        have nDl : D ≠ l := fun z => by rw [z] at hD; obtain ⟨_, g, _⟩ := hP4; rw [hD] at g; cases g
        repeat walk_at "w"
        refine ⟨x, p, dx, l, e, _, rfl, hpp', hx, oe, hP', hza, fun v H5 hv5 hP5 e5 => ?_⟩
        have hy2 : H5 D = some (.lst zs) := e5 _ _ nDl hy
        refine lc_end hy2 hl (by rw [sizeLine_eq]; omega) fun H6 e6 f6 => ?_
        have t2 : TS H' H5 := hP'.tsB e5
        have t3 : TS H5 H6 := TS.butL e6 hy2
        have ip := e.part_ok oe.2 hP'.choose_spec.2.2
        have ii := parts_ok (s.rests.take j) (ps := (proots (ss.take i) []).2) (fun y hy => (okS_rests os y (List.mem_of_mem_take hy)).2) hP.choose_spec.2.2
        rw [take_snoc he, parts_snoc]
        refine ⟨But.new2 (b1.trans e5) hD e6, hP5.ts t3 fun _ g => e6 _ _ nDl.symm g, ?_⟩
        exact dpa_app (dpAll_ts (t2.trans t3) _ _ (items_all ii.1).1 hys) (dpa_one (ip.1.ts t3 hv5))
      · obtain ⟨b1, hP', hys⟩ := hp
        rw [hul, List.take_length] at hys hP'
        have nrD : H' r = some (.lst ys) := b1 _ _ nrl (s4 _ _ hy)
        have hpp' : H' p = some (.ins (He.ga K "Parts") dx [("rows", .ref l)]) := b1 _ _ npl (s4 _ _ hpp)
        have ii := parts_ok s.rests (ps := (proots (ss.take i) []).2) (fun y hy => (okS_rests os y hy).2) hP.choose_spec.2.2
        have t1 : TS H4 H' := hP4.tsB b1
        repeat walk_at "w"
        refine w_new fun t5 H5 n5 s5 f5 => ?_
        repeat walk_at "w"
        refine w_chg fun H6 e6 f6 => ?_
        repeat walk_at "w"
        have rw5 : Row (.tuple (J.parts s.rests (proots (ss.take i) []).2).1) := ⟨_, rfl, ii.1⟩
        have hR5 : PL K H5 r (proots (ss.take i) []).1 := ((hR.same s4).but hP4 nrl b1).same s5
        have z := PL.snoc hR5 (s5 _ _ nrD) e6 f6 (.tup (SqT.of f5) (dpAll_ts (TS.of s5) _ _ (items_all ii.1).1 hys)) rw5
        rw [take_snoc hs, proots_snoc]
        have bl : But l H H' := (But.of (sm.trans s4)).trans b1
        refine ⟨_, rfl, e6 _ _ nrp.symm (s5 _ _ hpp'), (hP'.same s5).but hR5 nrl.symm e6, z.1, ?_⟩
        exact But.new ((But.new (sm.trans s4) nl0 b1).trans s5) nr0 e6
    · obtain ⟨o, rfl, hpp, hP, hR, sm⟩ := hp
      rw [hxl, List.take_length] at hP hR
      repeat walk_at "w"
      refine w_new fun t H4 n4 s4 f4 => ?_
      exact q t l r H4 f4 (hP.same s4) (hR.same s4) nl0 nr0 (sm.trans s4) nrl.symm
theorem ok_parts_of [c : Facts K mg] (G_parts_and_roots : Fn P w K mg "parts_and_roots" 6 ["sets"] ((spPR K))) : Fn P w K mg "parts_of" 7 ["sets"] ((spPof K)) := by
  obtain ⟨fd, F⟩ := c.d_parts_of
  refine Fn.mk' F c.g_parts_of sc_parts_of (k := 6) (fun vs H Q E h => ?_) (fun _ _ _ _ _ _ us hl => match us, hl with | [_], _ => rfl) (fun base cdv A outer s H vs Q E hr h => ?_)
  · exact len_parts_of h
  · have nd := sc_parts_of.nd
    have hu := hu_of hr
    have hr_parts_and_roots : Room 6 _ := hr.mono (by omega)
    refine ⟨_, (pss_cons (ps_asg (pe_fn G_parts_and_roots hr_parts_and_roots (by rfl) (pa_cons (pv 0) pa_nil)) (pg_seq 2 (K := K) rfl rfl (pgs_cons (pg_name (i := 1) nd rfl (Or.inl rfl)) (pgs_cons (pg_name (i := 2) nd rfl (Or.inl rfl)) pgs_nil))))
      (pss_one (ps_ret (pv 1)))), ?_⟩
    try dsimp only [cxOf, Cx.nox, Cx.wish]
    obtain ⟨v, ss, rfl, hv, hl, ho, q⟩ := h
    repeat walk_at "w"
    refine ⟨v, ss, rfl, hv, hl, ho, fun t l r H1 ht hP hR nl nr sm ne => ?_⟩
    repeat walk_at "w"
    exact q l H1 hP nl sm
theorem ok_roots_of [c : Facts K mg] (G_parts_and_roots : Fn P w K mg "parts_and_roots" 6 ["sets"] ((spPR K))) : Fn P w K mg "roots_of" 7 ["sets"] ((spRof K)) := by
  obtain ⟨fd, F⟩ := c.d_roots_of
  refine Fn.mk' F c.g_roots_of sc_roots_of (k := 6) (fun vs H Q E h => ?_) (fun _ _ _ _ _ _ us hl => match us, hl with | [_], _ => rfl) (fun base cdv A outer s H vs Q E hr h => ?_)
  · exact len_roots_of h
  · have nd := sc_roots_of.nd
    have hu := hu_of hr
    have hr_parts_and_roots : Room 6 _ := hr.mono (by omega)
    refine ⟨_, (pss_cons (ps_asg (pe_fn G_parts_and_roots hr_parts_and_roots (by rfl) (pa_cons (pv 0) pa_nil)) (pg_seq 2 (K := K) rfl rfl (pgs_cons (pg_name (i := 1) nd rfl (Or.inl rfl)) (pgs_cons (pg_name (i := 2) nd rfl (Or.inl rfl)) pgs_nil))))
      (pss_one (ps_ret (pv 2)))), ?_⟩
    try dsimp only [cxOf, Cx.nox, Cx.wish]
    obtain ⟨v, ss, rfl, hv, hl, ho, q⟩ := h
    repeat walk_at "w"
    refine ⟨v, ss, rfl, hv, hl, ho, fun t l r H1 ht hP hR nl nr sm ne => ?_⟩
    repeat walk_at "w"
    exact q r H1 hR nr sm
end

end J
namespace J
open PySem PySem.Spec PyProof.Rows L2
local macro_rules | `(tactic| walk_at "cls") => `(tactic| first
  | with_reducible exact Facts.cl_Step
  | with_reducible exact Facts.cl_Get
  | with_reducible exact Facts.cl_Ask
  | with_reducible exact Facts.cl_Cell
  | with_reducible exact Facts.cl_Two
  | with_reducible exact Facts.cl_Put
  | with_reducible exact Facts.cl_Tell
  | with_reducible exact Facts.cl_Store
  | with_reducible exact Facts.cl_Parts
  | with_reducible exact Facts.cl_Order)
local macro_rules | `(tactic| walk_at "na") => `(tactic| first
  | with_reducible exact Facts.na_Get_to
  | with_reducible exact Facts.na_Get_sel
  | with_reducible exact Facts.na_Ask_to
  | with_reducible exact Facts.na_Ask_sel
  | with_reducible exact Facts.na_Cell_to
  | with_reducible exact Facts.na_Cell_source
  | with_reducible exact Facts.na_Two_to
  | with_reducible exact Facts.na_Two_op
  | with_reducible exact Facts.na_Two_one
  | with_reducible exact Facts.na_Two_other
  | with_reducible exact Facts.na_Put_sel
  | with_reducible exact Facts.na_Put_source
  | with_reducible exact Facts.na_Tell_sel
  | with_reducible exact Facts.na_Tell_source
  | with_reducible exact Facts.na_Store_at
  | with_reducible exact Facts.na_Store_source
  | with_reducible exact Facts.na_Parts_rows
  | with_reducible exact Facts.na_Order_parts
  | with_reducible exact Facts.na_Order_order
  | with_reducible exact Facts.na_Order_needed)
local macro_rules | `(tactic| walk_at "ty") => `(tactic| first
  | with_reducible exact ty_int
  | with_reducible exact ty_bl
  | with_reducible exact ty_str
  | with_reducible exact ty_non
  | ((with_reducible refine' ty_lst ?vv); (case vv => walk_at "tr"))
  | ((with_reducible refine' ty_sqT ?vv); (case vv => walk_at "tr"))
  | ((with_reducible refine' ty_dic ?vv); (case vv => walk_at "tr")))
local macro_rules | `(tactic| walk_at "ix") => `(tactic| first | exact at0 | exact at1 | exact at2 | assumption)
local macro_rules | `(tactic| walk_at "size") => `(tactic| first
  | assumption
  | (show _ < sizeLine; rw [sizeLine_eq]; (try simp only [List.length_cons, List.length_nil, List.length_append, List.length_map]); omega)
  | (show _ ≤ sizeLine; rw [sizeLine_eq]; (try simp only [List.length_cons, List.length_nil, List.length_append, List.length_map]); omega))
local macro_rules | `(tactic| walk_at "side") => `(tactic| first
  | assumption
  | ((with_reducible refine cdw ?_ ?_) <;> omega)
  | omega
  | (exact ⟨by omega, by omega⟩)
  | (exact Or.inl ⟨by omega, by omega⟩)
  | (exact Or.inr ⟨by omega, by omega⟩)
  | decide
  | (simp only [List.length_cons, List.length_nil, List.length_append, List.length_map]; omega)
  | (show _ ≤ _; decide))
local macro_rules | `(tactic| walk_at "as") => `(tactic| with_reducible assumption)
local macro_rules | `(tactic| walk_at "tr") => `(tactic| first
  | with_reducible assumption
  | with_reducible exact upd_same
  | ((with_reducible refine' SqL.of ?hh); (case hh => walk_at "as"))
  | ((with_reducible refine' SqT.of ?hh); (case hh => walk_at "as"))
  | ((with_reducible refine' Same.stm ?ee ?gg); (case ee => walk_at "as"); (case gg => walk_at "tr"))
  | ((with_reducible refine' Same.sqT ?ee ?gg); (case ee => walk_at "as"); (case gg => walk_at "tr"))
  | ((with_reducible refine' Same.sqL ?ee ?gg); (case ee => walk_at "as"); (case gg => walk_at "tr"))
  | ((with_reducible refine' Same.at ?ee ?gg); (case ee => walk_at "as"); (case gg => walk_at "tr"))
  | ((with_reducible refine' But.stm ?ee ?ff ?gg); (case ee => walk_at "as"); (case ff => walk_at "ne"); (case gg => walk_at "tr"))
  | ((with_reducible refine' But.tup ?ee ?ff ?gg); (case ee => walk_at "as"); (case ff => walk_at "tr1"); (case gg => walk_at "tr"))
  | ((with_reducible refine' But.sqT ?ee ?ff ?gg); (case ee => walk_at "as"); (case ff => walk_at "tr1"); (case gg => walk_at "tr"))
  | ((with_reducible refine' But.tupL ?ee ?ff ?gg); (case ee => walk_at "as"); (case ff => walk_at "tr1"); (case gg => walk_at "tr"))
  | ((with_reducible refine' But.sqTL ?ee ?ff ?gg); (case ee => walk_at "as"); (case ff => walk_at "tr1"); (case gg => walk_at "tr"))
  | ((with_reducible refine' But.sqL ?ee ?ff ?gg); (case ee => walk_at "as"); (case ff => walk_at "ne"); (case gg => walk_at "tr"))
  | ((with_reducible refine' But.at ?ee ?ff ?gg); (case ee => walk_at "as"); (case ff => walk_at "ne"); (case gg => walk_at "tr")))
local macro_rules | `(tactic| walk_at "ts") => `(tactic| first
  | with_reducible assumption
  | with_reducible exact TS.refl _
  | ((with_reducible refine' TS.trans ?gg (TS.of ?ee)); (case ee => walk_at "as"); (case gg => walk_at "ts"))
  | ((with_reducible refine' TS.trans ?gg (TS.butS ?ee ?ff)); (case ee => walk_at "as"); (case ff => walk_at "tr1"); (case gg => walk_at "ts"))
  | ((with_reducible refine' TS.trans ?gg (TS.butL ?ee ?ff)); (case ee => walk_at "as"); (case ff => walk_at "tr1"); (case gg => walk_at "ts"))
  | ((with_reducible refine' TS.trans ?gg (TS.butI ?ee ?ff)); (case ee => walk_at "as"); (case ff => walk_at "tr1"); (case gg => walk_at "ts")))
local macro_rules | `(tactic| walk_at "sm") => `(tactic| first
  | with_reducible assumption
  | with_reducible exact Same.refl _
  | ((with_reducible refine' Same.trans ?gg ?ee); (case ee => walk_at "as"); (case gg => walk_at "sm"))
  | ((with_reducible refine' But.new ?gg ?nn ?ee); (case ee => walk_at "as"); (case nn => walk_at "fr"); (case gg => walk_at "sm")))
local macro_rules | `(tactic| walk_at "fr") => `(tactic| first
  | with_reducible assumption
  | ((with_reducible refine' Same.back ?ee ?nn); (case nn => walk_at "as"); (case ee => walk_at "sm"))
  | ((with_reducible refine' But.back ?ee ?ff ?nn); (case nn => walk_at "as"); (case ff => walk_at "ne0"); (case ee => walk_at "bu")))
local macro_rules | `(tactic| walk_at "bu") => `(tactic| first
  | with_reducible assumption
  | with_reducible exact But.refl _ _
  | ((with_reducible refine' But.trans ?gg ?ee); (case ee => walk_at "as"); (case gg => walk_at "bu"))
  | ((with_reducible refine' But.trans ?gg (But.of ?ee)); (case ee => walk_at "as"); (case gg => walk_at "bu"))
  | ((with_reducible refine' But.new2 ?gg ?nn ?ee); (case ee => walk_at "as"); (case nn => walk_at "frB"); (case gg => walk_at "bu")))
local macro_rules | `(tactic| walk_at "frB") => `(tactic| first
  | with_reducible assumption
  | ((with_reducible refine' Same.back ?ee ?nn); (case nn => walk_at "as"); (case ee => walk_at "sm"))
  | ((with_reducible refine' But.back' ?ee ?ff ?nn); (case nn => walk_at "as"); (case ee => walk_at "bu"); (case ff => walk_at "tr1")))
local macro_rules | `(tactic| walk_at "tr1") => `(tactic| first
  | with_reducible assumption
  | ((with_reducible refine' Same.stm ?ee ?gg); (case ee => walk_at "as"); (case gg => walk_at "tr1"))
  | ((with_reducible refine' Same.at ?ee ?gg); (case ee => walk_at "as"); (case gg => walk_at "tr1"))
  | ((with_reducible refine' But.at ?ee ?ff ?gg); (case ee => walk_at "as"); (case ff => walk_at "ne0"); (case gg => walk_at "tr1"))
  | ((with_reducible refine' But.stm ?ee ?ff ?gg); (case ee => walk_at "as"); (case ff => walk_at "ne0"); (case gg => walk_at "tr1")))
local macro_rules | `(tactic| walk_at "ne0") => `(tactic| first
  | with_reducible assumption
  | (with_reducible apply Ne.symm; with_reducible assumption))
local macro_rules | `(tactic| walk_at "ne") => `(tactic| first
  | with_reducible assumption
  | (with_reducible apply Ne.symm; with_reducible assumption)
  | ((with_reducible refine' stm_ne ?hh ?nn); (case nn => walk_at "as"); (case hh => walk_at "tr1"))
  | ((with_reducible refine' ne_of_none ?hh ?nn); (case nn => walk_at "as"); (case hh => walk_at "tr1"))
  | ((with_reducible apply Ne.symm); (with_reducible refine' ne_of_none ?hh ?nn); (case nn => walk_at "as"); (case hh => walk_at "tr1")))
local macro_rules | `(tactic| walk_at "v") => `(tactic| first
  | with_reducible refine w_seq ?_
  | ((with_reducible refine' w_var ?vv ?_); (case vv => exact rfl))
  | with_reducible refine w_c ?_
  | with_reducible refine w_op ?_
  | with_reducible refine w_asg ?_
  | with_reducible refine w_gName ?_
  | with_reducible refine w_ret ?_
  | with_reducible refine w_ifS ?_
  | with_reducible refine w_drop ?_
  | with_reducible refine w_next ?_
  | with_reducible refine w_cons ?_
  | with_reducible refine w_nil ?_
  | with_reducible refine w_call ?_
  | with_reducible refine w_cb ?_
  | with_reducible refine w_rI0 ?_
  | with_reducible refine w_addI ?_
  | with_reducible refine w_eqI ?_
  | with_reducible refine w_neI ?_
  | with_reducible refine w_eqS ?_
  | with_reducible refine w_neS ?_
  | with_reducible refine w_eqB ?_
  | with_reducible refine w_neB ?_
  | with_reducible refine w_chain ?_
  | with_reducible refine w_test ?_
  | with_reducible refine w_tB ?_
  | with_reducible refine w_bl ?_
  | ((with_reducible refine' w_mulI ?vv ?_); (case vv => walk_at "side"))
  | ((with_reducible refine' w_rI ?vv ?_); (case vv => walk_at "side"))
  | with_reducible refine w_int1 ?_
  | with_reducible refine w_int1b ?_
  | with_reducible refine w_tup ?_
  | with_reducible refine w_lst ?_
  | with_reducible refine w_un ?_
  | with_reducible refine w_rU ?_
  | with_reducible refine w_not ?_
  | with_reducible refine w_notV ?_
  | with_reducible refine w_ifE ?_
  | with_reducible refine w_nT ?_
  | with_reducible refine w_nF ?_
  | with_reducible refine iteT ?_
  | with_reducible refine iteF ?_
  | ((with_reducible refine' w_ixT ?vv ?ww ?_); (case vv => walk_at "tr"); (case ww => walk_at "ix"))
  | ((with_reducible refine' w_ixL ?vv ?ww ?_); (case vv => walk_at "tr"); (case ww => walk_at "ix"))
  | with_reducible refine w_gSub ?_
  | ((with_reducible refine' w_setL ?vv ?ww ?_); (case vv => walk_at "tr"); (case ww => first | rfl | decide | assumption))
  | ((with_reducible refine' w_lenL ?vv ?_); (case vv => walk_at "tr"))
  | ((with_reducible refine' w_lenT ?vv ?_); (case vv => walk_at "tr"))
  | with_reducible refine w_max2 ?_
  | with_reducible refine w_max3 ?_
  | with_reducible refine w_din ?_
  | with_reducible refine w_dnotin ?_
  | with_reducible refine w_dput ?_
  | with_reducible refine w_min2 ?_
  | with_reducible refine w_bm ?_
  | with_reducible refine w_bm0 ?_
  | ((with_reducible refine' w_tyL ?vv ?_); (case vv => walk_at "tr"))
  | ((with_reducible refine' w_append ?vv ?ww ?_); (case vv => walk_at "tr"); (case ww => walk_at "size"))
  | ((with_reducible refine' w_size ?vv ?_); (case vv => walk_at "size"))
  | with_reducible refine w_forL ?_
  | with_reducible refine w_forT ?_
  | with_reducible refine w_forR1 ?_
  | with_reducible refine w_forR2 ?_
  | with_reducible refine w_lcL ?_
  | with_reducible refine w_lcT ?_
  | with_reducible refine w_lcR1 ?_
  | with_reducible refine w_yes ?_
  | with_reducible refine w_sl ?_
  | with_reducible refine w_noPart ?_
  | with_reducible refine w_part ?_
  | with_reducible refine w_int ?_
  | ((with_reducible refine' w_slL ?vv ?_); (case vv => walk_at "tr"))
  | ((with_reducible refine' w_seqL ?vv ?ww ?_); (case vv => walk_at "tr"); (case ww => rfl))
  | ((with_reducible refine' w_seqT ?vv ?ww ?_); (case vv => walk_at "tr"); (case ww => rfl))
  | with_reducible refine w_gNil ?_
  | with_reducible refine w_gCons ?_
  | with_reducible refine w_forZ ?_
  | with_reducible refine w_forM ?_
  | with_reducible refine w_forE ?_
  | with_reducible refine w_forV ?_
  | with_reducible refine w_lcZ ?_
  | with_reducible refine w_lcE ?_
  | ((with_reducible refine' w_isi (b := true) ?vv ?ww ?_); (case vv => walk_at "ty"); (case ww => decide +kernel))
  | ((with_reducible refine' w_isi (b := false) ?vv ?ww ?_); (case vv => walk_at "ty"); (case ww => decide +kernel))
  | with_reducible refine w_revL ?_
  | with_reducible refine w_pairN ?_
  | with_reducible refine w_pairC ?_
  | with_reducible refine w_dget ?_
  | with_reducible refine w_met ?_
  | ((with_reducible refine' w_metAt ?vv ?ww ?_); (case vv => walk_at "tr"); (case ww => rfl))
  | with_reducible refine w_mkI ?_
  | with_reducible refine w_fld ?_
  | ((with_reducible refine' w_fldAt ?vv ?cc ?nn ?ww ?_); (case vv => walk_at "tr"); (case cc => walk_at "cls"); (case nn => walk_at "na"); (case ww => rfl))
  | with_reducible refine w_sfld ?_
  | ((with_reducible refine' w_sfldAt ?vv ?cc ?nn ?ll ?ee ?_); (case vv => walk_at "tr"); (case cc => walk_at "cls"); (case nn => walk_at "na"); (case ll => simp); (case ee => rfl))
  | ((with_reducible refine' w_tupL ?vv ?_); (case vv => walk_at "tr"))
  | ((with_reducible refine' w_tupT ?vv ?_); (case vv => walk_at "tr"))
  | ((with_reducible refine' w_listL ?vv ?_); (case vv => walk_at "tr"))
  | ((with_reducible refine' w_listT ?vv ?_); (case vv => walk_at "tr"))
  | with_reducible refine w_tyS ?_
  | with_reducible refine w_retN ?_
  | with_reducible refine w_break ?_
  | with_reducible refine w_cont ?_)
local macro_rules | `(tactic| walk_at "w") => `(tactic| first
  | walk_at "v"
  | with_reducible refine w_or ?_
  | with_reducible refine w_and ?_
  | with_reducible refine w_andV ?_
  | with_reducible refine w_orV ?_)
local macro_rules | `(tactic| walk_at "wd") => `(tactic| first
  | walk_at "w"
  | ((with_reducible refine' w_decT ?vv ?_); (case vv => decide +kernel))
  | ((with_reducible refine' w_decF ?vv ?_); (case vv => decide +kernel)))
local macro_rules | `(tactic| walk_at "tz") => `(tactic| (intro S z; (repeat walk_at "w"); exact z))
local macro_rules | `(tactic| walk_at "wf") => `(tactic| first
  | walk_at "wd"
  | ((with_reducible refine' w_decF ?vv ?_); (case vv => with_reducible assumption)))
def spLP (K : PySem.W.Frag) : Sp := fun vs H Q _ => ∃ (v : V) (ss : List SetE), vs = [v] ∧ Dp K H v (setsD ss) ∧ ss.length ≤ 4 ∧ (∀ x ∈ ss, OkS 4 x) ∧ ∀ t l r H', H' t = some (.tup [.ref l, .ref r]) → PL K H' l (proots ss []).2 → PL K H' r (proots ss []).1 → H l = none → H r = none → Same H H' → l ≠ r → Q (.ref t) H'
theorem len_law_parts {K : PySem.W.Frag} {vs H Q E} (h : spLP K vs H Q E) : vs.length = 1 := by obtain ⟨_, _, rfl, _⟩ := h; rfl
theorem set_d' {K : PySem.W.Frag} {H : Hp} {v : V} {ss : List SetE} (h : Dp K H v (setsD ss)) : ∃ p xs, v = .ref p ∧ SqT K H p xs ∧ DpAll K H xs (ss.map SetE.d) := dp_tup h
section
variable {P : Program} {w : World} {K : PySem.W.Frag} {mg : Str → Option Value}
theorem ok_law_parts [c : Facts K mg] (G__law_part : Fn P w K mg "_law_part" 5 ["e", "parts"] ((spPart K 4))) : Fn P w K mg "_law_parts" 6 ["sets"] ((spLP K)) := by
  obtain ⟨fd, F⟩ := c.d_law_parts
  refine Fn.mk' F c.g_law_parts sc_law_parts (k := 5) (fun vs H Q E h => ?_) (fun _ _ _ _ _ _ us hl => match us, hl with | [_], _ => rfl) (fun base cdv A outer s H vs Q E hr h => ?_)
  · exact len_law_parts h
  · have nd := sc_law_parts.nd
    have hu := hu_of hr
    have hr__law_part : Room 5 _ := hr.mono (by omega)
    refine ⟨_, (pss_cons (ps_set (i := 1) nd rfl (Or.inl rfl) (pe_lst pa_nil))
      (pss_cons (ps_set (i := 2) nd rfl (Or.inl rfl) (pe_lst pa_nil))
      (pss_cons (ps_for PassesOwn.never rfl (pi_tup (pv 0)) (pg_name (i := 3) nd rfl (Or.inl rfl)) (pss_one (ps_if (pt_cmpR (op_eqA (K := K) rfl hr.units) (pe_ix (ix_any (K := K) rfl) (pv 3) pe_int (fun _ _ => rfl)) pe_str (nomark _)) (pss_cons (ps_set (i := 4) nd rfl (Or.inl rfl) (pe_fn G__law_part hr__law_part (by rfl) (pa_cons (pe_ix (ix_any (K := K) rfl) (pv 3) pe_int (fun _ _ => rfl)) (pa_cons (pv 1) pa_nil))))
      (pss_one (ps_expr (pe_bm PySem.F.plainAttrs_list PySem.F.slot_list_append PySem.F.type_list_append mt_append (pv 2) (pa_cons (pe_tup (pa_cons (pv 4) (pa_cons (pe_fn G__law_part hr__law_part (by rfl) (pa_cons (pe_ix (ix_any (K := K) rfl) (pv 3) pe_int (fun _ _ => rfl)) (pa_cons (pv 1) pa_nil))) pa_nil))) pa_nil))))) (pss_one (ps_expr (pe_bm PySem.F.plainAttrs_list PySem.F.slot_list_append PySem.F.type_list_append mt_append (pv 2) (pa_cons (pe_tup (pa_cons (pe_fn G__law_part hr__law_part (by rfl) (pa_cons (pe_ix (ix_any (K := K) rfl) (pv 3) pe_int (fun _ _ => rfl)) (pa_cons (pv 1) pa_nil))) pa_nil)) pa_nil)))))))
      (pss_one (ps_ret (pe_tup (pa_cons (pv 1) (pa_cons (pv 2) pa_nil)))))))), ?_⟩
    try dsimp only [cxOf, Cx.nox, Cx.wish]
    obtain ⟨v, ss, rfl, hv, hl, ho, q⟩ := h
    obtain ⟨a, xs, rfl, ha, hxs⟩ := set_d' hv
    have hxl : xs.length = ss.length := by rw [dpa_len hxs, List.length_map]
    repeat walk_at "w"
    refine w_new fun l H2 nl0 s02 fl => ?_
    repeat walk_at "w"
    refine w_new fun r H3 n3 s3 f3 => ?_
    have s03 : Same H H3 := s02.trans s3
    have nr0 : H r = none := s02.free n3
    have nrl : r ≠ l := fun z => by rw [z, fl] at n3; cases n3
    repeat walk_at "w"
    refine fl_tup xs (fun i σ H' => ∃ o f, σ = [some (.ref a), some (.ref l), some (.ref r), o, f] ∧ PL K H' l (proots (ss.take i) []).2 ∧ PL K H' r (proots (ss.take i) []).1 ∧ Same H H') (s03.sqT ha)
      ⟨_, _, rfl, (PL.new fl).same s3, PL.new f3, s03⟩ (fun i σ H' hi hp => ?_) (fun i x σ H' hi hp => ?_) (fun σ H' hp => ?_)
    · obtain ⟨o, f, rfl, _, _, sm⟩ := hp
      exact sm.sqT ha
    · obtain ⟨o, f, rfl, hP, hR, sm⟩ := hp
      have hi' : i < ss.length := by have := (List.getElem?_eq_some_iff.mp hi).1; omega
      obtain ⟨s, hs⟩ : ∃ s, ss[i]? = some s := ⟨_, List.getElem?_eq_getElem hi'⟩
      have os := ho s (List.mem_of_getElem? hs)
      have hx : Dp K H' x s.d := by
        obtain ⟨d, hd1, hd2⟩ := dpa_at' (dpAll_ts (TS.of sm) _ _ (setsD_tup ss) hxs) hi
        rw [List.getElem?_map, hs] at hd1
        cases Option.some.inj hd1
        exact hd2
      obtain ⟨ys, hy, hyd, hyr⟩ := id hR
      have ln := proots_len (ss.take i) [] (fun x hx => ho x (List.mem_of_mem_take hx))
      have lt : (ss.take i).length ≤ 4 := by rw [List.length_take]; omega
      have hyl : ys.length ≤ 4 := by rw [hR.len hy, ln.2]; exact lt
      have lp : (proots (ss.take i) []).2.length ≤ 120 := by have := ln.1; rw [List.length_nil] at this; omega
      rw [take_snoc hs, proots_snoc]
      cases s with
      | cell e1 e2 =>
        have c1 := cnt4 os.1 (Nat.le_refl 4)
        have c2 := cnt4 os.2 (Nat.le_refl 4)
        have i1 := e1.part_ok os.1.2 hP.choose_spec.2.2
        have i2 := e2.part_ok os.2.2 i1.2
        obtain ⟨p, u, u2, rfl, hp, hu', hu2⟩ := exp_2 hx
        repeat walk_at "wf"
        refine ⟨u, l, e1, _, rfl, hu', os.1, hP, by omega, fun v1 H4 hv1 hP4 e4 => ?_⟩
        have t4 := hP.tsB e4
        have hp4 := t4.sqT hp
        have hR4 := hR.but hP nrl e4
        have hy4 := e4 _ _ nrl hy
        repeat walk_at "w"
        refine ⟨u2, l, e2, _, rfl, dp_ts t4 _ _ e2.tup hu2, os.2, hP4, by rw [e1.part_len]; omega, fun v2 H5 hv2 hP5 e5 => ?_⟩
        have t5 := hP4.tsB e5
        have hR5 := hR4.but hP4 nrl e5
        have hy5 := e5 _ _ nrl hy4
        repeat walk_at "w"
        refine w_new fun t6 H6 n6 s6 f6 => ?_
        repeat walk_at "w"
        refine w_chg fun H7 e7 f7 => ?_
        repeat walk_at "w"
        have rw5 : Row (.tuple (J.parts (SetE.cell e1 e2).rests (proots (ss.take i) []).2).1) := ⟨_, rfl, fun x hx => by
          simp only [SetE.rests, J.parts, List.mem_cons, List.mem_nil_iff, or_false] at hx
          rcases hx with rfl | rfl
          · exact i1.1
          · exact i2.1⟩
        have z := PL.snoc (hR5.same s6) (s6 _ _ hy5) e7 f7 (.tup (SqT.of f6) (.cons (i1.1.ts (t5.trans (TS.of s6)) hv1) (.cons (i2.1.ts (TS.of s6) hv2) .nil))) rw5
        exact ⟨_, _, rfl, (hP5.same s6).but (hR5.same s6) nrl.symm e7, z.1, But.new ((But.new sm nl0 (e4.trans e5)).trans s6) nr0 e7⟩
      | sel m k j e1 =>
        have nc : (if m then ("mark" : Str) else "place") ≠ "cell" := by cases m <;> decide +kernel
        have c1 := cnt4 os.2 (Nat.le_refl 4)
        have i1 := e1.part_ok os.2.2 hP.choose_spec.2.2
        obtain ⟨p, u, u2, rfl, hp, hu', hu2⟩ := exp_2 hx
        repeat walk_at "wf"
        refine ⟨u2, l, e1, _, rfl, hu2, os.2, hP, by omega, fun v1 H4 hv1 hP4 e4 => ?_⟩
        have t4 := hP.tsB e4
        have hR4 := hR.but hP nrl e4
        have hy4 := e4 _ _ nrl hy
        repeat walk_at "w"
        refine w_new fun t6 H6 n6 s6 f6 => ?_
        repeat walk_at "w"
        refine w_chg fun H7 e7 f7 => ?_
        repeat walk_at "w"
        have rw5 : Row (.tuple (J.parts (SetE.sel m k j e1).rests (proots (ss.take i) []).2).1) := ⟨_, rfl, fun x hx => by
          simp only [SetE.rests, J.parts, List.mem_cons, List.mem_nil_iff, or_false] at hx
          rw [hx]; exact i1.1⟩
        have z := PL.snoc (hR4.same s6) (s6 _ _ hy4) e7 f7 (.tup (SqT.of f6) (.cons (i1.1.ts (TS.of s6) hv1) .nil)) rw5
        exact ⟨_, _, rfl, (hP4.same s6).but (hR4.same s6) nrl.symm e7, z.1, But.new ((But.new sm nl0 e4).trans s6) nr0 e7⟩
    · obtain ⟨o, f, rfl, hP, hR, sm⟩ := hp
      rw [hxl, List.take_length] at hP hR
      repeat walk_at "w"
      refine w_new fun t H4 n4 s4 f4 => ?_
      exact q t l r H4 f4 (hP.same s4) (hR.same s4) nl0 nr0 (sm.trans s4) nrl.symm
end

end J
namespace J
open PySem PySem.Spec PyProof.Rows L2
local macro_rules | `(tactic| walk_at "cls") => `(tactic| first
  | with_reducible exact Facts.cl_Step
  | with_reducible exact Facts.cl_Get
  | with_reducible exact Facts.cl_Ask
  | with_reducible exact Facts.cl_Cell
  | with_reducible exact Facts.cl_Two
  | with_reducible exact Facts.cl_Put
  | with_reducible exact Facts.cl_Tell
  | with_reducible exact Facts.cl_Store
  | with_reducible exact Facts.cl_Parts
  | with_reducible exact Facts.cl_Order)
local macro_rules | `(tactic| walk_at "na") => `(tactic| first
  | with_reducible exact Facts.na_Get_to
  | with_reducible exact Facts.na_Get_sel
  | with_reducible exact Facts.na_Ask_to
  | with_reducible exact Facts.na_Ask_sel
  | with_reducible exact Facts.na_Cell_to
  | with_reducible exact Facts.na_Cell_source
  | with_reducible exact Facts.na_Two_to
  | with_reducible exact Facts.na_Two_op
  | with_reducible exact Facts.na_Two_one
  | with_reducible exact Facts.na_Two_other
  | with_reducible exact Facts.na_Put_sel
  | with_reducible exact Facts.na_Put_source
  | with_reducible exact Facts.na_Tell_sel
  | with_reducible exact Facts.na_Tell_source
  | with_reducible exact Facts.na_Store_at
  | with_reducible exact Facts.na_Store_source
  | with_reducible exact Facts.na_Parts_rows
  | with_reducible exact Facts.na_Order_parts
  | with_reducible exact Facts.na_Order_order
  | with_reducible exact Facts.na_Order_needed)
local macro_rules | `(tactic| walk_at "ty") => `(tactic| first
  | with_reducible exact ty_int
  | with_reducible exact ty_bl
  | with_reducible exact ty_str
  | with_reducible exact ty_non
  | ((with_reducible refine' ty_lst ?vv); (case vv => walk_at "tr"))
  | ((with_reducible refine' ty_sqT ?vv); (case vv => walk_at "tr"))
  | ((with_reducible refine' ty_dic ?vv); (case vv => walk_at "tr")))
local macro_rules | `(tactic| walk_at "ix") => `(tactic| first | exact at0 | exact at1 | exact at2 | assumption)
local macro_rules | `(tactic| walk_at "size") => `(tactic| first
  | assumption
  | (show _ < sizeLine; rw [sizeLine_eq]; (try simp only [List.length_cons, List.length_nil, List.length_append, List.length_map]); omega)
  | (show _ ≤ sizeLine; rw [sizeLine_eq]; (try simp only [List.length_cons, List.length_nil, List.length_append, List.length_map]); omega))
local macro_rules | `(tactic| walk_at "side") => `(tactic| first
  | assumption
  | ((with_reducible refine cdw ?_ ?_) <;> omega)
  | omega
  | (exact ⟨by omega, by omega⟩)
  | (exact Or.inl ⟨by omega, by omega⟩)
  | (exact Or.inr ⟨by omega, by omega⟩)
  | decide
  | (simp only [List.length_cons, List.length_nil, List.length_append, List.length_map]; omega)
  | (show _ ≤ _; decide))
local macro_rules | `(tactic| walk_at "as") => `(tactic| with_reducible assumption)
local macro_rules | `(tactic| walk_at "tr") => `(tactic| first
  | with_reducible assumption
  | with_reducible exact upd_same
  | ((with_reducible refine' SqL.of ?hh); (case hh => walk_at "as"))
  | ((with_reducible refine' SqT.of ?hh); (case hh => walk_at "as"))
  | ((with_reducible refine' Same.stm ?ee ?gg); (case ee => walk_at "as"); (case gg => walk_at "tr"))
  | ((with_reducible refine' Same.sqT ?ee ?gg); (case ee => walk_at "as"); (case gg => walk_at "tr"))
  | ((with_reducible refine' Same.sqL ?ee ?gg); (case ee => walk_at "as"); (case gg => walk_at "tr"))
  | ((with_reducible refine' Same.at ?ee ?gg); (case ee => walk_at "as"); (case gg => walk_at "tr"))
  | ((with_reducible refine' But.stm ?ee ?ff ?gg); (case ee => walk_at "as"); (case ff => walk_at "ne"); (case gg => walk_at "tr"))
  | ((with_reducible refine' But.tup ?ee ?ff ?gg); (case ee => walk_at "as"); (case ff => walk_at "tr1"); (case gg => walk_at "tr"))
  | ((with_reducible refine' But.sqT ?ee ?ff ?gg); (case ee => walk_at "as"); (case ff => walk_at "tr1"); (case gg => walk_at "tr"))
  | ((with_reducible refine' But.tupL ?ee ?ff ?gg); (case ee => walk_at "as"); (case ff => walk_at "tr1"); (case gg => walk_at "tr"))
  | ((with_reducible refine' But.sqTL ?ee ?ff ?gg); (case ee => walk_at "as"); (case ff => walk_at "tr1"); (case gg => walk_at "tr"))
  | ((with_reducible refine' But.sqL ?ee ?ff ?gg); (case ee => walk_at "as"); (case ff => walk_at "ne"); (case gg => walk_at "tr"))
  | ((with_reducible refine' But.at ?ee ?ff ?gg); (case ee => walk_at "as"); (case ff => walk_at "ne"); (case gg => walk_at "tr")))
local macro_rules | `(tactic| walk_at "ts") => `(tactic| first
  | with_reducible assumption
  | with_reducible exact TS.refl _
  | ((with_reducible refine' TS.trans ?gg (TS.of ?ee)); (case ee => walk_at "as"); (case gg => walk_at "ts"))
  | ((with_reducible refine' TS.trans ?gg (TS.butS ?ee ?ff)); (case ee => walk_at "as"); (case ff => walk_at "tr1"); (case gg => walk_at "ts"))
  | ((with_reducible refine' TS.trans ?gg (TS.butL ?ee ?ff)); (case ee => walk_at "as"); (case ff => walk_at "tr1"); (case gg => walk_at "ts"))
  | ((with_reducible refine' TS.trans ?gg (TS.butI ?ee ?ff)); (case ee => walk_at "as"); (case ff => walk_at "tr1"); (case gg => walk_at "ts")))
local macro_rules | `(tactic| walk_at "sm") => `(tactic| first
  | with_reducible assumption
  | with_reducible exact Same.refl _
  | ((with_reducible refine' Same.trans ?gg ?ee); (case ee => walk_at "as"); (case gg => walk_at "sm"))
  | ((with_reducible refine' But.new ?gg ?nn ?ee); (case ee => walk_at "as"); (case nn => walk_at "fr"); (case gg => walk_at "sm")))
local macro_rules | `(tactic| walk_at "fr") => `(tactic| first
  | with_reducible assumption
  | ((with_reducible refine' Same.back ?ee ?nn); (case nn => walk_at "as"); (case ee => walk_at "sm"))
  | ((with_reducible refine' But.back ?ee ?ff ?nn); (case nn => walk_at "as"); (case ff => walk_at "ne0"); (case ee => walk_at "bu")))
local macro_rules | `(tactic| walk_at "bu") => `(tactic| first
  | with_reducible assumption
  | with_reducible exact But.refl _ _
  | ((with_reducible refine' But.trans ?gg ?ee); (case ee => walk_at "as"); (case gg => walk_at "bu"))
  | ((with_reducible refine' But.trans ?gg (But.of ?ee)); (case ee => walk_at "as"); (case gg => walk_at "bu"))
  | ((with_reducible refine' But.new2 ?gg ?nn ?ee); (case ee => walk_at "as"); (case nn => walk_at "frB"); (case gg => walk_at "bu")))
local macro_rules | `(tactic| walk_at "frB") => `(tactic| first
  | with_reducible assumption
  | ((with_reducible refine' Same.back ?ee ?nn); (case nn => walk_at "as"); (case ee => walk_at "sm"))
  | ((with_reducible refine' But.back' ?ee ?ff ?nn); (case nn => walk_at "as"); (case ee => walk_at "bu"); (case ff => walk_at "tr1")))
local macro_rules | `(tactic| walk_at "tr1") => `(tactic| first
  | with_reducible assumption
  | ((with_reducible refine' Same.stm ?ee ?gg); (case ee => walk_at "as"); (case gg => walk_at "tr1"))
  | ((with_reducible refine' Same.at ?ee ?gg); (case ee => walk_at "as"); (case gg => walk_at "tr1"))
  | ((with_reducible refine' But.at ?ee ?ff ?gg); (case ee => walk_at "as"); (case ff => walk_at "ne0"); (case gg => walk_at "tr1"))
  | ((with_reducible refine' But.stm ?ee ?ff ?gg); (case ee => walk_at "as"); (case ff => walk_at "ne0"); (case gg => walk_at "tr1")))
local macro_rules | `(tactic| walk_at "ne0") => `(tactic| first
  | with_reducible assumption
  | (with_reducible apply Ne.symm; with_reducible assumption))
local macro_rules | `(tactic| walk_at "ne") => `(tactic| first
  | with_reducible assumption
  | (with_reducible apply Ne.symm; with_reducible assumption)
  | ((with_reducible refine' stm_ne ?hh ?nn); (case nn => walk_at "as"); (case hh => walk_at "tr1"))
  | ((with_reducible refine' ne_of_none ?hh ?nn); (case nn => walk_at "as"); (case hh => walk_at "tr1"))
  | ((with_reducible apply Ne.symm); (with_reducible refine' ne_of_none ?hh ?nn); (case nn => walk_at "as"); (case hh => walk_at "tr1")))
local macro_rules | `(tactic| walk_at "v") => `(tactic| first
  | with_reducible refine w_seq ?_
  | ((with_reducible refine' w_var ?vv ?_); (case vv => exact rfl))
  | with_reducible refine w_c ?_
  | with_reducible refine w_op ?_
  | with_reducible refine w_asg ?_
  | with_reducible refine w_gName ?_
  | with_reducible refine w_ret ?_
  | with_reducible refine w_ifS ?_
  | with_reducible refine w_drop ?_
  | with_reducible refine w_next ?_
  | with_reducible refine w_cons ?_
  | with_reducible refine w_nil ?_
  | with_reducible refine w_call ?_
  | with_reducible refine w_cb ?_
  | with_reducible refine w_rI0 ?_
  | with_reducible refine w_addI ?_
  | with_reducible refine w_eqI ?_
  | with_reducible refine w_neI ?_
  | with_reducible refine w_eqS ?_
  | with_reducible refine w_neS ?_
  | with_reducible refine w_eqB ?_
  | with_reducible refine w_neB ?_
  | with_reducible refine w_chain ?_
  | with_reducible refine w_test ?_
  | with_reducible refine w_tB ?_
  | with_reducible refine w_bl ?_
  | ((with_reducible refine' w_mulI ?vv ?_); (case vv => walk_at "side"))
  | ((with_reducible refine' w_rI ?vv ?_); (case vv => walk_at "side"))
  | with_reducible refine w_int1 ?_
  | with_reducible refine w_int1b ?_
  | with_reducible refine w_tup ?_
  | with_reducible refine w_lst ?_
  | with_reducible refine w_un ?_
  | with_reducible refine w_rU ?_
  | with_reducible refine w_not ?_
  | with_reducible refine w_notV ?_
  | with_reducible refine w_ifE ?_
  | with_reducible refine w_nT ?_
  | with_reducible refine w_nF ?_
  | with_reducible refine iteT ?_
  | with_reducible refine iteF ?_
  | ((with_reducible refine' w_ixT ?vv ?ww ?_); (case vv => walk_at "tr"); (case ww => walk_at "ix"))
  | ((with_reducible refine' w_ixL ?vv ?ww ?_); (case vv => walk_at "tr"); (case ww => walk_at "ix"))
  | with_reducible refine w_gSub ?_
  | ((with_reducible refine' w_setL ?vv ?ww ?_); (case vv => walk_at "tr"); (case ww => first | rfl | decide | assumption))
  | ((with_reducible refine' w_lenL ?vv ?_); (case vv => walk_at "tr"))
  | ((with_reducible refine' w_lenT ?vv ?_); (case vv => walk_at "tr"))
  | with_reducible refine w_max2 ?_
  | with_reducible refine w_max3 ?_
  | with_reducible refine w_din ?_
  | with_reducible refine w_dnotin ?_
  | with_reducible refine w_dput ?_
  | with_reducible refine w_min2 ?_
  | with_reducible refine w_bm ?_
  | with_reducible refine w_bm0 ?_
  | ((with_reducible refine' w_tyL ?vv ?_); (case vv => walk_at "tr"))
  | ((with_reducible refine' w_append ?vv ?ww ?_); (case vv => walk_at "tr"); (case ww => walk_at "size"))
  | ((with_reducible refine' w_size ?vv ?_); (case vv => walk_at "size"))
  | with_reducible refine w_forL ?_
  | with_reducible refine w_forT ?_
  | with_reducible refine w_forR1 ?_
  | with_reducible refine w_forR2 ?_
  | with_reducible refine w_lcL ?_
  | with_reducible refine w_lcT ?_
  | with_reducible refine w_lcR1 ?_
  | with_reducible refine w_yes ?_
  | with_reducible refine w_sl ?_
  | with_reducible refine w_noPart ?_
  | with_reducible refine w_part ?_
  | with_reducible refine w_int ?_
  | ((with_reducible refine' w_slL ?vv ?_); (case vv => walk_at "tr"))
  | ((with_reducible refine' w_seqL ?vv ?ww ?_); (case vv => walk_at "tr"); (case ww => rfl))
  | ((with_reducible refine' w_seqT ?vv ?ww ?_); (case vv => walk_at "tr"); (case ww => rfl))
  | with_reducible refine w_gNil ?_
  | with_reducible refine w_gCons ?_
  | with_reducible refine w_forZ ?_
  | with_reducible refine w_forM ?_
  | with_reducible refine w_forE ?_
  | with_reducible refine w_forV ?_
  | with_reducible refine w_lcZ ?_
  | with_reducible refine w_lcE ?_
  | ((with_reducible refine' w_isi (b := true) ?vv ?ww ?_); (case vv => walk_at "ty"); (case ww => decide +kernel))
  | ((with_reducible refine' w_isi (b := false) ?vv ?ww ?_); (case vv => walk_at "ty"); (case ww => decide +kernel))
  | with_reducible refine w_revL ?_
  | with_reducible refine w_pairN ?_
  | with_reducible refine w_pairC ?_
  | with_reducible refine w_dget ?_
  | with_reducible refine w_met ?_
  | ((with_reducible refine' w_metAt ?vv ?ww ?_); (case vv => walk_at "tr"); (case ww => rfl))
  | with_reducible refine w_mkI ?_
  | with_reducible refine w_fld ?_
  | ((with_reducible refine' w_fldAt ?vv ?cc ?nn ?ww ?_); (case vv => walk_at "tr"); (case cc => walk_at "cls"); (case nn => walk_at "na"); (case ww => rfl))
  | with_reducible refine w_sfld ?_
  | ((with_reducible refine' w_sfldAt ?vv ?cc ?nn ?ll ?ee ?_); (case vv => walk_at "tr"); (case cc => walk_at "cls"); (case nn => walk_at "na"); (case ll => simp); (case ee => rfl))
  | ((with_reducible refine' w_tupL ?vv ?_); (case vv => walk_at "tr"))
  | ((with_reducible refine' w_tupT ?vv ?_); (case vv => walk_at "tr"))
  | ((with_reducible refine' w_listL ?vv ?_); (case vv => walk_at "tr"))
  | ((with_reducible refine' w_listT ?vv ?_); (case vv => walk_at "tr"))
  | with_reducible refine w_tyS ?_
  | with_reducible refine w_retN ?_
  | with_reducible refine w_break ?_
  | with_reducible refine w_cont ?_)
local macro_rules | `(tactic| walk_at "w") => `(tactic| first
  | walk_at "v"
  | with_reducible refine w_or ?_
  | with_reducible refine w_and ?_
  | with_reducible refine w_andV ?_
  | with_reducible refine w_orV ?_)
local macro_rules | `(tactic| walk_at "wd") => `(tactic| first
  | walk_at "w"
  | ((with_reducible refine' w_decT ?vv ?_); (case vv => decide +kernel))
  | ((with_reducible refine' w_decF ?vv ?_); (case vv => decide +kernel)))
local macro_rules | `(tactic| walk_at "tz") => `(tactic| (intro S z; (repeat walk_at "w"); exact z))
local macro_rules | `(tactic| walk_at "wf") => `(tactic| first
  | walk_at "wd"
  | ((with_reducible refine' w_decF ?vv ?_); (case vv => with_reducible assumption)))
/-! ### own parts, orders, needs: the program's -/
def PRow (d : PyData) : Prop := ∃ s items, d = .tuple (.str s :: items) ∧ PyData.strOk s = true ∧ (∀ x ∈ items, Item x) ∧ 1 ≤ items.length ∧ items.length ≤ 2 ∧ ((s = "get" ∨ s = "ask") → intsD items = [])
theorem PRow.own {s : Str} {items : List PyData} : ownD (.tuple (.str s :: items)) = intsD items := rfl
theorem opS_no {o : Str} (h : OpS o) : ¬ (o = "get" ∨ o = "ask") := by
  rcases h with rfl | rfl | rfl | rfl | rfl | rfl | rfl | rfl | rfl <;> decide +kernel
theorem Exp.part_prow : ∀ (e : Exp) {ps : List PyData}, e.good → Rows ps → (∀ d ∈ ps, PRow d) → ∀ d ∈ (e.part ps).2, PRow d
  | .num _, _, _, _, h => h
  | .fld _, _, _, _, h => h
  | .plc k n, ps, g, _, h => fun d hd => by
    rcases List.mem_append.mp hd with q | q
    · exact h d q
    · rw [List.mem_singleton.mp q]
      exact ⟨"get", [selD k n], rfl, by decide +kernel, fun x hx => by rw [List.mem_singleton.mp hx]; exact .pair g.ok n, by simp, by simp, fun _ => rfl⟩
  | .mrk k n, ps, g, _, h => fun d hd => by
    rcases List.mem_append.mp hd with q | q
    · exact h d q
    · rw [List.mem_singleton.mp q]
      exact ⟨"ask", [selD k n], rfl, by decide +kernel, fun x hx => by rw [List.mem_singleton.mp hx]; exact .pair g.ok n, by simp, by simp, fun _ => rfl⟩
  | .cell a, ps, g, r, h => fun d hd => by
    have ih := Exp.part_prow a (ps := ps) g r h
    rcases List.mem_append.mp hd with q | q
    · exact ih d q
    · rw [List.mem_singleton.mp q]
      exact ⟨"cell", _, rfl, by decide +kernel, fun x hx => by rw [List.mem_singleton.mp hx]; exact (a.part_ok g r).1, by simp, by simp, fun z => absurd z (by decide +kernel)⟩
  | .two o a b, ps, g, r, h => fun d hd => by
    have r1 := (a.part_ok g.2.1 r)
    have r2 := (b.part_ok g.2.2 r1.2)
    have ih := Exp.part_prow b (ps := (a.part ps).2) g.2.2 r1.2 (Exp.part_prow a g.2.1 r h)
    rcases List.mem_append.mp hd with q | q
    · exact ih d q
    · rw [List.mem_singleton.mp q]
      exact ⟨o, _, rfl, g.1.ok, fun x hx => by
        simp only [List.mem_cons, List.mem_nil_iff, or_false] at hx
        rcases hx with rfl | rfl
        · exact r1.1
        · exact r2.1, by simp, by simp, fun z => (opS_no g.1 z).elim⟩
theorem parts_prow : ∀ (es : List Exp) {ps : List PyData}, (∀ e ∈ es, e.good) → Rows ps → (∀ d ∈ ps, PRow d) → ∀ d ∈ (parts es ps).2, PRow d
  | [], _, _, _, h => h
  | e :: es, ps, g, r, h => by
    have ge := g e List.mem_cons_self
    exact parts_prow es (ps := (e.part ps).2) (fun x hx => g x (List.mem_cons_of_mem _ hx)) (e.part_ok ge r).2 (e.part_prow ge r h)
theorem proots_prow : ∀ (ss : List SetE) {n : Nat} {ps : List PyData}, (∀ s ∈ ss, OkS n s) → Rows ps → (∀ d ∈ ps, PRow d) → ∀ d ∈ (proots ss ps).2, PRow d
  | [], _, _, _, _, h => h
  | s :: ss, n, ps, g, r, h => by
    have gs : ∀ e ∈ s.rests, e.good := fun e he => (okS_rests (g s List.mem_cons_self) e he).2
    exact proots_prow ss (ps := (parts s.rests ps).2) (fun x hx => g x (List.mem_cons_of_mem _ hx)) (parts_ok s.rests gs r).2 (parts_prow s.rests gs r h)
def spOwnP (K : PySem.W.Frag) : Sp := fun vs H Q _ => ∃ v d, vs = [v] ∧ Dp K H v d ∧ PRow d ∧ ∀ p H', H' p = some (.lst ((ownD d).map V.int)) → Same H H' → H p = none → Q (.ref p) H'
theorem len_own_parts {K : PySem.W.Frag} {vs H Q E} (h : spOwnP K vs H Q E) : vs.length = 1 := by obtain ⟨_, _, rfl, _⟩ := h; rfl
theorem len_law_own {K : PySem.W.Frag} {vs H Q E} (h : spOwnP K vs H Q E) : vs.length = 1 := by obtain ⟨_, _, rfl, _⟩ := h; rfl
theorem intsD_snoc (xs : List PyData) (d : PyData) : intsD (xs ++ [d]) = intsD xs ++ (intD d).toList := by
  unfold intsD
  rw [List.filterMap_append]
  cases h : intD d <;> simp [h]
/-- [one for one in part[1:] if isinstance(one, int)] -/
theorem lc_own {K : PySem.W.Frag} {σ : L2.St} {H : Hp} {Q : VK} {te : TE} {tt : TT} {j : Nat} {p : Addr} {us : List V} {items : List PyData} (ht : SqT K H p us) (hus : DpAll K H us items) (hi : ∀ x ∈ items, Item x) (hl : items.length ≤ 2)
    (hs : ∀ (v : V) (d : PyData) H' (R : Bool → Hp → Prop), Item d → Dp K H' v d → R (intD d).isSome H' → tt ((wipe σ [j]).set j (some v)) H' R)
    (he : ∀ (v : V) H' (R : VK), R v H' → te ((wipe σ [j]).set j (some v)) H' R)
    (q : ∀ D H', H' D = some (.lst ((intsD items).map V.int)) → Same H H' → H D = none → Q (.ref D) H') :
    ∃ b, V.ref p = .ref b ∧ (∃ xs, SqT K H b xs) ∧ ∀ D, H D = none → WLc (Itt K b) (gName j) tt te [j] σ D H Q := by
  have hul : us.length = items.length := dpa_len hus
  refine lc_T us (fun D i ys H' => Same H H' ∧ ys = (intsD (items.take i)).map V.int) ht (fun D H' hD e f => ⟨e, rfl⟩) (fun D hD i ys H' hi hy hp => hp.1.sqT ht) (fun D hD i x ys H' hx hl2 hy hp => ?_) (fun D hD ys H' hl2 hy hp => ?_)
  · obtain ⟨e, rfl⟩ := hp
    obtain ⟨d, hd, hdp⟩ := dpa_at' hus hx
    have it := hi d (List.mem_of_getElem? hd)
    have hi2 : i < items.length := (List.getElem?_eq_some_iff.mp hd).1
    refine hs x d H' _ it (it.ts (TS.of e) hdp) ?_
    have tk := intsD_snoc (items.take i) d
    rw [← take_snoc hd] at tk
    refine ite2 (fun h => ?_) (fun h => ?_)
    · refine he x H' _ ?_
      refine lc_end hy hl2 (by rw [sizeLine_eq]; omega) fun H'' e2 f2 => ⟨But.new e hD e2, ?_⟩
      cases it with
      | int n => cases dp_int hdp; rw [tk, List.map_append]; rfl
      | str _ => cases h
      | pair _ _ => cases h
    · refine lc_skip hy hl2 ⟨e, ?_⟩
      cases it with
      | int n => exact (h rfl).elim
      | str _ => rw [tk, show intD (.str _) = none from rfl]; simp
      | pair _ _ => rw [tk, show intD (.tuple _) = none from rfl]; simp
  · obtain ⟨e, rfl⟩ := hp
    rw [hul, List.take_length] at hy
    exact q D H' hy e hD
section
variable {P : Program} {w : World} {K : PySem.W.Frag} {mg : Str → Option Value}
theorem ok_own_parts [c : Facts K mg] : Fn P w K mg "own_parts" 1 ["part"] ((spOwnP K)) := by
  obtain ⟨fd, F⟩ := c.d_own_parts
  refine Fn.mk' F c.g_own_parts sc_own_parts (k := 0) (fun vs H Q E h => ?_) (fun _ _ _ _ _ _ us hl => match us, hl with | [_], _ => rfl) (fun base cdv A outer s H vs Q E hr h => ?_)
  · exact len_own_parts h
  · have nd := sc_own_parts.nd
    have hu := hu_of hr
    refine ⟨_, (pss_cons (ps_if (PW.pt (pw_or (pt_cmpR (op_eqA (K := K) rfl hr.units) (pe_ix (ix_any (K := K) rfl) (pv 0) pe_int (fun _ _ => rfl)) pe_str (nomark _)) (pw_or1 (pt_cmpR (op_eqA (K := K) rfl hr.units) (pe_ix (ix_any (K := K) rfl) (pv 0) pe_int (fun _ _ => rfl)) pe_str (nomark _))))) (pss_one (ps_ret (pe_lst pa_nil))) pss_nil)
      (pss_one (ps_ret (pe_lc (own := [("one", 1)]) rfl nd (pi_tup (pe_slice (sl_any (K := K) rfl) (pv 0) (po_some pe_int) po_none)) (blkOk_by (N := N_own_parts) (sc := defScope s_own_parts) (by decide +kernel)) (fun _ _ _ _ _ => (pg_name (i := 1) nd rfl (Or.inl rfl))) (fun _ _ _ _ _ => pts_one (pt_val (pe_callB (call_isiA (K := K) rfl) (by rfl) c.f_isinstance boot_isinstance (pa_cons (pv 1) (pa_cons (pe_bltn (v := .ty "int") (by rfl) c.f_int boot_int rfl) pa_nil))))) (fun _ _ _ _ _ => (pv 1)))))), ?_⟩
    try dsimp only [cxOf, Cx.nox, Cx.wish]
    obtain ⟨v, d, rfl, hv, ⟨s, items, rfl, so, hi, l1, l2, hg⟩, q⟩ := h
    obtain ⟨p, us, rfl, hp, hus⟩ := exp_n hv
    have hul : us.length = items.length := dpa_len hus
    have no : (s = "get" ∨ s = "ask") → intsD items = [] := hg
    have fin : (s = "get" ∨ s = "ask") → ∀ (R : Prop), (NewO (.lst []) H Q → R) → R := fun g R k => k (by
      refine fun a ha => q a _ ?_ (Same.one ha) ha
      rw [PRow.own, no g]; exact upd_same)
    repeat walk_at "w"
    refine ite2 (fun h1 => ?_) (fun h1 => ?_)
    · rw [decide_eq_true_eq] at h1
      repeat walk_at "w"
      exact fin (.inl h1) _ id
    · repeat walk_at "w"
      refine ite2 (fun h2 => ?_) (fun h2 => ?_)
      · rw [decide_eq_true_eq] at h2
        repeat walk_at "w"
        exact fin (.inr h2) _ id
      · repeat walk_at "w"
        refine w_slT1 (σ := []) hp ?_
        refine w_new fun p1 H1 n1 s1 f1 => ?_
        have hus1 := dpAll_ts (TS.of s1) _ _ (items_all hi).1 hus
        refine lc_own (SqT.of f1) hus1 hi l2 (fun v d H' R it hd k => ?_) (fun v H' R k => ?_) (fun D H' hD e nD => q D H' hD (s1.trans e) (s1.free nD))
        · repeat walk_at "w"
          cases it with
          | int n =>
            cases dp_int hd
            repeat walk_at "w"
            exact k
          | str _ =>
            cases dp_str hd
            repeat walk_at "w"
            exact k
          | pair _ _ =>
            obtain ⟨a, xs, rfl, ha, _⟩ := dp_tup hd
            repeat walk_at "w"
            exact k
        · repeat walk_at "w"
          exact k
end

end J
namespace J
open PySem PySem.Spec PyProof.Rows L2
local macro_rules | `(tactic| walk_at "cls") => `(tactic| first
  | with_reducible exact Facts.cl_Step
  | with_reducible exact Facts.cl_Get
  | with_reducible exact Facts.cl_Ask
  | with_reducible exact Facts.cl_Cell
  | with_reducible exact Facts.cl_Two
  | with_reducible exact Facts.cl_Put
  | with_reducible exact Facts.cl_Tell
  | with_reducible exact Facts.cl_Store
  | with_reducible exact Facts.cl_Parts
  | with_reducible exact Facts.cl_Order)
local macro_rules | `(tactic| walk_at "na") => `(tactic| first
  | with_reducible exact Facts.na_Get_to
  | with_reducible exact Facts.na_Get_sel
  | with_reducible exact Facts.na_Ask_to
  | with_reducible exact Facts.na_Ask_sel
  | with_reducible exact Facts.na_Cell_to
  | with_reducible exact Facts.na_Cell_source
  | with_reducible exact Facts.na_Two_to
  | with_reducible exact Facts.na_Two_op
  | with_reducible exact Facts.na_Two_one
  | with_reducible exact Facts.na_Two_other
  | with_reducible exact Facts.na_Put_sel
  | with_reducible exact Facts.na_Put_source
  | with_reducible exact Facts.na_Tell_sel
  | with_reducible exact Facts.na_Tell_source
  | with_reducible exact Facts.na_Store_at
  | with_reducible exact Facts.na_Store_source
  | with_reducible exact Facts.na_Parts_rows
  | with_reducible exact Facts.na_Order_parts
  | with_reducible exact Facts.na_Order_order
  | with_reducible exact Facts.na_Order_needed)
local macro_rules | `(tactic| walk_at "ty") => `(tactic| first
  | with_reducible exact ty_int
  | with_reducible exact ty_bl
  | with_reducible exact ty_str
  | with_reducible exact ty_non
  | ((with_reducible refine' ty_lst ?vv); (case vv => walk_at "tr"))
  | ((with_reducible refine' ty_sqT ?vv); (case vv => walk_at "tr"))
  | ((with_reducible refine' ty_dic ?vv); (case vv => walk_at "tr")))
local macro_rules | `(tactic| walk_at "ix") => `(tactic| first | exact at0 | exact at1 | exact at2 | assumption)
local macro_rules | `(tactic| walk_at "size") => `(tactic| first
  | assumption
  | (show _ < sizeLine; rw [sizeLine_eq]; (try simp only [List.length_cons, List.length_nil, List.length_append, List.length_map]); omega)
  | (show _ ≤ sizeLine; rw [sizeLine_eq]; (try simp only [List.length_cons, List.length_nil, List.length_append, List.length_map]); omega))
local macro_rules | `(tactic| walk_at "side") => `(tactic| first
  | assumption
  | ((with_reducible refine cdw ?_ ?_) <;> omega)
  | omega
  | (exact ⟨by omega, by omega⟩)
  | (exact Or.inl ⟨by omega, by omega⟩)
  | (exact Or.inr ⟨by omega, by omega⟩)
  | decide
  | (simp only [List.length_cons, List.length_nil, List.length_append, List.length_map]; omega)
  | (show _ ≤ _; decide))
local macro_rules | `(tactic| walk_at "as") => `(tactic| with_reducible assumption)
local macro_rules | `(tactic| walk_at "tr") => `(tactic| first
  | with_reducible assumption
  | with_reducible exact upd_same
  | ((with_reducible refine' SqL.of ?hh); (case hh => walk_at "as"))
  | ((with_reducible refine' SqT.of ?hh); (case hh => walk_at "as"))
  | ((with_reducible refine' Same.stm ?ee ?gg); (case ee => walk_at "as"); (case gg => walk_at "tr"))
  | ((with_reducible refine' Same.sqT ?ee ?gg); (case ee => walk_at "as"); (case gg => walk_at "tr"))
  | ((with_reducible refine' Same.sqL ?ee ?gg); (case ee => walk_at "as"); (case gg => walk_at "tr"))
  | ((with_reducible refine' Same.at ?ee ?gg); (case ee => walk_at "as"); (case gg => walk_at "tr"))
  | ((with_reducible refine' But.stm ?ee ?ff ?gg); (case ee => walk_at "as"); (case ff => walk_at "ne"); (case gg => walk_at "tr"))
  | ((with_reducible refine' But.tup ?ee ?ff ?gg); (case ee => walk_at "as"); (case ff => walk_at "tr1"); (case gg => walk_at "tr"))
  | ((with_reducible refine' But.sqT ?ee ?ff ?gg); (case ee => walk_at "as"); (case ff => walk_at "tr1"); (case gg => walk_at "tr"))
  | ((with_reducible refine' But.tupL ?ee ?ff ?gg); (case ee => walk_at "as"); (case ff => walk_at "tr1"); (case gg => walk_at "tr"))
  | ((with_reducible refine' But.sqTL ?ee ?ff ?gg); (case ee => walk_at "as"); (case ff => walk_at "tr1"); (case gg => walk_at "tr"))
  | ((with_reducible refine' But.sqL ?ee ?ff ?gg); (case ee => walk_at "as"); (case ff => walk_at "ne"); (case gg => walk_at "tr"))
  | ((with_reducible refine' But.at ?ee ?ff ?gg); (case ee => walk_at "as"); (case ff => walk_at "ne"); (case gg => walk_at "tr")))
local macro_rules | `(tactic| walk_at "ts") => `(tactic| first
  | with_reducible assumption
  | with_reducible exact TS.refl _
  | ((with_reducible refine' TS.trans ?gg (TS.of ?ee)); (case ee => walk_at "as"); (case gg => walk_at "ts"))
  | ((with_reducible refine' TS.trans ?gg (TS.butS ?ee ?ff)); (case ee => walk_at "as"); (case ff => walk_at "tr1"); (case gg => walk_at "ts"))
  | ((with_reducible refine' TS.trans ?gg (TS.butL ?ee ?ff)); (case ee => walk_at "as"); (case ff => walk_at "tr1"); (case gg => walk_at "ts"))
  | ((with_reducible refine' TS.trans ?gg (TS.butI ?ee ?ff)); (case ee => walk_at "as"); (case ff => walk_at "tr1"); (case gg => walk_at "ts")))
local macro_rules | `(tactic| walk_at "sm") => `(tactic| first
  | with_reducible assumption
  | with_reducible exact Same.refl _
  | ((with_reducible refine' Same.trans ?gg ?ee); (case ee => walk_at "as"); (case gg => walk_at "sm"))
  | ((with_reducible refine' But.new ?gg ?nn ?ee); (case ee => walk_at "as"); (case nn => walk_at "fr"); (case gg => walk_at "sm")))
local macro_rules | `(tactic| walk_at "fr") => `(tactic| first
  | with_reducible assumption
  | ((with_reducible refine' Same.back ?ee ?nn); (case nn => walk_at "as"); (case ee => walk_at "sm"))
  | ((with_reducible refine' But.back ?ee ?ff ?nn); (case nn => walk_at "as"); (case ff => walk_at "ne0"); (case ee => walk_at "bu")))
local macro_rules | `(tactic| walk_at "bu") => `(tactic| first
  | with_reducible assumption
  | with_reducible exact But.refl _ _
  | ((with_reducible refine' But.trans ?gg ?ee); (case ee => walk_at "as"); (case gg => walk_at "bu"))
  | ((with_reducible refine' But.trans ?gg (But.of ?ee)); (case ee => walk_at "as"); (case gg => walk_at "bu"))
  | ((with_reducible refine' But.new2 ?gg ?nn ?ee); (case ee => walk_at "as"); (case nn => walk_at "frB"); (case gg => walk_at "bu")))
local macro_rules | `(tactic| walk_at "frB") => `(tactic| first
  | with_reducible assumption
  | ((with_reducible refine' Same.back ?ee ?nn); (case nn => walk_at "as"); (case ee => walk_at "sm"))
  | ((with_reducible refine' But.back' ?ee ?ff ?nn); (case nn => walk_at "as"); (case ee => walk_at "bu"); (case ff => walk_at "tr1")))
local macro_rules | `(tactic| walk_at "tr1") => `(tactic| first
  | with_reducible assumption
  | ((with_reducible refine' Same.stm ?ee ?gg); (case ee => walk_at "as"); (case gg => walk_at "tr1"))
  | ((with_reducible refine' Same.at ?ee ?gg); (case ee => walk_at "as"); (case gg => walk_at "tr1"))
  | ((with_reducible refine' But.at ?ee ?ff ?gg); (case ee => walk_at "as"); (case ff => walk_at "ne0"); (case gg => walk_at "tr1"))
  | ((with_reducible refine' But.stm ?ee ?ff ?gg); (case ee => walk_at "as"); (case ff => walk_at "ne0"); (case gg => walk_at "tr1")))
local macro_rules | `(tactic| walk_at "ne0") => `(tactic| first
  | with_reducible assumption
  | (with_reducible apply Ne.symm; with_reducible assumption))
local macro_rules | `(tactic| walk_at "ne") => `(tactic| first
  | with_reducible assumption
  | (with_reducible apply Ne.symm; with_reducible assumption)
  | ((with_reducible refine' stm_ne ?hh ?nn); (case nn => walk_at "as"); (case hh => walk_at "tr1"))
  | ((with_reducible refine' ne_of_none ?hh ?nn); (case nn => walk_at "as"); (case hh => walk_at "tr1"))
  | ((with_reducible apply Ne.symm); (with_reducible refine' ne_of_none ?hh ?nn); (case nn => walk_at "as"); (case hh => walk_at "tr1")))
local macro_rules | `(tactic| walk_at "v") => `(tactic| first
  | with_reducible refine w_seq ?_
  | ((with_reducible refine' w_var ?vv ?_); (case vv => exact rfl))
  | with_reducible refine w_c ?_
  | with_reducible refine w_op ?_
  | with_reducible refine w_asg ?_
  | with_reducible refine w_gName ?_
  | with_reducible refine w_ret ?_
  | with_reducible refine w_ifS ?_
  | with_reducible refine w_drop ?_
  | with_reducible refine w_next ?_
  | with_reducible refine w_cons ?_
  | with_reducible refine w_nil ?_
  | with_reducible refine w_call ?_
  | with_reducible refine w_cb ?_
  | with_reducible refine w_rI0 ?_
  | with_reducible refine w_addI ?_
  | with_reducible refine w_eqI ?_
  | with_reducible refine w_neI ?_
  | with_reducible refine w_eqS ?_
  | with_reducible refine w_neS ?_
  | with_reducible refine w_eqB ?_
  | with_reducible refine w_neB ?_
  | with_reducible refine w_chain ?_
  | with_reducible refine w_test ?_
  | with_reducible refine w_tB ?_
  | with_reducible refine w_bl ?_
  | ((with_reducible refine' w_mulI ?vv ?_); (case vv => walk_at "side"))
  | ((with_reducible refine' w_rI ?vv ?_); (case vv => walk_at "side"))
  | with_reducible refine w_int1 ?_
  | with_reducible refine w_int1b ?_
  | with_reducible refine w_tup ?_
  | with_reducible refine w_lst ?_
  | with_reducible refine w_un ?_
  | with_reducible refine w_rU ?_
  | with_reducible refine w_not ?_
  | with_reducible refine w_notV ?_
  | with_reducible refine w_ifE ?_
  | with_reducible refine w_nT ?_
  | with_reducible refine w_nF ?_
  | with_reducible refine iteT ?_
  | with_reducible refine iteF ?_
  | ((with_reducible refine' w_ixT ?vv ?ww ?_); (case vv => walk_at "tr"); (case ww => walk_at "ix"))
  | ((with_reducible refine' w_ixL ?vv ?ww ?_); (case vv => walk_at "tr"); (case ww => walk_at "ix"))
  | with_reducible refine w_gSub ?_
  | ((with_reducible refine' w_setL ?vv ?ww ?_); (case vv => walk_at "tr"); (case ww => first | rfl | decide | assumption))
  | ((with_reducible refine' w_lenL ?vv ?_); (case vv => walk_at "tr"))
  | ((with_reducible refine' w_lenT ?vv ?_); (case vv => walk_at "tr"))
  | with_reducible refine w_max2 ?_
  | with_reducible refine w_max3 ?_
  | with_reducible refine w_din ?_
  | with_reducible refine w_dnotin ?_
  | with_reducible refine w_dput ?_
  | with_reducible refine w_min2 ?_
  | with_reducible refine w_bm ?_
  | with_reducible refine w_bm0 ?_
  | ((with_reducible refine' w_tyL ?vv ?_); (case vv => walk_at "tr"))
  | ((with_reducible refine' w_append ?vv ?ww ?_); (case vv => walk_at "tr"); (case ww => walk_at "size"))
  | ((with_reducible refine' w_size ?vv ?_); (case vv => walk_at "size"))
  | with_reducible refine w_forL ?_
  | with_reducible refine w_forT ?_
  | with_reducible refine w_forR1 ?_
  | with_reducible refine w_forR2 ?_
  | with_reducible refine w_lcL ?_
  | with_reducible refine w_lcT ?_
  | with_reducible refine w_lcR1 ?_
  | with_reducible refine w_yes ?_
  | with_reducible refine w_sl ?_
  | with_reducible refine w_noPart ?_
  | with_reducible refine w_part ?_
  | with_reducible refine w_int ?_
  | ((with_reducible refine' w_slL ?vv ?_); (case vv => walk_at "tr"))
  | ((with_reducible refine' w_seqL ?vv ?ww ?_); (case vv => walk_at "tr"); (case ww => rfl))
  | ((with_reducible refine' w_seqT ?vv ?ww ?_); (case vv => walk_at "tr"); (case ww => rfl))
  | with_reducible refine w_gNil ?_
  | with_reducible refine w_gCons ?_
  | with_reducible refine w_forZ ?_
  | with_reducible refine w_forM ?_
  | with_reducible refine w_forE ?_
  | with_reducible refine w_forV ?_
  | with_reducible refine w_lcZ ?_
  | with_reducible refine w_lcE ?_
  | ((with_reducible refine' w_isi (b := true) ?vv ?ww ?_); (case vv => walk_at "ty"); (case ww => decide +kernel))
  | ((with_reducible refine' w_isi (b := false) ?vv ?ww ?_); (case vv => walk_at "ty"); (case ww => decide +kernel))
  | with_reducible refine w_revL ?_
  | with_reducible refine w_pairN ?_
  | with_reducible refine w_pairC ?_
  | with_reducible refine w_dget ?_
  | with_reducible refine w_met ?_
  | ((with_reducible refine' w_metAt ?vv ?ww ?_); (case vv => walk_at "tr"); (case ww => rfl))
  | with_reducible refine w_mkI ?_
  | with_reducible refine w_fld ?_
  | ((with_reducible refine' w_fldAt ?vv ?cc ?nn ?ww ?_); (case vv => walk_at "tr"); (case cc => walk_at "cls"); (case nn => walk_at "na"); (case ww => rfl))
  | with_reducible refine w_sfld ?_
  | ((with_reducible refine' w_sfldAt ?vv ?cc ?nn ?ll ?ee ?_); (case vv => walk_at "tr"); (case cc => walk_at "cls"); (case nn => walk_at "na"); (case ll => simp); (case ee => rfl))
  | ((with_reducible refine' w_tupL ?vv ?_); (case vv => walk_at "tr"))
  | ((with_reducible refine' w_tupT ?vv ?_); (case vv => walk_at "tr"))
  | ((with_reducible refine' w_listL ?vv ?_); (case vv => walk_at "tr"))
  | ((with_reducible refine' w_listT ?vv ?_); (case vv => walk_at "tr"))
  | with_reducible refine w_tyS ?_
  | with_reducible refine w_retN ?_
  | with_reducible refine w_break ?_
  | with_reducible refine w_cont ?_)
local macro_rules | `(tactic| walk_at "w") => `(tactic| first
  | walk_at "v"
  | with_reducible refine w_or ?_
  | with_reducible refine w_and ?_
  | with_reducible refine w_andV ?_
  | with_reducible refine w_orV ?_)
local macro_rules | `(tactic| walk_at "wd") => `(tactic| first
  | walk_at "w"
  | ((with_reducible refine' w_decT ?vv ?_); (case vv => decide +kernel))
  | ((with_reducible refine' w_decF ?vv ?_); (case vv => decide +kernel)))
local macro_rules | `(tactic| walk_at "tz") => `(tactic| (intro S z; (repeat walk_at "w"); exact z))
local macro_rules | `(tactic| walk_at "wf") => `(tactic| first
  | walk_at "wd"
  | ((with_reducible refine' w_decF ?vv ?_); (case vv => with_reducible assumption)))
theorem w_dnew {σ : L2.St} {H : Hp} {Q : VK} (k : NewO (.dK []) H Q) : tDNewK σ H Q := k
/-- all parts, and what own parts they have -/
structure PK (K : PySem.W.Frag) (H : Hp) (l : Addr) (ss : List SetE) : Prop where
  pl : PL K H l (proots ss []).2
  ok : ∀ s ∈ ss, OkS 4 s
  few : ss.length ≤ 4
def nOf (ss : List SetE) : Int := (cnts (restsL ss) : Nat)
theorem PK.sm {K : PySem.W.Frag} {H H' : Hp} {l : Addr} {ss : List SetE} (h : PK K H l ss) (e : Same H H') : PK K H' l ss := ⟨h.pl.same e, h.ok, h.few⟩
theorem PK.at {K : PySem.W.Frag} {H : Hp} {l : Addr} {ss : List SetE} {x : Int} (h : PK K H l ss) (h0 : 0 ≤ x) (h1 : x < nOf ss) : ∃ xs v d, H l = some (.lst xs) ∧ atI xs x = some v ∧ Dp K H v d ∧ PRow d ∧ ownD d = ownF ss x := by
  obtain ⟨xs, hx, hd, hr⟩ := id h.pl
  have hl : xs.length = (proots ss []).2.length := h.pl.len hx
  rw [proots_cnt] at hl
  unfold nOf at h1
  obtain ⟨v, e1, _, e3⟩ := atI_some (xs := xs) h0 (by omega)
  obtain ⟨d, hd1, hd2⟩ := dpa_at' hd e3
  refine ⟨xs, v, d, hx, e1, hd2, proots_prow ss h.ok rows_nil (fun _ q => (List.not_mem_nil q).elim) d (List.mem_of_getElem? hd1), ?_⟩
  have := ownF_at hd1
  rw [← this, Int.toNat_of_nonneg h0]
theorem PK.len {K : PySem.W.Frag} {H : Hp} {l : Addr} {ss : List SetE} (h : PK K H l ss) : ∃ xs, H l = some (.lst xs) ∧ ((xs.length : Nat) : Int) = nOf ss ∧ xs.length ≤ 120 := by
  obtain ⟨xs, hx, _⟩ := id h.pl
  have hl : xs.length = (proots ss []).2.length := h.pl.len hx
  have := (proots_len ss [] h.ok).1
  have := h.few
  rw [List.length_nil] at *
  refine ⟨xs, hx, ?_, by omega⟩
  unfold nOf
  rw [hl, proots_cnt]
theorem setsD_t (ss : List SetE) : tupD (setsD ss) = true := by unfold setsD; rw [tupD]; exact setsD_tup ss
theorem nOf_le {ss : List SetE} (h : ∀ s ∈ ss, OkS 4 s) (hl : ss.length ≤ 4) : nOf ss ≤ 120 := by
  have := (proots_len ss [] h).1
  rw [proots_cnt, List.length_nil] at this
  unfold nOf; omega
theorem Full.suf {own : Int → List Int} {n : Int} {o : List Int} (h : Full own n o) (i : Nat) : Val own (o.take i).reverse := by
  have : o.reverse = (o.drop i).reverse ++ (o.take i).reverse := by rw [← List.reverse_append, List.take_append_drop]
  have v := h.val
  rw [this] at v
  exact val_app v
theorem Full.cnt {ss : List SetE} {o : List Int} (h : Full (ownF ss) (nOf ss) o) {i : Nat} {x : Int} (hx : o[i]? = some x) :
    cnts' (ownF ss) o i = ((held (ownF ss) (o.take i).reverse).length : Int) + 1 - ((ownF ss x).length : Int) := by
  have v := h.suf (i + 1)
  unfold cnts'
  rw [rev_snoc hx] at v ⊢
  exact held_cnt (ownF_ok ss) v fun y hy => by
    refine (h.mem y).mp ?_
    rcases List.mem_cons.mp hy with rfl | hy
    · exact List.mem_of_getElem? hx
    · exact List.mem_of_mem_take (List.mem_reverse.mp hy)

end J
namespace J
open PySem PySem.Spec PyProof.Rows L2
local macro_rules | `(tactic| walk_at "cls") => `(tactic| first
  | with_reducible exact Facts.cl_Step
  | with_reducible exact Facts.cl_Get
  | with_reducible exact Facts.cl_Ask
  | with_reducible exact Facts.cl_Cell
  | with_reducible exact Facts.cl_Two
  | with_reducible exact Facts.cl_Put
  | with_reducible exact Facts.cl_Tell
  | with_reducible exact Facts.cl_Store
  | with_reducible exact Facts.cl_Parts
  | with_reducible exact Facts.cl_Order)
local macro_rules | `(tactic| walk_at "na") => `(tactic| first
  | with_reducible exact Facts.na_Get_to
  | with_reducible exact Facts.na_Get_sel
  | with_reducible exact Facts.na_Ask_to
  | with_reducible exact Facts.na_Ask_sel
  | with_reducible exact Facts.na_Cell_to
  | with_reducible exact Facts.na_Cell_source
  | with_reducible exact Facts.na_Two_to
  | with_reducible exact Facts.na_Two_op
  | with_reducible exact Facts.na_Two_one
  | with_reducible exact Facts.na_Two_other
  | with_reducible exact Facts.na_Put_sel
  | with_reducible exact Facts.na_Put_source
  | with_reducible exact Facts.na_Tell_sel
  | with_reducible exact Facts.na_Tell_source
  | with_reducible exact Facts.na_Store_at
  | with_reducible exact Facts.na_Store_source
  | with_reducible exact Facts.na_Parts_rows
  | with_reducible exact Facts.na_Order_parts
  | with_reducible exact Facts.na_Order_order
  | with_reducible exact Facts.na_Order_needed)
local macro_rules | `(tactic| walk_at "ty") => `(tactic| first
  | with_reducible exact ty_int
  | with_reducible exact ty_bl
  | with_reducible exact ty_str
  | with_reducible exact ty_non
  | ((with_reducible refine' ty_lst ?vv); (case vv => walk_at "tr"))
  | ((with_reducible refine' ty_sqT ?vv); (case vv => walk_at "tr"))
  | ((with_reducible refine' ty_dic ?vv); (case vv => walk_at "tr")))
local macro_rules | `(tactic| walk_at "ix") => `(tactic| first | exact at0 | exact at1 | exact at2 | assumption)
local macro_rules | `(tactic| walk_at "size") => `(tactic| first
  | assumption
  | (show _ < sizeLine; rw [sizeLine_eq]; (try simp only [List.length_cons, List.length_nil, List.length_append, List.length_map]); omega)
  | (show _ ≤ sizeLine; rw [sizeLine_eq]; (try simp only [List.length_cons, List.length_nil, List.length_append, List.length_map]); omega))
local macro_rules | `(tactic| walk_at "side") => `(tactic| first
  | assumption
  | ((with_reducible refine cdw ?_ ?_) <;> omega)
  | omega
  | (exact ⟨by omega, by omega⟩)
  | (exact Or.inl ⟨by omega, by omega⟩)
  | (exact Or.inr ⟨by omega, by omega⟩)
  | decide
  | (simp only [List.length_cons, List.length_nil, List.length_append, List.length_map]; omega)
  | (show _ ≤ _; decide))
local macro_rules | `(tactic| walk_at "as") => `(tactic| with_reducible assumption)
local macro_rules | `(tactic| walk_at "tr") => `(tactic| first
  | with_reducible assumption
  | with_reducible exact upd_same
  | ((with_reducible refine' SqL.of ?hh); (case hh => walk_at "as"))
  | ((with_reducible refine' SqT.of ?hh); (case hh => walk_at "as"))
  | ((with_reducible refine' Same.stm ?ee ?gg); (case ee => walk_at "as"); (case gg => walk_at "tr"))
  | ((with_reducible refine' Same.sqT ?ee ?gg); (case ee => walk_at "as"); (case gg => walk_at "tr"))
  | ((with_reducible refine' Same.sqL ?ee ?gg); (case ee => walk_at "as"); (case gg => walk_at "tr"))
  | ((with_reducible refine' Same.at ?ee ?gg); (case ee => walk_at "as"); (case gg => walk_at "tr"))
  | ((with_reducible refine' But.stm ?ee ?ff ?gg); (case ee => walk_at "as"); (case ff => walk_at "ne"); (case gg => walk_at "tr"))
  | ((with_reducible refine' But.tup ?ee ?ff ?gg); (case ee => walk_at "as"); (case ff => walk_at "tr1"); (case gg => walk_at "tr"))
  | ((with_reducible refine' But.sqT ?ee ?ff ?gg); (case ee => walk_at "as"); (case ff => walk_at "tr1"); (case gg => walk_at "tr"))
  | ((with_reducible refine' But.tupL ?ee ?ff ?gg); (case ee => walk_at "as"); (case ff => walk_at "tr1"); (case gg => walk_at "tr"))
  | ((with_reducible refine' But.sqTL ?ee ?ff ?gg); (case ee => walk_at "as"); (case ff => walk_at "tr1"); (case gg => walk_at "tr"))
  | ((with_reducible refine' But.sqL ?ee ?ff ?gg); (case ee => walk_at "as"); (case ff => walk_at "ne"); (case gg => walk_at "tr"))
  | ((with_reducible refine' But.at ?ee ?ff ?gg); (case ee => walk_at "as"); (case ff => walk_at "ne"); (case gg => walk_at "tr")))
local macro_rules | `(tactic| walk_at "ts") => `(tactic| first
  | with_reducible assumption
  | with_reducible exact TS.refl _
  | ((with_reducible refine' TS.trans ?gg (TS.of ?ee)); (case ee => walk_at "as"); (case gg => walk_at "ts"))
  | ((with_reducible refine' TS.trans ?gg (TS.butS ?ee ?ff)); (case ee => walk_at "as"); (case ff => walk_at "tr1"); (case gg => walk_at "ts"))
  | ((with_reducible refine' TS.trans ?gg (TS.butL ?ee ?ff)); (case ee => walk_at "as"); (case ff => walk_at "tr1"); (case gg => walk_at "ts"))
  | ((with_reducible refine' TS.trans ?gg (TS.butI ?ee ?ff)); (case ee => walk_at "as"); (case ff => walk_at "tr1"); (case gg => walk_at "ts")))
local macro_rules | `(tactic| walk_at "sm") => `(tactic| first
  | with_reducible assumption
  | with_reducible exact Same.refl _
  | ((with_reducible refine' Same.trans ?gg ?ee); (case ee => walk_at "as"); (case gg => walk_at "sm"))
  | ((with_reducible refine' But.new ?gg ?nn ?ee); (case ee => walk_at "as"); (case nn => walk_at "fr"); (case gg => walk_at "sm")))
local macro_rules | `(tactic| walk_at "fr") => `(tactic| first
  | with_reducible assumption
  | ((with_reducible refine' Same.back ?ee ?nn); (case nn => walk_at "as"); (case ee => walk_at "sm"))
  | ((with_reducible refine' But.back ?ee ?ff ?nn); (case nn => walk_at "as"); (case ff => walk_at "ne0"); (case ee => walk_at "bu")))
local macro_rules | `(tactic| walk_at "bu") => `(tactic| first
  | with_reducible assumption
  | with_reducible exact But.refl _ _
  | ((with_reducible refine' But.trans ?gg ?ee); (case ee => walk_at "as"); (case gg => walk_at "bu"))
  | ((with_reducible refine' But.trans ?gg (But.of ?ee)); (case ee => walk_at "as"); (case gg => walk_at "bu"))
  | ((with_reducible refine' But.new2 ?gg ?nn ?ee); (case ee => walk_at "as"); (case nn => walk_at "frB"); (case gg => walk_at "bu")))
local macro_rules | `(tactic| walk_at "frB") => `(tactic| first
  | with_reducible assumption
  | ((with_reducible refine' Same.back ?ee ?nn); (case nn => walk_at "as"); (case ee => walk_at "sm"))
  | ((with_reducible refine' But.back' ?ee ?ff ?nn); (case nn => walk_at "as"); (case ee => walk_at "bu"); (case ff => walk_at "tr1")))
local macro_rules | `(tactic| walk_at "tr1") => `(tactic| first
  | with_reducible assumption
  | ((with_reducible refine' Same.stm ?ee ?gg); (case ee => walk_at "as"); (case gg => walk_at "tr1"))
  | ((with_reducible refine' Same.at ?ee ?gg); (case ee => walk_at "as"); (case gg => walk_at "tr1"))
  | ((with_reducible refine' But.at ?ee ?ff ?gg); (case ee => walk_at "as"); (case ff => walk_at "ne0"); (case gg => walk_at "tr1"))
  | ((with_reducible refine' But.stm ?ee ?ff ?gg); (case ee => walk_at "as"); (case ff => walk_at "ne0"); (case gg => walk_at "tr1")))
local macro_rules | `(tactic| walk_at "ne0") => `(tactic| first
  | with_reducible assumption
  | (with_reducible apply Ne.symm; with_reducible assumption))
local macro_rules | `(tactic| walk_at "ne") => `(tactic| first
  | with_reducible assumption
  | (with_reducible apply Ne.symm; with_reducible assumption)
  | ((with_reducible refine' stm_ne ?hh ?nn); (case nn => walk_at "as"); (case hh => walk_at "tr1"))
  | ((with_reducible refine' ne_of_none ?hh ?nn); (case nn => walk_at "as"); (case hh => walk_at "tr1"))
  | ((with_reducible apply Ne.symm); (with_reducible refine' ne_of_none ?hh ?nn); (case nn => walk_at "as"); (case hh => walk_at "tr1")))
local macro_rules | `(tactic| walk_at "v") => `(tactic| first
  | with_reducible refine w_seq ?_
  | ((with_reducible refine' w_var ?vv ?_); (case vv => exact rfl))
  | with_reducible refine w_c ?_
  | with_reducible refine w_op ?_
  | with_reducible refine w_asg ?_
  | with_reducible refine w_gName ?_
  | with_reducible refine w_ret ?_
  | with_reducible refine w_ifS ?_
  | with_reducible refine w_drop ?_
  | with_reducible refine w_next ?_
  | with_reducible refine w_cons ?_
  | with_reducible refine w_nil ?_
  | with_reducible refine w_call ?_
  | with_reducible refine w_cb ?_
  | with_reducible refine w_rI0 ?_
  | with_reducible refine w_addI ?_
  | with_reducible refine w_eqI ?_
  | with_reducible refine w_neI ?_
  | with_reducible refine w_eqS ?_
  | with_reducible refine w_neS ?_
  | with_reducible refine w_eqB ?_
  | with_reducible refine w_neB ?_
  | with_reducible refine w_chain ?_
  | with_reducible refine w_test ?_
  | with_reducible refine w_tB ?_
  | with_reducible refine w_bl ?_
  | ((with_reducible refine' w_mulI ?vv ?_); (case vv => walk_at "side"))
  | ((with_reducible refine' w_rI ?vv ?_); (case vv => walk_at "side"))
  | with_reducible refine w_int1 ?_
  | with_reducible refine w_int1b ?_
  | with_reducible refine w_tup ?_
  | with_reducible refine w_lst ?_
  | with_reducible refine w_un ?_
  | with_reducible refine w_rU ?_
  | with_reducible refine w_not ?_
  | with_reducible refine w_notV ?_
  | with_reducible refine w_ifE ?_
  | with_reducible refine w_nT ?_
  | with_reducible refine w_nF ?_
  | with_reducible refine iteT ?_
  | with_reducible refine iteF ?_
  | ((with_reducible refine' w_ixT ?vv ?ww ?_); (case vv => walk_at "tr"); (case ww => walk_at "ix"))
  | ((with_reducible refine' w_ixL ?vv ?ww ?_); (case vv => walk_at "tr"); (case ww => walk_at "ix"))
  | with_reducible refine w_gSub ?_
  | ((with_reducible refine' w_setL ?vv ?ww ?_); (case vv => walk_at "tr"); (case ww => first | rfl | decide | assumption))
  | ((with_reducible refine' w_lenL ?vv ?_); (case vv => walk_at "tr"))
  | ((with_reducible refine' w_lenT ?vv ?_); (case vv => walk_at "tr"))
  | with_reducible refine w_max2 ?_
  | with_reducible refine w_max3 ?_
  | with_reducible refine w_din ?_
  | with_reducible refine w_dnotin ?_
  | with_reducible refine w_dput ?_
  | with_reducible refine w_min2 ?_
  | with_reducible refine w_bm ?_
  | with_reducible refine w_bm0 ?_
  | ((with_reducible refine' w_tyL ?vv ?_); (case vv => walk_at "tr"))
  | ((with_reducible refine' w_append ?vv ?ww ?_); (case vv => walk_at "tr"); (case ww => walk_at "size"))
  | ((with_reducible refine' w_size ?vv ?_); (case vv => walk_at "size"))
  | with_reducible refine w_forL ?_
  | with_reducible refine w_forT ?_
  | with_reducible refine w_forR1 ?_
  | with_reducible refine w_forR2 ?_
  | with_reducible refine w_lcL ?_
  | with_reducible refine w_lcT ?_
  | with_reducible refine w_lcR1 ?_
  | with_reducible refine w_yes ?_
  | with_reducible refine w_sl ?_
  | with_reducible refine w_noPart ?_
  | with_reducible refine w_part ?_
  | with_reducible refine w_int ?_
  | ((with_reducible refine' w_slL ?vv ?_); (case vv => walk_at "tr"))
  | ((with_reducible refine' w_seqL ?vv ?ww ?_); (case vv => walk_at "tr"); (case ww => rfl))
  | ((with_reducible refine' w_seqT ?vv ?ww ?_); (case vv => walk_at "tr"); (case ww => rfl))
  | with_reducible refine w_gNil ?_
  | with_reducible refine w_gCons ?_
  | with_reducible refine w_forZ ?_
  | with_reducible refine w_forM ?_
  | with_reducible refine w_forE ?_
  | with_reducible refine w_forV ?_
  | with_reducible refine w_lcZ ?_
  | with_reducible refine w_lcE ?_
  | ((with_reducible refine' w_isi (b := true) ?vv ?ww ?_); (case vv => walk_at "ty"); (case ww => decide +kernel))
  | ((with_reducible refine' w_isi (b := false) ?vv ?ww ?_); (case vv => walk_at "ty"); (case ww => decide +kernel))
  | with_reducible refine w_revL ?_
  | with_reducible refine w_pairN ?_
  | with_reducible refine w_pairC ?_
  | with_reducible refine w_dget ?_
  | with_reducible refine w_met ?_
  | ((with_reducible refine' w_metAt ?vv ?ww ?_); (case vv => walk_at "tr"); (case ww => rfl))
  | with_reducible refine w_mkI ?_
  | with_reducible refine w_fld ?_
  | ((with_reducible refine' w_fldAt ?vv ?cc ?nn ?ww ?_); (case vv => walk_at "tr"); (case cc => walk_at "cls"); (case nn => walk_at "na"); (case ww => rfl))
  | with_reducible refine w_sfld ?_
  | ((with_reducible refine' w_sfldAt ?vv ?cc ?nn ?ll ?ee ?_); (case vv => walk_at "tr"); (case cc => walk_at "cls"); (case nn => walk_at "na"); (case ll => simp); (case ee => rfl))
  | ((with_reducible refine' w_tupL ?vv ?_); (case vv => walk_at "tr"))
  | ((with_reducible refine' w_tupT ?vv ?_); (case vv => walk_at "tr"))
  | ((with_reducible refine' w_listL ?vv ?_); (case vv => walk_at "tr"))
  | ((with_reducible refine' w_listT ?vv ?_); (case vv => walk_at "tr"))
  | with_reducible refine w_tyS ?_
  | with_reducible refine w_retN ?_
  | with_reducible refine w_break ?_
  | with_reducible refine w_cont ?_)
local macro_rules | `(tactic| walk_at "w") => `(tactic| first
  | walk_at "v"
  | with_reducible refine w_or ?_
  | with_reducible refine w_and ?_
  | with_reducible refine w_andV ?_
  | with_reducible refine w_orV ?_)
local macro_rules | `(tactic| walk_at "wd") => `(tactic| first
  | walk_at "w"
  | ((with_reducible refine' w_decT ?vv ?_); (case vv => decide +kernel))
  | ((with_reducible refine' w_decF ?vv ?_); (case vv => decide +kernel)))
local macro_rules | `(tactic| walk_at "tz") => `(tactic| (intro S z; (repeat walk_at "w"); exact z))
local macro_rules | `(tactic| walk_at "wf") => `(tactic| first
  | walk_at "wd"
  | ((with_reducible refine' w_decF ?vv ?_); (case vv => with_reducible assumption)))
/-! ### needs -/
def spNeed (K : PySem.W.Frag) (n : Nat) : Sp := fun vs H Q _ => ∃ v e, vs = [v] ∧ Dp K H v (Exp.d e) ∧ OkE n e ∧ Q (.int (e.need : Nat)) H
theorem len_needs_of {K : PySem.W.Frag} {n : Nat} {vs H Q E} (h : spNeed K n vs H Q E) : vs.length = 1 := by obtain ⟨_, _, rfl, _⟩ := h; rfl
theorem no_needs_of {K : PySem.W.Frag} {vs H Q E} (h : spNeed K 0 vs H Q E) : False := by obtain ⟨_, _, _, _, h, _⟩ := h; exact okE_0 h
section
variable {P : Program} {w : World} {K : PySem.W.Frag} {mg : Str → Option Value}
theorem ok_needs_of [c : Facts K mg] : ∀ n : Nat, Fn P w K mg "needs_of" (n + 1) ["e"] ((spNeed K n))
  | 0 => by
    obtain ⟨fd, F⟩ := c.d_needs_of
    exact Fn.mk' (k := 0) F c.g_needs_of sc_needs_of (fun vs H Q E h => (no_needs_of h).elim) (fun _ _ _ _ _ _ us hl => match us, hl with | [_], _ => rfl) (fun base cdv A outer s H vs Q E hr h => (no_needs_of h).elim)
  | n + 1 => by
    have G_needs_of := ok_needs_of n
    obtain ⟨fd, F⟩ := c.d_needs_of
    refine Fn.mk' F c.g_needs_of sc_needs_of (k := n + 1) (fun vs H Q E h => ?_) (fun _ _ _ _ _ _ us hl => match us, hl with | [_], _ => rfl) (fun base cdv A outer s H vs Q E hr h => ?_)
    · exact len_needs_of h
    · have nd := sc_needs_of.nd
      have hu := hu_of hr
      have hr_needs_of : Room (n + 1) _ := hr.mono (by omega)
      refine ⟨_, (pss_cons (ps_if (PW.pt (pw_or (pt_cmpR (op_eqA (K := K) rfl hr.units) (pe_ix (ix_any (K := K) rfl) (pv 0) pe_int (fun _ _ => rfl)) pe_str (nomark _)) (pw_or1 (pt_cmpR (op_eqA (K := K) rfl hr.units) (pe_ix (ix_any (K := K) rfl) (pv 0) pe_int (fun _ _ => rfl)) pe_str (nomark _))))) (pss_one (ps_ret pe_int)) pss_nil)
      (pss_cons (ps_if (PW.pt (pw_or (pt_cmpR (op_eqA (K := K) rfl hr.units) (pe_ix (ix_any (K := K) rfl) (pv 0) pe_int (fun _ _ => rfl)) pe_str (nomark _)) (pw_or1 (pt_cmpR (op_eqA (K := K) rfl hr.units) (pe_ix (ix_any (K := K) rfl) (pv 0) pe_int (fun _ _ => rfl)) pe_str (nomark _))))) (pss_one (ps_ret pe_int)) pss_nil)
      (pss_cons (ps_if (pt_cmpR (op_eqA (K := K) rfl hr.units) (pe_ix (ix_any (K := K) rfl) (pv 0) pe_int (fun _ _ => rfl)) pe_str (nomark _)) (pss_one (ps_ret (pe_callB (call_max2A rfl) (by rfl) c.f_max boot_max (pa_cons pe_int (pa_cons (pe_fn G_needs_of hr_needs_of (by rfl) (pa_cons (pe_ix (ix_any (K := K) rfl) (pv 0) pe_int (fun _ _ => rfl)) pa_nil)) pa_nil))))) pss_nil)
      (pss_cons (ps_set (i := 1) nd rfl (Or.inl rfl) (pe_fn G_needs_of hr_needs_of (by rfl) (pa_cons (pe_ix (ix_any (K := K) rfl) (pv 0) pe_int (fun _ _ => rfl)) pa_nil)))
      (pss_cons (ps_set (i := 2) nd rfl (Or.inl rfl) (pe_fn G_needs_of hr_needs_of (by rfl) (pa_cons (pe_ix (ix_any (K := K) rfl) (pv 0) pe_int (fun _ _ => rfl)) pa_nil)))
      (pss_cons (ps_if (PW.pt (pw_and (pt_cmpR (op_eqA (K := K) rfl hr.units) (pv 1) (pv 2) (nomark _)) (pw_and1 (pt_cmpR op_gt (pv 1) pe_int (nomark _))))) (pss_one (ps_ret (pe_op (op_addA (K := K) rfl) (pv 1) pe_int))) pss_nil)
      (pss_one (ps_ret (pe_callB (call_max3A rfl) (by rfl) c.f_max boot_max (pa_cons pe_int (pa_cons (pv 1) (pa_cons (pv 2) pa_nil)))))))))))), ?_⟩
      try dsimp only [cxOf, Cx.nox, Cx.wish]
      obtain ⟨v, e, rfl, hv, oe, q⟩ := h
      cases e with
      | num j =>
        obtain ⟨p, u, rfl, hp, hu'⟩ := exp_1 hv
        repeat walk_at "wf"
        exact q
      | fld j =>
        obtain ⟨p, u, rfl, hp, hu'⟩ := exp_1 hv
        repeat walk_at "wf"
        exact q
      | plc k j =>
        obtain ⟨p, u, rfl, hp, hu'⟩ := exp_1 hv
        repeat walk_at "wf"
        exact q
      | mrk k j =>
        obtain ⟨p, u, rfl, hp, hu'⟩ := exp_1 hv
        repeat walk_at "wf"
        exact q
      | cell a =>
        obtain ⟨p, u, rfl, hp, hu'⟩ := exp_1 hv
        repeat walk_at "wf"
        refine ⟨u, a, rfl, hu', okE_cell oe, ?_⟩
        repeat walk_at "w"
        rw [show max (1 : Int) (a.need : Nat) = (((Exp.cell a).need : Nat) : Int) by simp only [Exp.need]; omega]
        exact q
      | two o a b =>
        obtain ⟨p, u, u2, rfl, hp, hu', hu2⟩ := exp_2 hv
        obtain ⟨oo, oa, ob⟩ := okE_two oe
        obtain ⟨n1, n2, n3, n4, n5⟩ := oo.ne
        repeat walk_at "wf"
        refine ⟨u, a, rfl, hu', oa, ?_⟩
        repeat walk_at "w"
        refine ⟨u2, b, rfl, hu2, ob, ?_⟩
        repeat walk_at "v"
        refine w_andP ((a.need : Int) = b.need) ((0 : Int) < a.need) (by walk_at "tz") (by walk_at "tz") (fun c hc => ?_)
        refine ite2 (fun h1 => ?_) (fun h1 => ?_)
        · have g := hc.mp h1
          repeat walk_at "w"
          rw [show (a.need : Int) + 1 = (((Exp.two o a b).need : Nat) : Int) by simp only [Exp.need]; rw [if_pos (by omega)]; omega]
          exact q
        · have g : ¬ ((a.need : Int) = b.need ∧ (0 : Int) < a.need) := fun z => h1 (hc.mpr z)
          repeat walk_at "w"
          rw [show max (max (1 : Int) (a.need : Nat)) (b.need : Nat) = (((Exp.two o a b).need : Nat) : Int) by simp only [Exp.need]; rw [if_neg (by omega)]; omega]
          exact q
end
/-! ### what the sets rest on, by their needs -/
def pos (es : List Exp) (b : Int) : List (Exp × Int) := (offs es b).filter fun p => decide (0 < p.1.need)
theorem offs_app : ∀ (es fs : List Exp) (b : Int), offs (es ++ fs) b = offs es b ++ offs fs (b + cnts es)
  | [], fs, b => by simp [offs, cnts]
  | e :: es, fs, b => by
    rw [List.cons_append, offs, offs_app es, offs, cnts, List.cons_append]
    congr 3; omega
theorem pos_app (es fs : List Exp) (b : Int) : pos (es ++ fs) b = pos es b ++ pos fs (b + cnts es) := by unfold pos; rw [offs_app, List.filter_append]
theorem cnts_app : ∀ (es fs : List Exp), cnts (es ++ fs) = cnts es + cnts fs
  | [], fs => by simp [cnts]
  | e :: es, fs => by rw [List.cons_append, cnts, cnts_app es, cnts]; omega
def entI (p : (Exp × Int) × Nat) : List Int := [0 - (p.1.1.need : Nat), (p.2 : Nat), p.1.2 + p.1.1.cnt - 1]
def TupH (H : Hp) (x : V) (ns : List Int) : Prop := ∃ t, x = .ref t ∧ H t = some (.tup (ns.map V.int))
/-- the entries found so far -/
structure Ent (H : Hp) (f : Addr) (L : List (Exp × Int)) (Z : List (V × ((Exp × Int) × Nat))) : Prop where
  at_ : H f = some (.lst (Z.map Prod.fst))
  what : Z.map Prod.snd = L.zipIdx
  tup : ∀ z ∈ Z, TupH H z.1 (entI z.2)
theorem Ent.sm {H H' : Hp} {f : Addr} {L : List (Exp × Int)} {Z : List (V × ((Exp × Int) × Nat))} (h : Ent H f L Z) (e : Same H H') : Ent H' f L Z := ⟨e _ _ h.at_, h.what, fun z hz => by
  obtain ⟨t, a, b⟩ := h.tup z hz
  exact ⟨t, a, e _ _ b⟩⟩
theorem Ent.snoc {H H' : Hp} {f t : Addr} {L : List (Exp × Int)} {Z : List (V × ((Exp × Int) × Nat))} {p : Exp × Int} (h : Ent H f L Z) (ht : H t = some (.tup ((entI (p, L.length)).map V.int))) (e : But f H H') (g : H' f = some (.lst (Z.map Prod.fst ++ [.ref t]))) :
    Ent H' f (L ++ [p]) (Z ++ [(.ref t, (p, L.length))]) := by
  have ne : ∀ t' xs, H t' = some (.tup xs) → t' ≠ f := fun t' xs q z => by rw [z, h.at_] at q; cases q
  refine ⟨by rw [List.map_append]; exact g, by rw [List.map_append, h.what, List.zipIdx_append]; simp, fun z hz => ?_⟩
  rcases List.mem_append.mp hz with q | q
  · obtain ⟨t', a, b⟩ := h.tup z q
    exact ⟨t', a, e _ _ (ne _ _ b) b⟩
  · rw [List.mem_singleton.mp q]
    exact ⟨t, rfl, e _ _ (ne _ _ ht) ht⟩
theorem Ent.len {H : Hp} {f : Addr} {L : List (Exp × Int)} {Z : List (V × ((Exp × Int) × Nat))} (h : Ent H f L Z) : (Z.map Prod.fst).length = L.length := by
  have := congrArg List.length h.what
  rw [List.length_map, List.length_zipIdx] at this
  rw [List.length_map, this]
theorem perm_map_inv {α β : Type} {f : α → β} {ys zs : List β} (h : ys.Perm zs) : ∀ Z : List α, Z.map f = zs → ∃ Z' : List α, Z'.Perm Z ∧ Z'.map f = ys := by
  induction h with
  | nil => intro Z e; exact ⟨Z, List.Perm.refl _, e⟩
  | cons x p ih =>
    intro Z e
    cases Z with
    | nil => cases e
    | cons z Z =>
      rw [List.map_cons] at e
      obtain ⟨e1, e2⟩ := List.cons.inj e
      obtain ⟨Z', a, b⟩ := ih Z e2
      exact ⟨z :: Z', a.cons z, by rw [List.map_cons, b, e1]⟩
  | swap x y l =>
    intro Z e
    match Z, e with
    | z1 :: z2 :: Z, e =>
      simp only [List.map_cons] at e
      obtain ⟨e1, e2⟩ := List.cons.inj e
      obtain ⟨e3, e4⟩ := List.cons.inj e2
      exact ⟨z2 :: z1 :: Z, List.Perm.swap _ _ _, by simp only [List.map_cons]; rw [e1, e3, e4]⟩
  | trans p q ih1 ih2 =>
    intro Z e
    obtain ⟨Z1, a, b⟩ := ih2 Z e
    obtain ⟨Z2, c, d⟩ := ih1 Z1 b
    exact ⟨Z2, c.trans a, d⟩
theorem parts_at : ∀ (es : List Exp) (ps : List PyData) {j : Nat} {e : Exp}, es[j]? = some e → (parts es ps).1[j]? = some (e.part (parts (es.take j) ps).2).1
  | [], _, _, _, h => by simp at h
  | x :: es, ps, 0, e, h => by cases Option.some.inj h; rfl
  | x :: es, ps, j + 1, e, h => by
    have := parts_at es (x.part ps).2 (j := j) (by simpa using h)
    simpa [parts] using this
theorem proots_at : ∀ (ss : List SetE) (ps : List PyData) {j : Nat} {s : SetE}, ss[j]? = some s → (proots ss ps).1[j]? = some (.tuple (parts s.rests (proots (ss.take j) ps).2).1)
  | [], _, _, _, h => by simp at h
  | x :: ss, ps, 0, s, h => by cases Option.some.inj h; rfl
  | x :: ss, ps, j + 1, s, h => by
    have := proots_at ss (parts x.rests ps).2 (j := j) (by simpa using h)
    simpa [proots] using this
def spFall (K : PySem.W.Frag) : Sp := fun vs H Q _ => ∃ v ss, vs = [v] ∧ Dp K H v (setsD ss) ∧ ss.length ≤ 4 ∧ (∀ x ∈ ss, OkS 4 x) ∧
  ∀ q H' (Z : List (V × ((Exp × Int) × Nat))), H' q = some (.lst (Z.map Prod.fst)) → (Z.map Prod.snd).Perm (pos (restsL ss) 0).zipIdx → Z.Pairwise (fun a b => lexI (entI b.2) (entI a.2) = false) → (∀ z ∈ Z, TupH H' z.1 (entI z.2)) → Same H H' → H q = none → Q (.ref q) H'
theorem len_falling {K : PySem.W.Frag} {vs H Q E} (h : spFall K vs H Q E) : vs.length = 1 := by obtain ⟨_, _, rfl, _⟩ := h; rfl
def intV : V → Int
  | .int n => n
  | _ => 0
def kOf (H : Hp) (x : V) : List Int := match x with
  | .ref t => match H t with
    | some (.tup vs) => vs.map intV
    | _ => []
  | _ => []
theorem kOf_tup {H : Hp} {x : V} {ns : List Int} (h : TupH H x ns) : kOf H x = ns := by
  obtain ⟨t, rfl, ht⟩ := h
  unfold kOf
  simp only [ht, List.map_map]
  have : (intV ∘ V.int) = id := by funext n; rfl
  rw [this, List.map_id]
theorem pos_one (e : Exp) (b : Int) : pos [e] b = if 0 < e.need then [(e, b)] else [] := by
  unfold pos offs offs
  by_cases h : 0 < e.need
  · rw [if_pos h, List.filter_cons, if_pos (by simpa using h)]; rfl
  · rw [if_neg h, List.filter_cons, if_neg (by simpa using h)]; rfl
theorem restsL_snoc {ss : List SetE} {i : Nat} {s : SetE} (h : ss[i]? = some s) : restsL (ss.take (i + 1)) = restsL (ss.take i) ++ s.rests := by
  unfold restsL
  rw [take_snoc h, List.flatMap_append]
  simp
section
variable {P : Program} {w : World} {K : PySem.W.Frag} {mg : Str → Option Value}
theorem ok_falling [c : Facts K mg] (G_needs_of : Fn P w K mg "needs_of" 5 ["e"] ((spNeed K 4))) (G_rests_of : Fn P w K mg "rests_of" 1 ["one"] ((spRests K))) (G_roots_of : Fn P w K mg "roots_of" 7 ["sets"] ((spRof K))) : Fn P w K mg "falling" 8 ["sets"] ((spFall K)) := by
  obtain ⟨fd, F⟩ := c.d_falling
  refine Fn.mk' F c.g_falling sc_falling (k := 7) (fun vs H Q E h => ?_) (fun _ _ _ _ _ _ us hl => match us, hl with | [_], _ => rfl) (fun base cdv A outer s H vs Q E hr h => ?_)
  · exact len_falling h
  · have nd := sc_falling.nd
    have hu := hu_of hr
    have hr_needs_of : Room 5 _ := hr.mono (by omega)
    have hr_rests_of : Room 1 _ := hr.mono (by omega)
    have hr_roots_of : Room 7 _ := hr.mono (by omega)
    refine ⟨_, (pss_cons (ps_set (i := 1) nd rfl (Or.inl rfl) (pe_fn G_roots_of hr_roots_of (by rfl) (pa_cons (pv 0) pa_nil)))
      (pss_cons (ps_set (i := 2) nd rfl (Or.inl rfl) (pe_lst pa_nil))
      (pss_cons (ps_for PassesOwn.never rfl (pi_zipM (K := K) true false rfl (by rfl) c.f_zip (pa_cons (pv 0) (pa_cons (pv 1) pa_nil))) (pg_seq 2 (K := K) rfl rfl (pgs_cons (pg_name (i := 3) nd rfl (Or.inl rfl)) (pgs_cons (pg_name (i := 4) nd rfl (Or.inl rfl)) pgs_nil))) (pss_one (ps_for PassesOwn.never rfl (pi_zipM (K := K) false true rfl (by rfl) c.f_zip (pa_cons (pe_fn G_rests_of hr_rests_of (by rfl) (pa_cons (pv 3) pa_nil)) (pa_cons (pv 4) pa_nil))) (pg_seq 2 (K := K) rfl rfl (pgs_cons (pg_name (i := 5) nd rfl (Or.inl rfl)) (pgs_cons (pg_name (i := 6) nd rfl (Or.inl rfl)) pgs_nil))) (pss_one (ps_if (pt_cmpR op_gt (pe_fn G_needs_of hr_needs_of (by rfl) (pa_cons (pv 5) pa_nil)) pe_int (nomark _)) (pss_one (ps_expr (pe_bm PySem.F.plainAttrs_list PySem.F.slot_list_append PySem.F.type_list_append mt_append (pv 2) (pa_cons (pe_tup (pa_cons (pe_op op_sub pe_int (pe_fn G_needs_of hr_needs_of (by rfl) (pa_cons (pv 5) pa_nil))) (pa_cons (pe_callB (call_lenA (K := K) rfl) (by rfl) c.f_len boot_len (pa_cons (pv 2) pa_nil)) (pa_cons (pv 6) pa_nil)))) pa_nil)))) pss_nil)))))
      (pss_one (ps_ret (pe_callB (call_sortedL (K := K) rfl) (by rfl) c.f_sorted boot_sorted (pa_cons (pv 2) pa_nil))))))), ?_⟩
    try dsimp only [cxOf, Cx.nox, Cx.wish]
    obtain ⟨v, ss, rfl, hv, hl, ho, q⟩ := h
    obtain ⟨a, xs, rfl, ha, hxs⟩ := set_d hv
    have hxl : xs.length = ss.length := by rw [dpa_len hxs, List.length_map]
    repeat walk_at "w"
    refine ⟨.ref a, ss, rfl, hv, hl, ho, fun r H1 hR nr s1 => ?_⟩
    repeat walk_at "w"
    refine w_new fun f H2 nf s2 f2 => ?_
    repeat walk_at "w"
    obtain ⟨ys, hy, hyd, hyr⟩ := id hR
    have hyl : ys.length = ss.length := by rw [hR.len hy, (proots_len ss [] ho).2]
    have nr2 : r ≠ f := fun z => by rw [z, nf] at hy; cases hy
    refine fl_zipM (xs := xs) (ys := ys) (fun i σ H' => ∃ Z o3 o4 o5 o6, σ = [some (.ref a), some (.ref r), some (.ref f), o3, o4, o5, o6] ∧ Same H1 H' ∧ Ent H' f (pos (restsL (ss.take i)) 0) Z) ((s1.trans s2).sqT ha) (SqL.of (s2 _ _ hy))
      ⟨[], _, _, _, _, rfl, s2, ⟨f2, rfl, fun z hz => (List.not_mem_nil hz).elim⟩⟩ (fun i σ H' hi hp => ?_) (fun i x y T σ H' H3 hx hy' hp nT s3 hT => ?_) (fun σ H' hp => ?_)
    · obtain ⟨Z, _, _, _, _, _, e, _⟩ := hp
      exact ⟨(s1.trans e).sqT ha, SqL.of (e _ _ hy)⟩
    · obtain ⟨Z, o3, o4, o5, o6, rfl, e, hE⟩ := hp
      have hi' : i < ss.length := by have := (List.getElem?_eq_some_iff.mp hx).1; omega
      obtain ⟨s, hs⟩ : ∃ s, ss[i]? = some s := ⟨_, List.getElem?_eq_getElem hi'⟩
      have os := ho s (List.mem_of_getElem? hs)
      have e3 : Same H1 H3 := e.trans s3
      have hxd : Dp K H3 x s.d := by
        obtain ⟨d, hd1, hd2⟩ := dpa_at' (dpAll_ts (TS.of (s1.trans e3)) _ _ (setsD_tup ss) hxs) hx
        rw [List.getElem?_map, hs] at hd1
        cases Option.some.inj hd1
        exact hd2
      have hyd2 : Dp K H3 y (.tuple (J.parts s.rests (proots (ss.take i) []).2).1) := by
        obtain ⟨d, hd1, hd2⟩ := dpa_at' (dpAll_ts (TS.of e3) _ _ (rows_all hyr).1 hyd) hy'
        rw [proots_at ss [] hs] at hd1
        cases Option.some.inj hd1
        exact hd2
      obtain ⟨ry, vs, rfl, hry, hvs⟩ := dp_tup hyd2
      repeat walk_at "w"
      refine ⟨x, s, rfl, hxd, fun p us H4 hp4 hus s4 n4 => ?_⟩
      have e4 := e3.trans s4
      have hul : us.length = s.rests.length := by rw [dpa_len hus, List.length_map]
      have hE4 := (hE.sm s3).sm s4
      have npf : p ≠ f := fun z => by rw [z, (hE.sm s3).at_] at n4; cases n4
      have hvl : vs.length = s.rests.length := by
        rw [dpa_len hvs]
        have : ∀ (es : List Exp) (ps : List PyData), (J.parts es ps).1.length = es.length := by
          intro es
          induction es with
          | nil => intro ps; rfl
          | cons e es ih => intro ps; rw [J.parts, List.length_cons, List.length_cons, ih]
        exact this _ _
      have pg : Rows (proots (ss.take i) []).2 := (proots_ok (ss.take i) (fun z hz => ho z (List.mem_of_mem_take hz)) rows_nil).2
      have ii := parts_ok s.rests (ps := (proots (ss.take i) []).2) (fun y hy => (okS_rests os y hy).2) pg
      have rl : s.rests.length ≤ 2 := by cases s <;> simp [SetE.rests]
      repeat walk_at "w"
      refine fl_zipM (xs := us) (ys := vs) (fun j σ H' => ∃ Z o5 o6, σ = [some (.ref a), some (.ref r), some (.ref f), some x, some (.ref ry), o5, o6] ∧ But f H4 H' ∧ Ent H' f (pos (restsL (ss.take i)) 0 ++ pos (s.rests.take j) (cnts (restsL (ss.take i)) : Nat)) Z) (SqL.of hp4) (s4.sqT hry)
        ⟨Z, _, _, rfl, But.refl _ _, by rw [List.take_zero, show pos [] ((cnts (restsL (ss.take i)) : Nat) : Int) = [] from rfl, List.append_nil]; exact hE4⟩ (fun j σ H' hj hp => ?_) (fun j ve vn T2 σ H' H5 hve hvn hp nT2 s5 hT2 => ?_) (fun σ H' hp => ?_)
      · obtain ⟨Z, _, _, _, b, _⟩ := hp
        have t4 : TS H4 H' := TS.butL b hE4.at_
        exact ⟨SqL.of (b _ _ npf hp4), t4.sqT (s4.sqT hry)⟩
      · obtain ⟨Z, o5, o6, rfl, b, hE'⟩ := hp
        have hj' : j < s.rests.length := by have := (List.getElem?_eq_some_iff.mp hve).1; omega
        obtain ⟨e, he⟩ : ∃ e, s.rests[j]? = some e := ⟨_, List.getElem?_eq_getElem hj'⟩
        have oe := okS_rests os e (List.mem_of_getElem? he)
        have t4 : TS H4 H' := TS.butL b hE4.at_
        have t5 : TS H4 H5 := t4.trans (TS.of s5)
        have hve5 : Dp K H5 ve e.d := by
          obtain ⟨d, hd1, hd2⟩ := dpa_at' (dpAll_ts t5 _ _ (exps_tup _) hus) hve
          rw [List.getElem?_map, he] at hd1
          cases Option.some.inj hd1
          exact hd2
        have hvn5 : Dp K H5 vn (e.part (J.parts (s.rests.take j) (proots (ss.take i) []).2).2).1 := by
          obtain ⟨d, hd1, hd2⟩ := dpa_at' (dpAll_ts ((TS.of s4).trans t5) _ _ (items_all ii.1).1 hvs) hvn
          rw [parts_at s.rests _ he] at hd1
          cases Option.some.inj hd1
          exact hd2
        have hE5 := hE'.sm s5
        repeat walk_at "w"
        refine ⟨ve, e, rfl, hve5, oe, ?_⟩
        repeat walk_at "w"
        refine ite2 (fun h1 => ?_) (fun h1 => ?_)
        · have h1' : 0 < e.need := by rw [decide_eq_true_eq] at h1; omega
          have hc := (need_cnt e).mp h1'
          rw [part_rt hc, parts_len, proots_cnt] at hvn5
          cases dp_int hvn5
          have z5 := hE5.len
          have fz := hE5.at_
          have z6 : (pos (restsL (ss.take i)) 0 ++ pos (s.rests.take j) (cnts (restsL (ss.take i)) : Nat)).length ≤ 1000 := by
            have : ∀ (es : List Exp) (b : Int), (pos es b).length ≤ es.length := fun es b => by
              unfold pos
              refine Nat.le_trans (List.length_filter_le _ _) ?_
              induction es generalizing b with
              | nil => exact Nat.le_refl _
              | cons e es ih => rw [offs, List.length_cons, List.length_cons]; have := ih (b + e.cnt); omega
            have a1 := this (restsL (ss.take i)) 0
            have a2 := this (s.rests.take j) (cnts (restsL (ss.take i)) : Nat)
            have a3 : (restsL (ss.take i)).length ≤ 2 * (ss.take i).length := by
              unfold restsL
              generalize ss.take i = l
              induction l with
              | nil => exact Nat.le_refl _
              | cons z l ih =>
                rw [List.flatMap_cons, List.length_append, List.length_cons]
                have : z.rests.length ≤ 2 := by cases z <;> simp [SetE.rests]
                omega
            rw [List.length_take] at a3
            have a4 : (s.rests.take j).length ≤ 2 := by rw [List.length_take]; omega
            rw [List.length_append]; omega
          repeat walk_at "w"
          refine ⟨ve, e, rfl, hve5, oe, ?_⟩
          repeat walk_at "w"
          rw [z5]
          refine w_new fun t H6 n6 s6 f6 => ?_
          repeat walk_at "w"
          refine w_append (s6 _ _ fz) (by rw [sizeLine_eq]; omega) ?_
          refine w_chg fun H7 e7 f7 => ?_
          repeat walk_at "w"
          refine ⟨Z ++ [(V.ref t, ((e, ((cnts (restsL (ss.take i)) : Nat) : Int) + (cnts (s.rests.take j) : Nat)), (pos (restsL (ss.take i)) 0 ++ pos (s.rests.take j) (cnts (restsL (ss.take i)) : Nat)).length))], _, _, rfl, (b.trans (But.of (s5.trans s6))).trans e7, ?_⟩
          rw [take_snoc he, pos_app, pos_one, if_pos h1', ← List.append_assoc]
          refine Ent.snoc (hE5.sm s6) ?_ e7 f7
          rw [f6]
          unfold entI
          simp only [List.map_cons, List.map_nil]
          congr 4
        · have h1' : ¬ 0 < e.need := by rw [decide_eq_true_eq] at h1; omega
          repeat walk_at "w"
          refine ⟨Z, _, _, rfl, b.trans (But.of s5), ?_⟩
          rw [take_snoc he, pos_app, pos_one, if_neg h1', List.append_nil]
          exact hE5
      · obtain ⟨Z, o5, o6, rfl, b, hE'⟩ := hp
        refine ⟨Z, _, _, _, _, rfl, But.new e4 nf b, ?_⟩
        rw [restsL_snoc hs, pos_app, Int.zero_add]
        rw [hul, hvl, Nat.min_self, List.take_length] at hE'
        exact hE'
    · obtain ⟨Z, o3, o4, o5, o6, rfl, e, hE⟩ := hp
      rw [hxl, hyl, Nat.min_self, List.take_length] at hE
      repeat walk_at "w"
      refine ⟨f, Z.map Prod.fst, kOf H', 3, rfl, SqL.of hE.at_, by decide, fun x hx => ?_, fun zs hp hw => ?_⟩
      · obtain ⟨z, hz, rfl⟩ := List.mem_map.mp hx
        have := hE.tup z hz
        rw [kOf_tup this]
        obtain ⟨t, e1, e2⟩ := this
        exact ⟨⟨t, e1, SqT.of e2⟩, rfl⟩
      · refine w_new fun g H5 n5 s5 f5 => ?_
        obtain ⟨Z', hZ, rfl⟩ := perm_map_inv hp Z rfl
        refine q g H5 Z' f5 ?_ ?_ (fun z hz => ?_) (s1.trans (e.trans s5)) (s1.free (e.free n5))
        · rw [← hE.what]; exact hZ.map _
        · rw [List.pairwise_map] at hw
          refine hw.imp_of_mem fun {x y} hx hy hh => ?_
          rw [kOf_tup (hE.tup x (hZ.mem_iff.mp hx)), kOf_tup (hE.tup y (hZ.mem_iff.mp hy))] at hh
          exact hh
        · obtain ⟨t, a1, a2⟩ := hE.tup z (hZ.mem_iff.mp hz)
          exact ⟨t, a1, s5 _ _ a2⟩
end

end J
namespace J
open PySem PySem.Spec PyProof.Rows L2
local macro_rules | `(tactic| walk_at "cls") => `(tactic| first
  | with_reducible exact Facts.cl_Step
  | with_reducible exact Facts.cl_Get
  | with_reducible exact Facts.cl_Ask
  | with_reducible exact Facts.cl_Cell
  | with_reducible exact Facts.cl_Two
  | with_reducible exact Facts.cl_Put
  | with_reducible exact Facts.cl_Tell
  | with_reducible exact Facts.cl_Store
  | with_reducible exact Facts.cl_Parts
  | with_reducible exact Facts.cl_Order)
local macro_rules | `(tactic| walk_at "na") => `(tactic| first
  | with_reducible exact Facts.na_Get_to
  | with_reducible exact Facts.na_Get_sel
  | with_reducible exact Facts.na_Ask_to
  | with_reducible exact Facts.na_Ask_sel
  | with_reducible exact Facts.na_Cell_to
  | with_reducible exact Facts.na_Cell_source
  | with_reducible exact Facts.na_Two_to
  | with_reducible exact Facts.na_Two_op
  | with_reducible exact Facts.na_Two_one
  | with_reducible exact Facts.na_Two_other
  | with_reducible exact Facts.na_Put_sel
  | with_reducible exact Facts.na_Put_source
  | with_reducible exact Facts.na_Tell_sel
  | with_reducible exact Facts.na_Tell_source
  | with_reducible exact Facts.na_Store_at
  | with_reducible exact Facts.na_Store_source
  | with_reducible exact Facts.na_Parts_rows
  | with_reducible exact Facts.na_Order_parts
  | with_reducible exact Facts.na_Order_order
  | with_reducible exact Facts.na_Order_needed)
local macro_rules | `(tactic| walk_at "ty") => `(tactic| first
  | with_reducible exact ty_int
  | with_reducible exact ty_bl
  | with_reducible exact ty_str
  | with_reducible exact ty_non
  | ((with_reducible refine' ty_lst ?vv); (case vv => walk_at "tr"))
  | ((with_reducible refine' ty_sqT ?vv); (case vv => walk_at "tr"))
  | ((with_reducible refine' ty_dic ?vv); (case vv => walk_at "tr")))
local macro_rules | `(tactic| walk_at "ix") => `(tactic| first | exact at0 | exact at1 | exact at2 | assumption)
local macro_rules | `(tactic| walk_at "size") => `(tactic| first
  | assumption
  | (show _ < sizeLine; rw [sizeLine_eq]; (try simp only [List.length_cons, List.length_nil, List.length_append, List.length_map]); omega)
  | (show _ ≤ sizeLine; rw [sizeLine_eq]; (try simp only [List.length_cons, List.length_nil, List.length_append, List.length_map]); omega))
local macro_rules | `(tactic| walk_at "side") => `(tactic| first
  | assumption
  | ((with_reducible refine cdw ?_ ?_) <;> omega)
  | omega
  | (exact ⟨by omega, by omega⟩)
  | (exact Or.inl ⟨by omega, by omega⟩)
  | (exact Or.inr ⟨by omega, by omega⟩)
  | decide
  | (simp only [List.length_cons, List.length_nil, List.length_append, List.length_map]; omega)
  | (show _ ≤ _; decide))
local macro_rules | `(tactic| walk_at "as") => `(tactic| with_reducible assumption)
local macro_rules | `(tactic| walk_at "tr") => `(tactic| first
  | with_reducible assumption
  | with_reducible exact upd_same
  | ((with_reducible refine' SqL.of ?hh); (case hh => walk_at "as"))
  | ((with_reducible refine' SqT.of ?hh); (case hh => walk_at "as"))
  | ((with_reducible refine' Same.stm ?ee ?gg); (case ee => walk_at "as"); (case gg => walk_at "tr"))
  | ((with_reducible refine' Same.sqT ?ee ?gg); (case ee => walk_at "as"); (case gg => walk_at "tr"))
  | ((with_reducible refine' Same.sqL ?ee ?gg); (case ee => walk_at "as"); (case gg => walk_at "tr"))
  | ((with_reducible refine' Same.at ?ee ?gg); (case ee => walk_at "as"); (case gg => walk_at "tr"))
  | ((with_reducible refine' But.stm ?ee ?ff ?gg); (case ee => walk_at "as"); (case ff => walk_at "ne"); (case gg => walk_at "tr"))
  | ((with_reducible refine' But.tup ?ee ?ff ?gg); (case ee => walk_at "as"); (case ff => walk_at "tr1"); (case gg => walk_at "tr"))
  | ((with_reducible refine' But.sqT ?ee ?ff ?gg); (case ee => walk_at "as"); (case ff => walk_at "tr1"); (case gg => walk_at "tr"))
  | ((with_reducible refine' But.tupL ?ee ?ff ?gg); (case ee => walk_at "as"); (case ff => walk_at "tr1"); (case gg => walk_at "tr"))
  | ((with_reducible refine' But.sqTL ?ee ?ff ?gg); (case ee => walk_at "as"); (case ff => walk_at "tr1"); (case gg => walk_at "tr"))
  | ((with_reducible refine' But.sqL ?ee ?ff ?gg); (case ee => walk_at "as"); (case ff => walk_at "ne"); (case gg => walk_at "tr"))
  | ((with_reducible refine' But.at ?ee ?ff ?gg); (case ee => walk_at "as"); (case ff => walk_at "ne"); (case gg => walk_at "tr")))
local macro_rules | `(tactic| walk_at "ts") => `(tactic| first
  | with_reducible assumption
  | with_reducible exact TS.refl _
  | ((with_reducible refine' TS.trans ?gg (TS.of ?ee)); (case ee => walk_at "as"); (case gg => walk_at "ts"))
  | ((with_reducible refine' TS.trans ?gg (TS.butS ?ee ?ff)); (case ee => walk_at "as"); (case ff => walk_at "tr1"); (case gg => walk_at "ts"))
  | ((with_reducible refine' TS.trans ?gg (TS.butL ?ee ?ff)); (case ee => walk_at "as"); (case ff => walk_at "tr1"); (case gg => walk_at "ts"))
  | ((with_reducible refine' TS.trans ?gg (TS.butI ?ee ?ff)); (case ee => walk_at "as"); (case ff => walk_at "tr1"); (case gg => walk_at "ts")))
local macro_rules | `(tactic| walk_at "sm") => `(tactic| first
  | with_reducible assumption
  | with_reducible exact Same.refl _
  | ((with_reducible refine' Same.trans ?gg ?ee); (case ee => walk_at "as"); (case gg => walk_at "sm"))
  | ((with_reducible refine' But.new ?gg ?nn ?ee); (case ee => walk_at "as"); (case nn => walk_at "fr"); (case gg => walk_at "sm")))
local macro_rules | `(tactic| walk_at "fr") => `(tactic| first
  | with_reducible assumption
  | ((with_reducible refine' Same.back ?ee ?nn); (case nn => walk_at "as"); (case ee => walk_at "sm"))
  | ((with_reducible refine' But.back ?ee ?ff ?nn); (case nn => walk_at "as"); (case ff => walk_at "ne0"); (case ee => walk_at "bu")))
local macro_rules | `(tactic| walk_at "bu") => `(tactic| first
  | with_reducible assumption
  | with_reducible exact But.refl _ _
  | ((with_reducible refine' But.trans ?gg ?ee); (case ee => walk_at "as"); (case gg => walk_at "bu"))
  | ((with_reducible refine' But.trans ?gg (But.of ?ee)); (case ee => walk_at "as"); (case gg => walk_at "bu"))
  | ((with_reducible refine' But.new2 ?gg ?nn ?ee); (case ee => walk_at "as"); (case nn => walk_at "frB"); (case gg => walk_at "bu")))
local macro_rules | `(tactic| walk_at "frB") => `(tactic| first
  | with_reducible assumption
  | ((with_reducible refine' Same.back ?ee ?nn); (case nn => walk_at "as"); (case ee => walk_at "sm"))
  | ((with_reducible refine' But.back' ?ee ?ff ?nn); (case nn => walk_at "as"); (case ee => walk_at "bu"); (case ff => walk_at "tr1")))
local macro_rules | `(tactic| walk_at "tr1") => `(tactic| first
  | with_reducible assumption
  | ((with_reducible refine' Same.stm ?ee ?gg); (case ee => walk_at "as"); (case gg => walk_at "tr1"))
  | ((with_reducible refine' Same.at ?ee ?gg); (case ee => walk_at "as"); (case gg => walk_at "tr1"))
  | ((with_reducible refine' But.at ?ee ?ff ?gg); (case ee => walk_at "as"); (case ff => walk_at "ne0"); (case gg => walk_at "tr1"))
  | ((with_reducible refine' But.stm ?ee ?ff ?gg); (case ee => walk_at "as"); (case ff => walk_at "ne0"); (case gg => walk_at "tr1")))
local macro_rules | `(tactic| walk_at "ne0") => `(tactic| first
  | with_reducible assumption
  | (with_reducible apply Ne.symm; with_reducible assumption))
local macro_rules | `(tactic| walk_at "ne") => `(tactic| first
  | with_reducible assumption
  | (with_reducible apply Ne.symm; with_reducible assumption)
  | ((with_reducible refine' stm_ne ?hh ?nn); (case nn => walk_at "as"); (case hh => walk_at "tr1"))
  | ((with_reducible refine' ne_of_none ?hh ?nn); (case nn => walk_at "as"); (case hh => walk_at "tr1"))
  | ((with_reducible apply Ne.symm); (with_reducible refine' ne_of_none ?hh ?nn); (case nn => walk_at "as"); (case hh => walk_at "tr1")))
local macro_rules | `(tactic| walk_at "v") => `(tactic| first
  | with_reducible refine w_seq ?_
  | ((with_reducible refine' w_var ?vv ?_); (case vv => exact rfl))
  | with_reducible refine w_c ?_
  | with_reducible refine w_op ?_
  | with_reducible refine w_asg ?_
  | with_reducible refine w_gName ?_
  | with_reducible refine w_ret ?_
  | with_reducible refine w_ifS ?_
  | with_reducible refine w_drop ?_
  | with_reducible refine w_next ?_
  | with_reducible refine w_cons ?_
  | with_reducible refine w_nil ?_
  | with_reducible refine w_call ?_
  | with_reducible refine w_cb ?_
  | with_reducible refine w_rI0 ?_
  | with_reducible refine w_addI ?_
  | with_reducible refine w_eqI ?_
  | with_reducible refine w_neI ?_
  | with_reducible refine w_eqS ?_
  | with_reducible refine w_neS ?_
  | with_reducible refine w_eqB ?_
  | with_reducible refine w_neB ?_
  | with_reducible refine w_chain ?_
  | with_reducible refine w_test ?_
  | with_reducible refine w_tB ?_
  | with_reducible refine w_bl ?_
  | ((with_reducible refine' w_mulI ?vv ?_); (case vv => walk_at "side"))
  | ((with_reducible refine' w_rI ?vv ?_); (case vv => walk_at "side"))
  | with_reducible refine w_int1 ?_
  | with_reducible refine w_int1b ?_
  | with_reducible refine w_tup ?_
  | with_reducible refine w_lst ?_
  | with_reducible refine w_un ?_
  | with_reducible refine w_rU ?_
  | with_reducible refine w_not ?_
  | with_reducible refine w_notV ?_
  | with_reducible refine w_ifE ?_
  | with_reducible refine w_nT ?_
  | with_reducible refine w_nF ?_
  | with_reducible refine iteT ?_
  | with_reducible refine iteF ?_
  | ((with_reducible refine' w_ixT ?vv ?ww ?_); (case vv => walk_at "tr"); (case ww => walk_at "ix"))
  | ((with_reducible refine' w_ixL ?vv ?ww ?_); (case vv => walk_at "tr"); (case ww => walk_at "ix"))
  | with_reducible refine w_gSub ?_
  | ((with_reducible refine' w_setL ?vv ?ww ?_); (case vv => walk_at "tr"); (case ww => first | rfl | decide | assumption))
  | ((with_reducible refine' w_lenL ?vv ?_); (case vv => walk_at "tr"))
  | ((with_reducible refine' w_lenT ?vv ?_); (case vv => walk_at "tr"))
  | with_reducible refine w_max2 ?_
  | with_reducible refine w_max3 ?_
  | with_reducible refine w_din ?_
  | with_reducible refine w_dnotin ?_
  | with_reducible refine w_dput ?_
  | with_reducible refine w_min2 ?_
  | with_reducible refine w_bm ?_
  | with_reducible refine w_bm0 ?_
  | ((with_reducible refine' w_tyL ?vv ?_); (case vv => walk_at "tr"))
  | ((with_reducible refine' w_append ?vv ?ww ?_); (case vv => walk_at "tr"); (case ww => walk_at "size"))
  | ((with_reducible refine' w_size ?vv ?_); (case vv => walk_at "size"))
  | with_reducible refine w_forL ?_
  | with_reducible refine w_forT ?_
  | with_reducible refine w_forR1 ?_
  | with_reducible refine w_forR2 ?_
  | with_reducible refine w_lcL ?_
  | with_reducible refine w_lcT ?_
  | with_reducible refine w_lcR1 ?_
  | with_reducible refine w_yes ?_
  | with_reducible refine w_sl ?_
  | with_reducible refine w_noPart ?_
  | with_reducible refine w_part ?_
  | with_reducible refine w_int ?_
  | ((with_reducible refine' w_slL ?vv ?_); (case vv => walk_at "tr"))
  | ((with_reducible refine' w_seqL ?vv ?ww ?_); (case vv => walk_at "tr"); (case ww => rfl))
  | ((with_reducible refine' w_seqT ?vv ?ww ?_); (case vv => walk_at "tr"); (case ww => rfl))
  | with_reducible refine w_gNil ?_
  | with_reducible refine w_gCons ?_
  | with_reducible refine w_forZ ?_
  | with_reducible refine w_forM ?_
  | with_reducible refine w_forE ?_
  | with_reducible refine w_forV ?_
  | with_reducible refine w_lcZ ?_
  | with_reducible refine w_lcE ?_
  | ((with_reducible refine' w_isi (b := true) ?vv ?ww ?_); (case vv => walk_at "ty"); (case ww => decide +kernel))
  | ((with_reducible refine' w_isi (b := false) ?vv ?ww ?_); (case vv => walk_at "ty"); (case ww => decide +kernel))
  | with_reducible refine w_revL ?_
  | with_reducible refine w_pairN ?_
  | with_reducible refine w_pairC ?_
  | with_reducible refine w_dget ?_
  | with_reducible refine w_met ?_
  | ((with_reducible refine' w_metAt ?vv ?ww ?_); (case vv => walk_at "tr"); (case ww => rfl))
  | with_reducible refine w_mkI ?_
  | with_reducible refine w_fld ?_
  | ((with_reducible refine' w_fldAt ?vv ?cc ?nn ?ww ?_); (case vv => walk_at "tr"); (case cc => walk_at "cls"); (case nn => walk_at "na"); (case ww => rfl))
  | with_reducible refine w_sfld ?_
  | ((with_reducible refine' w_sfldAt ?vv ?cc ?nn ?ll ?ee ?_); (case vv => walk_at "tr"); (case cc => walk_at "cls"); (case nn => walk_at "na"); (case ll => simp); (case ee => rfl))
  | ((with_reducible refine' w_tupL ?vv ?_); (case vv => walk_at "tr"))
  | ((with_reducible refine' w_tupT ?vv ?_); (case vv => walk_at "tr"))
  | ((with_reducible refine' w_listL ?vv ?_); (case vv => walk_at "tr"))
  | ((with_reducible refine' w_listT ?vv ?_); (case vv => walk_at "tr"))
  | with_reducible refine w_tyS ?_
  | with_reducible refine w_retN ?_
  | with_reducible refine w_break ?_
  | with_reducible refine w_cont ?_)
local macro_rules | `(tactic| walk_at "w") => `(tactic| first
  | walk_at "v"
  | with_reducible refine w_or ?_
  | with_reducible refine w_and ?_
  | with_reducible refine w_andV ?_
  | with_reducible refine w_orV ?_)
local macro_rules | `(tactic| walk_at "wd") => `(tactic| first
  | walk_at "w"
  | ((with_reducible refine' w_decT ?vv ?_); (case vv => decide +kernel))
  | ((with_reducible refine' w_decF ?vv ?_); (case vv => decide +kernel)))
local macro_rules | `(tactic| walk_at "tz") => `(tactic| (intro S z; (repeat walk_at "w"); exact z))
local macro_rules | `(tactic| walk_at "wf") => `(tactic| first
  | walk_at "wd"
  | ((with_reducible refine' w_decF ?vv ?_); (case vv => with_reducible assumption)))
def needAt (L : List ((Exp × Int) × Nat)) (k : Nat) : Int := match L[k]? with
  | some p => ((p.1.1.need : Nat) : Int)
  | none => 0
def topN (L : List ((Exp × Int) × Nat)) : Nat → Int
  | 0 => 0
  | k + 1 => max (topN L k) ((k : Int) + needAt L k)
theorem topN_att (L : List ((Exp × Int) × Nat)) : ∀ k, k ≤ L.length → topN L k = 0 ∨ ∃ j p, j < k ∧ L[j]? = some p ∧ topN L k = (j : Int) + (p.1.1.need : Nat)
  | 0, _ => .inl rfl
  | k + 1, h => by
    have ih := topN_att L k (by omega)
    obtain ⟨p, hp⟩ : ∃ p, L[k]? = some p := ⟨_, List.getElem?_eq_getElem h⟩
    have e : needAt L k = (p.1.1.need : Nat) := by unfold needAt; rw [hp]
    rw [topN, e]
    by_cases z : topN L k ≤ (k : Int) + (p.1.1.need : Nat)
    · exact .inr ⟨k, p, by omega, hp, by omega⟩
    · rcases ih with g | ⟨j, p', h1, h2, h3⟩
      · omega
      · exact .inr ⟨j, p', by omega, h2, by omega⟩
theorem lex_need {a b : (Exp × Int) × Nat} (h : lexI (entI b) (entI a) = false) : b.1.1.need ≤ a.1.1.need := by
  unfold entI lexI at h
  by_cases z : (0 : Int) - (b.1.1.need : Nat) = 0 - (a.1.1.need : Nat)
  · omega
  · rw [if_neg z, decide_eq_false_iff_not] at h
    omega
theorem mem_of_mem_offs {es : List Exp} {b : Int} {p : Exp × Int} (h : p ∈ pos es b) : p ∈ offs es b ∧ 0 < p.1.need := by
  unfold pos at h
  have := List.mem_filter.mp h
  exact ⟨this.1, by simpa using this.2⟩
theorem apart_of {L : List (Exp × Int)} {p r : Exp × Int} (hp : L.Pairwise Apart) (h1 : p ∈ L) (h2 : r ∈ L) (ne : p ≠ r) : Apart p r := by
  induction L with
  | nil => exact (List.not_mem_nil h1).elim
  | cons q L ih =>
    obtain ⟨a, b⟩ := List.pairwise_cons.mp hp
    rcases List.mem_cons.mp h1 with e1 | h1
    · rcases List.mem_cons.mp h2 with e2 | h2
      · exact (ne (e1.trans e2.symm)).elim
      · rw [e1]; exact a _ h2
    · rcases List.mem_cons.mp h2 with e2 | h2
      · rw [e2]; exact (a _ h1).symm
      · exact ih b h1 h2
theorem low_top {ss : List SetE} {o : List Int} (hf : Full (ownF ss) (nOf ss) o) {L : List ((Exp × Int) × Nat)} (hL : L.Perm (pos (restsL ss) 0).zipIdx) (hw : L.Pairwise fun a b => lexI (entI b) (entI a) = false) :
    ∃ S, S <:+ o.reverse ∧ topN L L.length ≤ ((held (ownF ss) S).length : Int) := by
  rcases topN_att L L.length (Nat.le_refl _) with h | ⟨j, p, hj, hp, h⟩
  · exact ⟨[], List.nil_suffix, by rw [h]; omega⟩
  · have key := low_all (own := ownF ss) hf.val p.1.1.need
    have sub : ∀ q ∈ L, q.1 ∈ pos (restsL ss) 0 := fun q hq => by
      have := hL.mem_iff.mp hq
      exact List.fst_mem_of_mem_zipIdx (x := q) this
    have hm : 1 ≤ p.1.1.need := (mem_of_mem_offs (sub p (List.mem_of_getElem? hp))).2
    have ap : ((L.take (j + 1)).map Prod.fst).Pairwise Apart := by
      have h1 : (pos (restsL ss) 0).Pairwise Apart := offs_apart.sublist List.filter_sublist
      have h2 : (L.map Prod.fst).Perm (pos (restsL ss) 0) := by
        have := hL.map Prod.fst
        rw [List.zipIdx_map_fst] at this
        exact this
      have h3 : (L.map Prod.fst).Pairwise Apart := (h2.pairwise_iff (fun {x y} h => Apart.symm h)).mpr h1
      exact h3.sublist ((List.take_sublist _ _).map _)
    obtain ⟨S, s, l⟩ := key hm ((L.take (j + 1)).map Prod.fst) (by
      intro z
      have := congrArg List.length z
      rw [List.length_map, List.length_take, List.length_nil] at this
      omega) ap (fun q hq => by
      obtain ⟨t, ht, rfl⟩ := List.mem_map.mp hq
      have htL := List.mem_of_mem_take ht
      have hq0 := mem_of_mem_offs (sub t htL)
      have tr := ownF_tr ss _ hq0.1
      have ge := offs_ge hq0.1
      refine ⟨?_, tr, fun x hx => List.mem_reverse.mpr ((hf.mem x).mpr ?_), ?_⟩
      · -- those ahead need as many
        obtain ⟨i, hi, e⟩ := List.getElem_of_mem ht
        rw [List.length_take] at hi
        rw [List.getElem_take] at e
        by_cases z : i = j
        · subst z
          obtain ⟨_, e2⟩ := List.getElem?_eq_some_iff.mp hp
          rw [e2] at e; rw [e]; exact Nat.le_refl _
        · obtain ⟨h5, e2⟩ := List.getElem?_eq_some_iff.mp hp
          have := List.pairwise_iff_getElem.mp hw i j (by omega) h5 (by omega)
          rw [e, e2] at this
          exact lex_need this
      · unfold nOf
        omega
      · have cl : ∀ x ∈ o.reverse, inT t.1.2 t.1.1.cnt x = true → ∀ y ∈ ownF ss x, inT t.1.2 t.1.1.cnt y = true := fun x _ hT y hy => by
          have := inT_iff.mp hT
          have := own_sub t.1.1 t.1.2 tr x this.1 this.2 y hy
          exact inT_iff.mpr (by omega)
        refine ⟨cl, fun x hx hT y hy => ?_⟩
        have bx := (hf.mem x).mp (List.mem_reverse.mp hx)
        obtain ⟨r, hr, q1, q2⟩ := offs_in (es := restsL ss) (b := 0) bx.1 (by have := bx.2; unfold nOf at this; omega)
        have ne : t.1 ≠ r := fun z => by
          rw [← z] at q1 q2
          exact inT_no.mp hT ⟨q1, q2⟩
        have := own_sub r.1 r.2 (ownF_tr ss r hr) x q1 q2 y hy
        refine inT_no.mpr ?_
        rcases apart_of offs_apart hq0.1 hr ne with z | z <;> omega)
    refine ⟨S, s, ?_⟩
    rw [List.length_map, List.length_take] at l
    rw [h]
    omega

end J
namespace J
open PySem PySem.Spec PyProof.Rows L2
--plain
/-! ### the best order of all -/
def ordL (L : List ((Exp × Int) × Nat)) : List Int := L.flatMap fun p => p.1.1.ord p.1.2
theorem topN_app (L M : List ((Exp × Int) × Nat)) : ∀ k, k ≤ L.length → topN (L ++ M) k = topN L k
  | 0, _ => rfl
  | k + 1, h => by
    have e : needAt (L ++ M) k = needAt L k := by unfold needAt; rw [List.getElem?_append_left h]
    rw [topN, topN, topN_app L M k (by omega), e]
theorem topN_ge0 (L : List ((Exp × Int) × Nat)) : ∀ k, 0 ≤ topN L k
  | 0 => Int.le_refl _
  | k + 1 => by rw [topN]; have := topN_ge0 L k; omega
theorem ordL_snoc (L : List ((Exp × Int) × Nat)) (p : (Exp × Int) × Nat) : ordL (L ++ [p]) = ordL L ++ p.1.1.ord p.1.2 := by
  unfold ordL; rw [List.flatMap_append]; simp
theorem snoc_cases {α : Type} (l : List α) : l = [] ∨ ∃ m x, l = m ++ [x] := by
  cases h : l.reverse with
  | nil => exact .inl (List.reverse_eq_nil_iff.mp h)
  | cons x r => exact .inr ⟨r.reverse, x, by have := congrArg List.reverse h; rw [List.reverse_reverse, List.reverse_cons] at this; exact this⟩
theorem ordL_up {own : Int → List Int} : ∀ (n : Nat) (L : List ((Exp × Int) × Nat)), L.length = n → (∀ p ∈ L, 0 < p.1.1.cnt ∧ Tr own p.1.1 p.1.2) → (∀ k, sumO own ((ordL L).take k) ≤ topN L L.length) ∧ sumO own (ordL L) = L.length
  | 0, L, h, _ => by
    cases List.length_eq_zero_iff.mp h
    exact ⟨fun k => by simp [ordL, sumO, topN], by simp [ordL, sumO]⟩
  | n + 1, L, h, hp => by
    rcases snoc_cases L with rfl | ⟨M, p, rfl⟩
    · cases h
    · have hM : M.length = n := by rw [List.length_append, List.length_singleton] at h; omega
      obtain ⟨u1, u2⟩ := ordL_up n M hM (fun q hq => hp q (List.mem_append_left _ hq))
      obtain ⟨hc, ht⟩ := hp p (List.mem_append_right _ List.mem_cons_self)
      obtain ⟨v1, v2⟩ := ord_up p.1.1 p.1.2 ht
      have e1 : topN (M ++ [p]) (M ++ [p]).length = max (topN M M.length) ((M.length : Int) + (p.1.1.need : Nat)) := by
        rw [List.length_append, List.length_singleton, topN, topN_app _ _ _ (Nat.le_refl _)]
        congr 2
        unfold needAt
        rw [List.getElem?_append_right (Nat.le_refl _), Nat.sub_self]; rfl
      refine ⟨fun k => ?_, ?_⟩
      · rw [e1, ordL_snoc, List.take_append, sumO_app]
        by_cases z : k ≤ (ordL M).length
        · rw [show k - (ordL M).length = 0 by omega, List.take_zero]
          have := u1 k
          show _ + 0 ≤ _
          omega
        · rw [List.take_of_length_le (by omega), u2]
          have := v1 (k - (ordL M).length)
          omega
      · rw [ordL_snoc, sumO_app, u2, v2, if_neg (by omega), List.length_append, List.length_singleton]; omega
theorem ordL_mem (L : List ((Exp × Int) × Nat)) (x : Int) : x ∈ ordL L ↔ ∃ p ∈ L, p.1.2 ≤ x ∧ x < p.1.2 + p.1.1.cnt := by
  unfold ordL
  rw [List.mem_flatMap]
  constructor
  · rintro ⟨p, hp, h⟩; exact ⟨p, hp, (ord_mem _ _ _).mp h⟩
  · rintro ⟨p, hp, h⟩; exact ⟨p, hp, (ord_mem _ _ _).mpr h⟩
theorem ordL_val {own : Int → List Int} : ∀ (L : List ((Exp × Int) × Nat)), (∀ p ∈ L, Tr own p.1.1 p.1.2) → (L.map Prod.fst).Pairwise Apart → Val own (ordL L).reverse
  | [], _, _ => trivial
  | p :: L, ht, ha => by
    have e : ordL (p :: L) = p.1.1.ord p.1.2 ++ ordL L := by unfold ordL; rw [List.flatMap_cons]
    rw [List.map_cons] at ha
    obtain ⟨a1, a2⟩ := List.pairwise_cons.mp ha
    rw [e, List.reverse_append]
    refine val_cat (ord_val _ _ (ht p List.mem_cons_self)) (ordL_val L (fun q hq => ht q (List.mem_cons_of_mem _ hq)) a2) fun x hx hx' => ?_
    obtain ⟨q, hq, h1, h2⟩ := (ordL_mem L x).mp (List.mem_reverse.mp hx)
    have := (ord_mem _ _ _).mp (List.mem_reverse.mp hx')
    rcases a1 q.1 (List.mem_map.mpr ⟨q, hq, rfl⟩) with z | z <;> omega
theorem len_of_mem {l : List Int} {n : Nat} (nd : l.Nodup) (m : ∀ x, x ∈ l ↔ 0 ≤ x ∧ x < (n : Int)) : l.length = n := by
  have nr : ((List.range n).map (fun i : Nat => (i : Int))).Nodup := List.pairwise_map.mpr (List.nodup_range.imp fun h z => h (by omega))
  have mr : ∀ x, x ∈ (List.range n).map (fun i : Nat => (i : Int)) ↔ 0 ≤ x ∧ x < (n : Int) := fun x => by
    rw [List.mem_map]
    simp only [List.mem_range]
    constructor
    · rintro ⟨a, ha, rfl⟩; omega
    · rintro ⟨a, b⟩; exact ⟨x.toNat, by omega, by omega⟩
  have h := filter_cnt l ((List.range n).map (fun i : Nat => (i : Int))) nd nr (fun y hy => (mr y).mpr ((m y).mp hy))
  have e : ((List.range n).map (fun i : Nat => (i : Int))).filter (fun y => !decide (y ∈ l)) = [] := List.filter_eq_nil_iff.mpr fun x hx => by
    have := (m x).mpr ((mr x).mp hx)
    simp [this]
  rw [e, List.length_map, List.length_range] at h
  simpa using h
/-- the sorted entries -/
structure Srt (ss : List SetE) (L : List ((Exp × Int) × Nat)) : Prop where
  perm : L.Perm (pos (restsL ss) 0).zipIdx
  pw : L.Pairwise fun a b => lexI (entI b) (entI a) = false
theorem Srt.at {ss : List SetE} {L : List ((Exp × Int) × Nat)} (h : Srt ss L) {p : (Exp × Int) × Nat} (hp : p ∈ L) : p.1 ∈ offs (restsL ss) 0 ∧ 0 < p.1.1.cnt := by
  have := mem_of_mem_offs (List.fst_mem_of_mem_zipIdx (x := p) (h.perm.mem_iff.mp hp))
  exact ⟨this.1, (need_cnt _).mp this.2⟩
theorem Srt.apart {ss : List SetE} {L : List ((Exp × Int) × Nat)} (h : Srt ss L) : (L.map Prod.fst).Pairwise Apart := by
  have h1 : (pos (restsL ss) 0).Pairwise Apart := offs_apart.sublist List.filter_sublist
  have h2 : (L.map Prod.fst).Perm (pos (restsL ss) 0) := by
    have := h.perm.map Prod.fst
    rw [List.zipIdx_map_fst] at this
    exact this
  exact (h2.pairwise_iff (fun {x y} h => Apart.symm h)).mpr h1
theorem Srt.full {ss : List SetE} {L : List ((Exp × Int) × Nat)} (h : Srt ss L) : Full (ownF ss) (nOf ss) (ordL L) := by
  have v := ordL_val L (fun p hp => ownF_tr ss _ (h.at hp).1) h.apart
  have m : ∀ x, x ∈ ordL L ↔ 0 ≤ x ∧ x < nOf ss := fun x => by
    rw [ordL_mem]
    constructor
    · rintro ⟨p, hp, h1, h2⟩
      have := offs_ge (h.at hp).1
      unfold nOf; omega
    · rintro ⟨h1, h2⟩
      obtain ⟨p, hp, q1, q2⟩ := offs_in (es := restsL ss) (b := 0) h1 (by unfold nOf at h2; omega)
      have hpp : p ∈ pos (restsL ss) 0 := List.mem_filter.mpr ⟨hp, by have := (need_cnt p.1).mpr (by omega); simpa using this⟩
      obtain ⟨i, hi⟩ := List.getElem?_of_mem hpp
      have hz : (p, i) ∈ (pos (restsL ss) 0).zipIdx := List.mem_zipIdx_iff_getElem?.mpr hi
      exact ⟨(p, i), h.perm.mem_iff.mpr hz, q1, q2⟩
  exact ⟨v, m, by
    have := len_of_mem (rev_nodup (val_nodup v)) m
    unfold nOf; omega⟩
theorem Srt.up {ss : List SetE} {L : List ((Exp × Int) × Nat)} (h : Srt ss L) (k : Nat) : sumO (ownF ss) ((ordL L).take k) ≤ topN L L.length :=
  (ordL_up L.length L rfl fun p hp => ⟨(h.at hp).2, ownF_tr ss _ (h.at hp).1⟩).1 k
theorem sumO_snoc (own : Int → List Int) (l : List Int) (x : Int) : sumO own (l ++ [x]) = sumO own l + 1 - (own x).length := by
  rw [sumO_app]; show _ + (1 - _ + 0) = _; omega
/-! needs, part by part -/
def Exp.nds : Exp → List Nat
  | .num _ => []
  | .fld _ => []
  | .plc _ _ => [1]
  | .mrk _ _ => [1]
  | .cell a => a.nds ++ [(Exp.cell a).need]
  | .two o a c => a.nds ++ c.nds ++ [(Exp.two o a c).need]
theorem nds_len : ∀ e : Exp, e.nds.length = e.cnt
  | .num _ | .fld _ | .plc _ _ | .mrk _ _ => rfl
  | .cell a => by simp [Exp.nds, Exp.cnt, nds_len a]
  | .two _ a c => by simp [Exp.nds, Exp.cnt, nds_len a, nds_len c]; omega
def ndsL (es : List Exp) : List Nat := es.flatMap Exp.nds
theorem ndsL_len : ∀ es : List Exp, (ndsL es).length = cnts es
  | [] => rfl
  | e :: es => by rw [ndsL, List.flatMap_cons, List.length_append, nds_len, cnts, ← ndsL_len es]; rfl
def nedF (ss : List SetE) (x : Int) : Nat := (ndsL (restsL ss)).getD x.toNat 0
/-- nd tells the needs from b on -/
def Nd (nd : Int → Nat) (e : Exp) (b : Int) : Prop := ∀ (i : Nat) (m : Nat), e.nds[i]? = some m → nd (b + i) = m
theorem nd_cell {nd : Int → Nat} {a : Exp} {b : Int} (h : Nd nd (.cell a) b) : Nd nd a b ∧ nd (b + a.cnt) = (Exp.cell a).need := by
  refine ⟨fun i m hi => h i m ?_, h a.cnt _ ?_⟩
  · rw [Exp.nds, List.getElem?_append_left (List.getElem?_eq_some_iff.mp hi).1]; exact hi
  · rw [Exp.nds, List.getElem?_append_right (by rw [nds_len]; exact Nat.le_refl _), nds_len, Nat.sub_self]; rfl
theorem nd_two {nd : Int → Nat} {o : Str} {a c : Exp} {b : Int} (h : Nd nd (.two o a c) b) : Nd nd a b ∧ Nd nd c (b + a.cnt) ∧ nd (b + a.cnt + c.cnt) = (Exp.two o a c).need := by
  refine ⟨fun i m hi => h i m ?_, fun i m hi => ?_, ?_⟩
  · have := (List.getElem?_eq_some_iff.mp hi).1
    rw [Exp.nds, List.append_assoc, List.getElem?_append_left this]; exact hi
  · have hl := (List.getElem?_eq_some_iff.mp hi).1
    have := h (a.cnt + i) m (by
      rw [Exp.nds, List.append_assoc, List.getElem?_append_right (by rw [nds_len]; omega), nds_len, Nat.add_sub_cancel_left, List.getElem?_append_left hl]; exact hi)
    rw [← this]; congr 1; omega
  · have := h (a.cnt + c.cnt) (Exp.two o a c).need (by
      rw [Exp.nds, List.getElem?_append_right (by rw [List.length_append, nds_len, nds_len]; exact Nat.le_refl _), List.length_append, nds_len, nds_len, Nat.sub_self]; rfl)
    rw [← this]; congr 1; omega
theorem nd_root {nd : Int → Nat} {e : Exp} {b : Int} (h : Nd nd e b) (hc : 0 < e.cnt) : nd (b + e.cnt - 1) = e.need := by
  cases e with
  | num => simp [Exp.cnt] at hc
  | fld => simp [Exp.cnt] at hc
  | plc k n =>
    have := h 0 1 rfl
    show nd (b + ((1 : Nat) : Int) - 1) = 1
    rw [show b + ((1 : Nat) : Int) - 1 = b + ((0 : Nat) : Int) by omega]
    exact this
  | mrk k n =>
    have := h 0 1 rfl
    show nd (b + ((1 : Nat) : Int) - 1) = 1
    rw [show b + ((1 : Nat) : Int) - 1 = b + ((0 : Nat) : Int) by omega]
    exact this
  | cell a =>
    have := (nd_cell h).2
    rw [← this]; congr 1; simp [Exp.cnt]; omega
  | two o a c =>
    have := (nd_two h).2.2
    rw [← this]; congr 1; simp [Exp.cnt]; omega
theorem ndsL_nd {es : List Exp} {b : Int} {nd : Int → Nat} (h : ∀ (i m : Nat), (ndsL es)[i]? = some m → nd (b + i) = m) : ∀ p ∈ offs es b, Nd nd p.1 p.2 := by
  induction es generalizing b with
  | nil => intro p hp; exact (List.not_mem_nil hp).elim
  | cons e es ih =>
    have e0 : ndsL (e :: es) = e.nds ++ ndsL es := List.flatMap_cons
    intro p hp
    rcases List.mem_cons.mp hp with rfl | hp
    · intro i m hi
      exact h i m (by rw [e0, List.getElem?_append_left (List.getElem?_eq_some_iff.mp hi).1]; exact hi)
    · refine ih (fun i m hi => ?_) p hp
      have := h (e.cnt + i) m (by rw [e0, List.getElem?_append_right (by rw [nds_len]; omega), nds_len, Nat.add_sub_cancel_left]; exact hi)
      rw [← this]; congr 1; omega
theorem nedF_nd (ss : List SetE) : ∀ p ∈ offs (restsL ss) 0, Nd (nedF ss) p.1 p.2 := by
  refine ndsL_nd fun i m hi => ?_
  unfold nedF
  rw [Int.zero_add, Int.toNat_natCast, List.getD_eq_getElem?_getD, hi]; rfl
/-- what a row needs, by those ahead -/
def valD (nd : Int → Nat) (d : PyData) : Nat := match intD d with
  | some j => nd j
  | none => 0
def rowN (nd : Int → Nat) : PyData → Nat
  | .tuple (_ :: items) => match items.map (valD nd) with
    | [x, y] => if x = y ∧ 0 < x then x + 1 else max 1 (max x y)
    | [x] => max 1 x
    | _ => 1
  | _ => 1
theorem valD_part {nd : Int → Nat} {e : Exp} {ps : List PyData} (h : Nd nd e ps.length) : valD nd (e.part ps).1 = e.need := by
  by_cases c : 0 < e.cnt
  · rw [part_rt c]; exact nd_root h c
  · have := need_cnt e
    cases e with
    | num => rfl
    | fld => rfl
    | plc => simp [Exp.cnt] at c
    | mrk => simp [Exp.cnt] at c
    | cell => simp [Exp.cnt] at c
    | two => simp [Exp.cnt] at c
theorem part_keep : ∀ (e : Exp) (qs : List PyData) (j : Nat), j < qs.length → (e.part qs).2[j]? = qs[j]? := fun e => by
  induction e with
  | num => intro qs j _; rfl
  | fld => intro qs j _; rfl
  | plc k n => intro qs j hj; simp only [Exp.part]; rw [List.getElem?_append_left hj]
  | mrk k n => intro qs j hj; simp only [Exp.part]; rw [List.getElem?_append_left hj]
  | cell a ih => intro qs j hj; simp only [Exp.part]; rw [List.getElem?_append_left (by rw [a.part_len]; omega), ih _ _ hj]
  | two o a c iha ihc => intro qs j hj; simp only [Exp.part]; rw [List.getElem?_append_left (by rw [c.part_len, a.part_len]; omega), ihc _ _ (by rw [a.part_len]; omega), iha _ _ hj]
theorem parts_keep : ∀ (es : List Exp) (qs : List PyData) (j : Nat), j < qs.length → (parts es qs).2[j]? = qs[j]?
  | [], _, _, _ => rfl
  | e :: es, qs, j, h => by rw [parts, parts_keep es _ _ (by rw [e.part_len]; omega), part_keep e _ _ h]
theorem rowN_part {nd : Int → Nat} : ∀ (e : Exp) (ps : List PyData), Nd nd e ps.length → ∀ (i m : Nat) (d : PyData), e.nds[i]? = some m → (e.part ps).2[ps.length + i]? = some d → rowN nd d = m
  | .num _, _, _, i, m, d, h, _ => by simp [Exp.nds] at h
  | .fld _, _, _, i, m, d, h, _ => by simp [Exp.nds] at h
  | .plc k n, ps, _, i, m, d, h, g => by
    cases i with
    | zero =>
      simp only [Exp.part, Nat.add_zero] at g
      rw [List.getElem?_append_right (Nat.le_refl _), Nat.sub_self] at g
      cases Option.some.inj g
      cases Option.some.inj h
      rfl
    | succ i => simp [Exp.nds] at h
  | .mrk k n, ps, _, i, m, d, h, g => by
    cases i with
    | zero =>
      simp only [Exp.part, Nat.add_zero] at g
      rw [List.getElem?_append_right (Nat.le_refl _), Nat.sub_self] at g
      cases Option.some.inj g
      cases Option.some.inj h
      rfl
    | succ i => simp [Exp.nds] at h
  | .cell a, ps, hn, i, m, d, h, g => by
    obtain ⟨na, nr⟩ := nd_cell hn
    have l := a.part_len ps
    rw [Exp.nds] at h
    rw [Exp.part] at g
    by_cases z : i < a.cnt
    · rw [List.getElem?_append_left (by rw [nds_len]; exact z)] at h
      rw [List.getElem?_append_left (by rw [l]; omega)] at g
      exact rowN_part a ps na i m d h g
    · have hi := (List.getElem?_eq_some_iff.mp h).1
      rw [List.length_append, nds_len, List.length_singleton] at hi
      have e : i = a.cnt := by omega
      subst e
      rw [List.getElem?_append_right (by rw [nds_len]; exact Nat.le_refl _), nds_len, Nat.sub_self] at h
      rw [List.getElem?_append_right (by rw [l]; exact Nat.le_refl _), l, Nat.sub_self] at g
      cases Option.some.inj g
      cases Option.some.inj h
      show max 1 (valD nd (a.part ps).1) = _
      rw [valD_part na]; rfl
  | .two o a c, ps, hn, i, m, d, h, g => by
    obtain ⟨na, nc, nr⟩ := nd_two hn
    have l := a.part_len ps
    have l2 := c.part_len (a.part ps).2
    have nc' : Nd nd c (a.part ps).2.length := by rw [l]; have e : ((ps.length + a.cnt : Nat) : Int) = (ps.length : Int) + a.cnt := by omega
                                                  rw [e]; exact nc
    rw [Exp.nds] at h
    rw [Exp.part] at g
    by_cases z : i < a.cnt
    · rw [List.append_assoc, List.getElem?_append_left (by rw [nds_len]; exact z)] at h
      rw [List.getElem?_append_left (by rw [l2, l]; omega)] at g
      rw [part_keep c _ _ (by rw [l]; omega)] at g
      exact rowN_part a ps na i m d h g
    · by_cases z2 : i < a.cnt + c.cnt
      · rw [List.getElem?_append_left (by rw [List.length_append, nds_len, nds_len]; exact z2), List.getElem?_append_right (by rw [nds_len]; omega), nds_len] at h
        rw [List.getElem?_append_left (by rw [l2, l]; omega)] at g
        refine rowN_part c (a.part ps).2 nc' (i - a.cnt) m d h ?_
        rw [l, show ps.length + a.cnt + (i - a.cnt) = ps.length + i by omega]; exact g
      · have hi := (List.getElem?_eq_some_iff.mp h).1
        rw [List.length_append, List.length_append, nds_len, nds_len, List.length_singleton] at hi
        have e : i = a.cnt + c.cnt := by omega
        subst e
        rw [List.getElem?_append_right (by rw [List.length_append, nds_len, nds_len]; exact Nat.le_refl _), List.length_append, nds_len, nds_len, Nat.sub_self] at h
        rw [List.getElem?_append_right (by rw [l2, l]; omega), l2, l, show ps.length + (a.cnt + c.cnt) - (ps.length + a.cnt + c.cnt) = 0 by omega] at g
        cases Option.some.inj g
        cases Option.some.inj h
        show (if valD nd (a.part ps).1 = valD nd (c.part (a.part ps).2).1 ∧ 0 < valD nd (a.part ps).1 then valD nd (a.part ps).1 + 1 else max 1 (max (valD nd (a.part ps).1) (valD nd (c.part (a.part ps).2).1))) = _
        rw [valD_part na, valD_part nc']; rfl
theorem rowN_parts {nd : Int → Nat} : ∀ (es : List Exp) (ps : List PyData), (∀ p ∈ offs es ps.length, Nd nd p.1 p.2) → ∀ (i m : Nat) (d : PyData), (ndsL es)[i]? = some m → (parts es ps).2[ps.length + i]? = some d → rowN nd d = m
  | [], _, _, i, m, d, h, _ => by simp [ndsL] at h
  | e :: es, ps, hn, i, m, d, h, g => by
    have e0 : ndsL (e :: es) = e.nds ++ ndsL es := List.flatMap_cons
    have l := e.part_len ps
    rw [e0] at h
    rw [parts] at g
    by_cases z : i < e.cnt
    · rw [List.getElem?_append_left (by rw [nds_len]; exact z)] at h
      rw [parts_keep es _ _ (by rw [l]; omega)] at g
      exact rowN_part e ps (hn (e, ps.length) List.mem_cons_self) i m d h g
    · rw [List.getElem?_append_right (by rw [nds_len]; omega), nds_len] at h
      refine rowN_parts es (e.part ps).2 (fun p hp => hn p (List.mem_cons_of_mem _ ?_)) (i - e.cnt) m d h ?_
      · rw [l] at hp
        have e : ((ps.length + e.cnt : Nat) : Int) = (ps.length : Int) + e.cnt := by omega
        rw [← e]; exact hp
      · rw [l, show ps.length + e.cnt + (i - e.cnt) = ps.length + i by omega]; exact g
theorem parts_app2 : ∀ (es fs : List Exp) (ps : List PyData), (parts (es ++ fs) ps).2 = (parts fs (parts es ps).2).2
  | [], _, _ => rfl
  | e :: es, fs, ps => by rw [List.cons_append, parts, parts_app2 es fs]; rfl
theorem proots_parts : ∀ (ss : List SetE) (ps : List PyData), (proots ss ps).2 = (parts (restsL ss) ps).2
  | [], _ => rfl
  | s :: ss, ps => by
    have e : restsL (s :: ss) = s.rests ++ restsL ss := List.flatMap_cons
    rw [proots, e, parts_app2, ← proots_parts ss]
theorem rowN_all {ss : List SetE} {i : Nat} {d : PyData} (h : (proots ss []).2[i]? = some d) : rowN (nedF ss) d = nedF ss i := by
  have hl := (List.getElem?_eq_some_iff.mp h).1
  rw [proots_cnt, ← ndsL_len] at hl
  have hm : (ndsL (restsL ss))[i]? = some (nedF ss i) := by
    unfold nedF
    rw [Int.toNat_natCast, List.getD_eq_getElem?_getD, List.getElem?_eq_getElem hl]; rfl
  rw [proots_parts] at h
  exact rowN_parts (restsL ss) [] (nedF_nd ss) i _ d hm (by rw [List.length_nil, Nat.zero_add]; exact h)

end J
namespace J
open PySem PySem.Spec PyProof.Rows L2
local macro_rules | `(tactic| walk_at "cls") => `(tactic| first
  | with_reducible exact Facts.cl_Step
  | with_reducible exact Facts.cl_Get
  | with_reducible exact Facts.cl_Ask
  | with_reducible exact Facts.cl_Cell
  | with_reducible exact Facts.cl_Two
  | with_reducible exact Facts.cl_Put
  | with_reducible exact Facts.cl_Tell
  | with_reducible exact Facts.cl_Store
  | with_reducible exact Facts.cl_Parts
  | with_reducible exact Facts.cl_Order)
local macro_rules | `(tactic| walk_at "na") => `(tactic| first
  | with_reducible exact Facts.na_Get_to
  | with_reducible exact Facts.na_Get_sel
  | with_reducible exact Facts.na_Ask_to
  | with_reducible exact Facts.na_Ask_sel
  | with_reducible exact Facts.na_Cell_to
  | with_reducible exact Facts.na_Cell_source
  | with_reducible exact Facts.na_Two_to
  | with_reducible exact Facts.na_Two_op
  | with_reducible exact Facts.na_Two_one
  | with_reducible exact Facts.na_Two_other
  | with_reducible exact Facts.na_Put_sel
  | with_reducible exact Facts.na_Put_source
  | with_reducible exact Facts.na_Tell_sel
  | with_reducible exact Facts.na_Tell_source
  | with_reducible exact Facts.na_Store_at
  | with_reducible exact Facts.na_Store_source
  | with_reducible exact Facts.na_Parts_rows
  | with_reducible exact Facts.na_Order_parts
  | with_reducible exact Facts.na_Order_order
  | with_reducible exact Facts.na_Order_needed)
local macro_rules | `(tactic| walk_at "ty") => `(tactic| first
  | with_reducible exact ty_int
  | with_reducible exact ty_bl
  | with_reducible exact ty_str
  | with_reducible exact ty_non
  | ((with_reducible refine' ty_lst ?vv); (case vv => walk_at "tr"))
  | ((with_reducible refine' ty_sqT ?vv); (case vv => walk_at "tr"))
  | ((with_reducible refine' ty_dic ?vv); (case vv => walk_at "tr")))
local macro_rules | `(tactic| walk_at "ix") => `(tactic| first | exact at0 | exact at1 | exact at2 | assumption)
local macro_rules | `(tactic| walk_at "size") => `(tactic| first
  | assumption
  | (show _ < sizeLine; rw [sizeLine_eq]; (try simp only [List.length_cons, List.length_nil, List.length_append, List.length_map]); omega)
  | (show _ ≤ sizeLine; rw [sizeLine_eq]; (try simp only [List.length_cons, List.length_nil, List.length_append, List.length_map]); omega))
local macro_rules | `(tactic| walk_at "side") => `(tactic| first
  | assumption
  | ((with_reducible refine cdw ?_ ?_) <;> omega)
  | omega
  | (exact ⟨by omega, by omega⟩)
  | (exact Or.inl ⟨by omega, by omega⟩)
  | (exact Or.inr ⟨by omega, by omega⟩)
  | decide
  | (simp only [List.length_cons, List.length_nil, List.length_append, List.length_map]; omega)
  | (show _ ≤ _; decide))
local macro_rules | `(tactic| walk_at "as") => `(tactic| with_reducible assumption)
local macro_rules | `(tactic| walk_at "tr") => `(tactic| first
  | with_reducible assumption
  | with_reducible exact upd_same
  | ((with_reducible refine' SqL.of ?hh); (case hh => walk_at "as"))
  | ((with_reducible refine' SqT.of ?hh); (case hh => walk_at "as"))
  | ((with_reducible refine' Same.stm ?ee ?gg); (case ee => walk_at "as"); (case gg => walk_at "tr"))
  | ((with_reducible refine' Same.sqT ?ee ?gg); (case ee => walk_at "as"); (case gg => walk_at "tr"))
  | ((with_reducible refine' Same.sqL ?ee ?gg); (case ee => walk_at "as"); (case gg => walk_at "tr"))
  | ((with_reducible refine' Same.at ?ee ?gg); (case ee => walk_at "as"); (case gg => walk_at "tr"))
  | ((with_reducible refine' But.stm ?ee ?ff ?gg); (case ee => walk_at "as"); (case ff => walk_at "ne"); (case gg => walk_at "tr"))
  | ((with_reducible refine' But.tup ?ee ?ff ?gg); (case ee => walk_at "as"); (case ff => walk_at "tr1"); (case gg => walk_at "tr"))
  | ((with_reducible refine' But.sqT ?ee ?ff ?gg); (case ee => walk_at "as"); (case ff => walk_at "tr1"); (case gg => walk_at "tr"))
  | ((with_reducible refine' But.tupL ?ee ?ff ?gg); (case ee => walk_at "as"); (case ff => walk_at "tr1"); (case gg => walk_at "tr"))
  | ((with_reducible refine' But.sqTL ?ee ?ff ?gg); (case ee => walk_at "as"); (case ff => walk_at "tr1"); (case gg => walk_at "tr"))
  | ((with_reducible refine' But.sqL ?ee ?ff ?gg); (case ee => walk_at "as"); (case ff => walk_at "ne"); (case gg => walk_at "tr"))
  | ((with_reducible refine' But.at ?ee ?ff ?gg); (case ee => walk_at "as"); (case ff => walk_at "ne"); (case gg => walk_at "tr")))
local macro_rules | `(tactic| walk_at "ts") => `(tactic| first
  | with_reducible assumption
  | with_reducible exact TS.refl _
  | ((with_reducible refine' TS.trans ?gg (TS.of ?ee)); (case ee => walk_at "as"); (case gg => walk_at "ts"))
  | ((with_reducible refine' TS.trans ?gg (TS.butS ?ee ?ff)); (case ee => walk_at "as"); (case ff => walk_at "tr1"); (case gg => walk_at "ts"))
  | ((with_reducible refine' TS.trans ?gg (TS.butL ?ee ?ff)); (case ee => walk_at "as"); (case ff => walk_at "tr1"); (case gg => walk_at "ts"))
  | ((with_reducible refine' TS.trans ?gg (TS.butI ?ee ?ff)); (case ee => walk_at "as"); (case ff => walk_at "tr1"); (case gg => walk_at "ts")))
local macro_rules | `(tactic| walk_at "sm") => `(tactic| first
  | with_reducible assumption
  | with_reducible exact Same.refl _
  | ((with_reducible refine' Same.trans ?gg ?ee); (case ee => walk_at "as"); (case gg => walk_at "sm"))
  | ((with_reducible refine' But.new ?gg ?nn ?ee); (case ee => walk_at "as"); (case nn => walk_at "fr"); (case gg => walk_at "sm")))
local macro_rules | `(tactic| walk_at "fr") => `(tactic| first
  | with_reducible assumption
  | ((with_reducible refine' Same.back ?ee ?nn); (case nn => walk_at "as"); (case ee => walk_at "sm"))
  | ((with_reducible refine' But.back ?ee ?ff ?nn); (case nn => walk_at "as"); (case ff => walk_at "ne0"); (case ee => walk_at "bu")))
local macro_rules | `(tactic| walk_at "bu") => `(tactic| first
  | with_reducible assumption
  | with_reducible exact But.refl _ _
  | ((with_reducible refine' But.trans ?gg ?ee); (case ee => walk_at "as"); (case gg => walk_at "bu"))
  | ((with_reducible refine' But.trans ?gg (But.of ?ee)); (case ee => walk_at "as"); (case gg => walk_at "bu"))
  | ((with_reducible refine' But.new2 ?gg ?nn ?ee); (case ee => walk_at "as"); (case nn => walk_at "frB"); (case gg => walk_at "bu")))
local macro_rules | `(tactic| walk_at "frB") => `(tactic| first
  | with_reducible assumption
  | ((with_reducible refine' Same.back ?ee ?nn); (case nn => walk_at "as"); (case ee => walk_at "sm"))
  | ((with_reducible refine' But.back' ?ee ?ff ?nn); (case nn => walk_at "as"); (case ee => walk_at "bu"); (case ff => walk_at "tr1")))
local macro_rules | `(tactic| walk_at "tr1") => `(tactic| first
  | with_reducible assumption
  | ((with_reducible refine' Same.stm ?ee ?gg); (case ee => walk_at "as"); (case gg => walk_at "tr1"))
  | ((with_reducible refine' Same.at ?ee ?gg); (case ee => walk_at "as"); (case gg => walk_at "tr1"))
  | ((with_reducible refine' But.at ?ee ?ff ?gg); (case ee => walk_at "as"); (case ff => walk_at "ne0"); (case gg => walk_at "tr1"))
  | ((with_reducible refine' But.stm ?ee ?ff ?gg); (case ee => walk_at "as"); (case ff => walk_at "ne0"); (case gg => walk_at "tr1")))
local macro_rules | `(tactic| walk_at "ne0") => `(tactic| first
  | with_reducible assumption
  | (with_reducible apply Ne.symm; with_reducible assumption))
local macro_rules | `(tactic| walk_at "ne") => `(tactic| first
  | with_reducible assumption
  | (with_reducible apply Ne.symm; with_reducible assumption)
  | ((with_reducible refine' stm_ne ?hh ?nn); (case nn => walk_at "as"); (case hh => walk_at "tr1"))
  | ((with_reducible refine' ne_of_none ?hh ?nn); (case nn => walk_at "as"); (case hh => walk_at "tr1"))
  | ((with_reducible apply Ne.symm); (with_reducible refine' ne_of_none ?hh ?nn); (case nn => walk_at "as"); (case hh => walk_at "tr1")))
local macro_rules | `(tactic| walk_at "v") => `(tactic| first
  | with_reducible refine w_seq ?_
  | ((with_reducible refine' w_var ?vv ?_); (case vv => exact rfl))
  | with_reducible refine w_c ?_
  | with_reducible refine w_op ?_
  | with_reducible refine w_asg ?_
  | with_reducible refine w_gName ?_
  | with_reducible refine w_ret ?_
  | with_reducible refine w_ifS ?_
  | with_reducible refine w_drop ?_
  | with_reducible refine w_next ?_
  | with_reducible refine w_cons ?_
  | with_reducible refine w_nil ?_
  | with_reducible refine w_call ?_
  | with_reducible refine w_cb ?_
  | with_reducible refine w_rI0 ?_
  | with_reducible refine w_addI ?_
  | with_reducible refine w_eqI ?_
  | with_reducible refine w_neI ?_
  | with_reducible refine w_eqS ?_
  | with_reducible refine w_neS ?_
  | with_reducible refine w_eqB ?_
  | with_reducible refine w_neB ?_
  | with_reducible refine w_chain ?_
  | with_reducible refine w_test ?_
  | with_reducible refine w_tB ?_
  | with_reducible refine w_bl ?_
  | ((with_reducible refine' w_mulI ?vv ?_); (case vv => walk_at "side"))
  | ((with_reducible refine' w_rI ?vv ?_); (case vv => walk_at "side"))
  | with_reducible refine w_int1 ?_
  | with_reducible refine w_int1b ?_
  | with_reducible refine w_tup ?_
  | with_reducible refine w_lst ?_
  | with_reducible refine w_un ?_
  | with_reducible refine w_rU ?_
  | with_reducible refine w_not ?_
  | with_reducible refine w_notV ?_
  | with_reducible refine w_ifE ?_
  | with_reducible refine w_nT ?_
  | with_reducible refine w_nF ?_
  | with_reducible refine iteT ?_
  | with_reducible refine iteF ?_
  | ((with_reducible refine' w_ixT ?vv ?ww ?_); (case vv => walk_at "tr"); (case ww => walk_at "ix"))
  | ((with_reducible refine' w_ixL ?vv ?ww ?_); (case vv => walk_at "tr"); (case ww => walk_at "ix"))
  | with_reducible refine w_gSub ?_
  | ((with_reducible refine' w_setL ?vv ?ww ?_); (case vv => walk_at "tr"); (case ww => first | rfl | decide | assumption))
  | ((with_reducible refine' w_lenL ?vv ?_); (case vv => walk_at "tr"))
  | ((with_reducible refine' w_lenT ?vv ?_); (case vv => walk_at "tr"))
  | with_reducible refine w_max2 ?_
  | with_reducible refine w_max3 ?_
  | with_reducible refine w_din ?_
  | with_reducible refine w_dnotin ?_
  | with_reducible refine w_dput ?_
  | with_reducible refine w_min2 ?_
  | with_reducible refine w_bm ?_
  | with_reducible refine w_bm0 ?_
  | ((with_reducible refine' w_tyL ?vv ?_); (case vv => walk_at "tr"))
  | ((with_reducible refine' w_append ?vv ?ww ?_); (case vv => walk_at "tr"); (case ww => walk_at "size"))
  | ((with_reducible refine' w_size ?vv ?_); (case vv => walk_at "size"))
  | with_reducible refine w_forL ?_
  | with_reducible refine w_forT ?_
  | with_reducible refine w_forR1 ?_
  | with_reducible refine w_forR2 ?_
  | with_reducible refine w_lcL ?_
  | with_reducible refine w_lcT ?_
  | with_reducible refine w_lcR1 ?_
  | with_reducible refine w_yes ?_
  | with_reducible refine w_sl ?_
  | with_reducible refine w_noPart ?_
  | with_reducible refine w_part ?_
  | with_reducible refine w_int ?_
  | ((with_reducible refine' w_slL ?vv ?_); (case vv => walk_at "tr"))
  | ((with_reducible refine' w_seqL ?vv ?ww ?_); (case vv => walk_at "tr"); (case ww => rfl))
  | ((with_reducible refine' w_seqT ?vv ?ww ?_); (case vv => walk_at "tr"); (case ww => rfl))
  | with_reducible refine w_gNil ?_
  | with_reducible refine w_gCons ?_
  | with_reducible refine w_forZ ?_
  | with_reducible refine w_forM ?_
  | with_reducible refine w_forE ?_
  | with_reducible refine w_forV ?_
  | with_reducible refine w_lcZ ?_
  | with_reducible refine w_lcE ?_
  | ((with_reducible refine' w_isi (b := true) ?vv ?ww ?_); (case vv => walk_at "ty"); (case ww => decide +kernel))
  | ((with_reducible refine' w_isi (b := false) ?vv ?ww ?_); (case vv => walk_at "ty"); (case ww => decide +kernel))
  | with_reducible refine w_revL ?_
  | with_reducible refine w_pairN ?_
  | with_reducible refine w_pairC ?_
  | with_reducible refine w_dget ?_
  | with_reducible refine w_met ?_
  | ((with_reducible refine' w_metAt ?vv ?ww ?_); (case vv => walk_at "tr"); (case ww => rfl))
  | with_reducible refine w_mkI ?_
  | with_reducible refine w_fld ?_
  | ((with_reducible refine' w_fldAt ?vv ?cc ?nn ?ww ?_); (case vv => walk_at "tr"); (case cc => walk_at "cls"); (case nn => walk_at "na"); (case ww => rfl))
  | with_reducible refine w_sfld ?_
  | ((with_reducible refine' w_sfldAt ?vv ?cc ?nn ?ll ?ee ?_); (case vv => walk_at "tr"); (case cc => walk_at "cls"); (case nn => walk_at "na"); (case ll => simp); (case ee => rfl))
  | ((with_reducible refine' w_tupL ?vv ?_); (case vv => walk_at "tr"))
  | ((with_reducible refine' w_tupT ?vv ?_); (case vv => walk_at "tr"))
  | ((with_reducible refine' w_listL ?vv ?_); (case vv => walk_at "tr"))
  | ((with_reducible refine' w_listT ?vv ?_); (case vv => walk_at "tr"))
  | with_reducible refine w_tyS ?_
  | with_reducible refine w_retN ?_
  | with_reducible refine w_break ?_
  | with_reducible refine w_cont ?_)
local macro_rules | `(tactic| walk_at "w") => `(tactic| first
  | walk_at "v"
  | with_reducible refine w_or ?_
  | with_reducible refine w_and ?_
  | with_reducible refine w_andV ?_
  | with_reducible refine w_orV ?_)
local macro_rules | `(tactic| walk_at "wd") => `(tactic| first
  | walk_at "w"
  | ((with_reducible refine' w_decT ?vv ?_); (case vv => decide +kernel))
  | ((with_reducible refine' w_decF ?vv ?_); (case vv => decide +kernel)))
local macro_rules | `(tactic| walk_at "tz") => `(tactic| (intro S z; (repeat walk_at "w"); exact z))
local macro_rules | `(tactic| walk_at "wf") => `(tactic| first
  | walk_at "wd"
  | ((with_reducible refine' w_decF ?vv ?_); (case vv => with_reducible assumption)))
/-! ### the class Order -/
def flds (l ol nl : Addr) : List (Str × V) := [("parts", .ref l), ("order", .ref ol), ("needed", .ref nl)]
def natV (xs : List Nat) : List V := xs.map fun m : Nat => V.int (m : Int)
theorem natV_at {xs : List Nat} {j : Int} {m : Nat} (h0 : 0 ≤ j) (h : xs[j.toNat]? = some m) : atI (natV xs) j = some (.int (m : Int)) := atI_of h0 (by unfold natV; rw [List.getElem?_map, h]; rfl)
theorem natV_len (xs : List Nat) : (natV xs).length = xs.length := by unfold natV; rw [List.length_map]
def spNeedAt (K : PySem.W.Frag) (C : Addr) : Sp := fun vs H Q _ => ∃ p dx l ol nl xs v, vs = [.ref p, v] ∧ H p = some (.ins C dx (flds l ol nl)) ∧ H nl = some (.lst (natV xs)) ∧
  ((∃ j m, v = .int j ∧ 0 ≤ j ∧ xs[j.toNat]? = some m ∧ Q (.int (m : Nat)) H) ∨ ((∃ z, v = .str z) ∨ ∃ a us, v = .ref a ∧ SqT K H a us) ∧ Q (.int 0) H)
theorem len_Order_need_at {K : PySem.W.Frag} {C : Addr} {vs H Q E} (h : spNeedAt K C vs H Q E) : vs.length = 2 := by obtain ⟨_, _, _, _, _, _, _, rfl, _⟩ := h; rfl
def spNeedOf (K : PySem.W.Frag) (C : Addr) : Sp := fun vs H Q _ => ∃ p dx l ol nl xs v d nd, vs = [.ref p, v] ∧ H p = some (.ins C dx (flds l ol nl)) ∧ H nl = some (.lst (natV xs)) ∧ Dp K H v d ∧ PRow d ∧ (∀ j ∈ ownD d, 0 ≤ j ∧ xs[j.toNat]? = some (nd j)) ∧ ∀ H', Same H H' → Q (.int (rowN nd d : Nat)) H'
theorem len_Order_need_of {K : PySem.W.Frag} {C : Addr} {vs H Q E} (h : spNeedOf K C vs H Q E) : vs.length = 2 := by obtain ⟨_, _, _, _, _, _, _, _, _, rfl, _⟩ := h; rfl
section
variable {P : Program} {w : World} {K : PySem.W.Frag} {mg : Str → Option Value}
theorem ok_Order_need_at [c : Facts K mg] {f : Addr} {fd : FuncData} (F : FunD K "need_at" "Order.need_at" (defArgs s_Order_need_at) (defBody s_Order_need_at) (defScope s_Order_need_at) [] [] f fd) : FnA P w K mg f 1 ["self", "one"] ((spNeedAt K (He.ga K "Order"))) := by
  refine FnA.mk' F sc_Order_need_at (k := 0) (fun vs H Q E h => ?_) (fun _ _ _ _ _ _ us hl => match us, hl with | [_, _], _ => rfl) (fun base cdv A outer s H vs Q E hr h => ?_)
  · exact len_Order_need_at h
  · have nd := sc_Order_need_at.nd
    have hu := hu_of hr
    refine ⟨_, (pss_cons (ps_if (pt_val (pe_callB (call_isiA (K := K) rfl) (by rfl) c.f_isinstance boot_isinstance (pa_cons (pv 1) (pa_cons (pe_bltn (v := .ty "int") (by rfl) c.f_int boot_int rfl) pa_nil)))) (pss_one (ps_ret (pe_ix (ix_any (K := K) rfl) (pe_fldK (K := K) rfl (pv 0)) (pv 1) (fun _ _ => rfl)))) pss_nil)
      (pss_one (ps_ret pe_int))), ?_⟩
    try dsimp only [cxOf, Cx.nox, Cx.wish]
    obtain ⟨p, dx, l, ol, nl, xs, v, rfl, hp, hn, hv⟩ := h
    rcases hv with ⟨j, m, rfl, h0, hm, q⟩ | ⟨⟨z, rfl⟩ | ⟨a, us, rfl, ha⟩, q⟩
    · have hat := natV_at h0 hm
      repeat walk_at "w"
      exact q
    · repeat walk_at "w"
      exact q
    · repeat walk_at "w"
      exact q
theorem ok_Order_need_of [c : Facts K mg] {f : Addr} {fd : FuncData} (F : FunD K "need_of" "Order.need_of" (defArgs s_Order_need_of) (defBody s_Order_need_of) (defScope s_Order_need_of) [] [] f fd) (GM_Order_need_at : FnA P w K mg (He.ma K (He.ga K "Order") "need_at") 1 ["self", "one"] ((spNeedAt K (He.ga K "Order")))) : FnA P w K mg f 2 ["self", "part"] ((spNeedOf K (He.ga K "Order"))) := by
  refine FnA.mk' F sc_Order_need_of (k := 1) (fun vs H Q E h => ?_) (fun _ _ _ _ _ _ us hl => match us, hl with | [_, _], _ => rfl) (fun base cdv A outer s H vs Q E hr h => ?_)
  · exact len_Order_need_of h
  · have nd := sc_Order_need_of.nd
    have hu := hu_of hr
    have hrM_Order_need_at : Room 1 _ := hr.mono (by omega)
    refine ⟨_, (pss_cons (ps_if (PW.pt (pw_or (pt_cmpR (op_eqA (K := K) rfl hr.units) (pe_ix (ix_any (K := K) rfl) (pv 1) pe_int (fun _ _ => rfl)) pe_str (nomark _)) (pw_or1 (pt_cmpR (op_eqA (K := K) rfl hr.units) (pe_ix (ix_any (K := K) rfl) (pv 1) pe_int (fun _ _ => rfl)) pe_str (nomark _))))) (pss_one (ps_ret pe_int)) pss_nil)
      (pss_cons (ps_setLc (i := 2) (own := [("one", 3)]) rfl nd rfl rfl (sw_true rfl rfl rfl (by decide +kernel)) (pi_tup (pe_slice (sl_any (K := K) rfl) (pv 1) (po_some pe_int) po_none)) (blkOk_by (N := N_Order_need_of) (sc := defScope s_Order_need_of) (by decide +kernel)) (fun _ _ _ _ _ => (pg_name (i := 3) nd rfl (Or.inl rfl))) (fun _ _ _ _ _ => pts_nil) (fun _ _ _ _ _ => (pe_met GM_Order_need_at rfl c.cl_Order c.me_Order_need_at hrM_Order_need_at (pv 0) (pa_cons (pv 3) pa_nil))))
      (pss_cons (ps_if (PW.pt (pw_and (pt_cmpR (op_eqA (K := K) rfl hr.units) (pe_callB (call_lenA (K := K) rfl) (by rfl) c.f_len boot_len (pa_cons (pv 2) pa_nil)) pe_int (nomark _)) (pw_and (pt_cmpR (op_eqA (K := K) rfl hr.units) (pe_ix (ix_any (K := K) rfl) (pv 2) pe_int (fun _ _ => rfl)) (pe_ix (ix_any (K := K) rfl) (pv 2) pe_int (fun _ _ => rfl)) (nomark _)) (pw_and1 (pt_cmpR op_gt (pe_ix (ix_any (K := K) rfl) (pv 2) pe_int (fun _ _ => rfl)) pe_int (nomark _)))))) (pss_one (ps_ret (pe_op (op_addA (K := K) rfl) (pe_ix (ix_any (K := K) rfl) (pv 2) pe_int (fun _ _ => rfl)) pe_int))) pss_nil)
      (pss_one (ps_ret (pe_callB (call_maxL (K := K) rfl rfl) (by rfl) c.f_max boot_max (pa_cons (pe_op (op_addA (K := K) rfl) (pe_lst (pa_cons pe_int pa_nil)) (pv 2)) pa_nil))))))), ?_⟩
    try dsimp only [cxOf, Cx.nox, Cx.wish]
    obtain ⟨p, dx, l, ol, nl, xs, v, d, nd, rfl, hp, hn, hd, ⟨s, items, rfl, so, hi, l1, l2, hg⟩, hj, q⟩ := h
    obtain ⟨a, us, rfl, ha, hus⟩ := exp_n hd
    have hul : us.length = items.length := dpa_len hus
    have gone : (s = "get" ∨ s = "ask") → rowN nd (.tuple (.str s :: items)) = 1 := fun g => by
      have : ∀ x ∈ items, valD nd x = 0 := fun x hx => by
        unfold valD
        cases h : intD x with
        | none => rfl
        | some j =>
          have : j ∈ intsD items := List.mem_filterMap.mpr ⟨x, hx, h⟩
          rw [hg g] at this
          exact (List.not_mem_nil this).elim
      match items, l1, l2, this with
      | [x], _, _, t => show max 1 (valD nd x) = 1; rw [t x List.mem_cons_self]; rfl
      | [x, y], _, _, t =>
        show (if valD nd x = valD nd y ∧ 0 < valD nd x then valD nd x + 1 else max 1 (max (valD nd x) (valD nd y))) = 1
        rw [t x List.mem_cons_self, t y (List.mem_cons_of_mem _ List.mem_cons_self)]; rfl
    repeat walk_at "w"
    refine ite2 (fun h1 => ?_) (fun h1 => ?_)
    · rw [decide_eq_true_eq] at h1
      repeat walk_at "w"
      rw [gone (.inl h1)] at q
      exact q _ (Same.refl _)
    · repeat walk_at "w"
      refine ite2 (fun h2 => ?_) (fun h2 => ?_)
      · rw [decide_eq_true_eq] at h2
        repeat walk_at "w"
        rw [gone (.inr h2)] at q
        exact q _ (Same.refl _)
      · repeat walk_at "w"
        refine w_slT1 (σ := []) ha ?_
        refine w_new fun p1 H1 n1 s1 f1 => ?_
        have hus1 := dpAll_ts (TS.of s1) _ _ (items_all hi).1 hus
        repeat walk_at "w"
        have hp1 := s1 _ _ hp
        have hn1 := s1 _ _ hn
        refine lc_T us (fun D i ys H' => Same H1 H' ∧ ys = natV ((items.take i).map (valD nd))) (SqT.of f1) (fun D H' hD e f => ⟨e, rfl⟩) (fun D hD i ys H' hi hy hp => SqT.of (hp.1 _ _ f1)) (fun D hD i x ys H' hx hll hy hp' => ?_) (fun D hD ys H' hll hy hp' => ?_)
        · obtain ⟨e, rfl⟩ := hp'
          obtain ⟨dx', hdx, hdp⟩ := dpa_at' (dpAll_ts (TS.of e) _ _ (items_all hi).1 hus1) hx
          have it := hi dx' (List.mem_of_getElem? hdx)
          have hp2 := e _ _ hp1
          have hn2 := e _ _ hn1
          have hil := (List.getElem?_eq_some_iff.mp hdx).1
          have fin : LcEnd D (fun i ys H' => Same H1 H' ∧ ys = natV ((items.take i).map (valD nd))) i (.int (valD nd dx' : Nat)) H' :=
            lc_end hy hll (by rw [sizeLine_eq]; omega) fun H3 e3 f3 => ⟨But.new e hD e3, by rw [take_snoc hdx, List.map_append]; unfold natV; rw [List.map_append]; rfl⟩
          repeat walk_at "w"
          cases it with
          | int n =>
            cases dp_int hdp
            have hn0 := hj n (show n ∈ intsD items from List.mem_filterMap.mpr ⟨.int n, List.mem_of_getElem? hdx, rfl⟩)
            exact ⟨p, dx, l, ol, nl, xs, .int n, rfl, hp2, hn2, .inl ⟨n, nd n, rfl, hn0.1, hn0.2, fin⟩⟩
          | str hs' =>
            cases dp_str hdp
            exact ⟨p, dx, l, ol, nl, xs, _, rfl, hp2, hn2, .inr ⟨.inl ⟨_, rfl⟩, fin⟩⟩
          | pair hs' n =>
            obtain ⟨a2, us2, rfl, ha2, _⟩ := dp_tup hdp
            exact ⟨p, dx, l, ol, nl, xs, .ref a2, rfl, hp2, hn2, .inr ⟨.inr ⟨a2, us2, rfl, ha2⟩, fin⟩⟩
        · obtain ⟨e, rfl⟩ := hp'
          rw [hul, List.take_length] at hy
          match items, l1, l2, hy, q with
          | [x], _, _, hy, q =>
            have hy' : H' D = some (.lst [.int (valD nd x : Nat)]) := hy
            repeat walk_at "w"
            refine ite2 (fun h => absurd h (by simp)) (fun _ => ?_)
            repeat walk_at "w"
            refine w_new fun p2 H2 n2 s2 f2 => ?_
            repeat walk_at "w"
            refine w_addL f2 (s2 _ _ hy') (by rw [sizeLine_eq]; simp) ?_
            refine w_new fun p3 H3 n3 s3 f3 => ?_
            repeat walk_at "w"
            refine w_maxL (ns := [1, ((valD nd x : Nat) : Int)]) (SqL.of f3) (by simp) fun m hm hle => ?_
            have e1 := hle 1 (by simp)
            have e2 := hle ((valD nd x : Nat) : Int) (by simp)
            have e3 : m = ((max 1 (valD nd x) : Nat) : Int) := by
              simp only [List.mem_cons, List.not_mem_nil, or_false] at hm
              omega
            rw [e3]
            exact q _ (s1.trans (e.trans (s2.trans s3)))
          | [x, y], _, _, hy, q =>
            have hy' : H' D = some (.lst [.int (valD nd x : Nat), .int (valD nd y : Nat)]) := hy
            repeat walk_at "w"
            refine ite2 (fun _ => ?_) (fun h => (h (by simp)).elim)
            refine w_andP (((valD nd x : Nat) : Int) = (valD nd y : Nat)) ((0 : Int) < (valD nd x : Nat)) (by walk_at "tz") (by walk_at "tz") (fun b hb => ?_)
            refine ite2 (fun h3 => ?_) (fun h3 => ?_)
            · have g := hb.mp h3
              repeat walk_at "w"
              have := q _ (s1.trans e)
              rw [show rowN nd (.tuple [.str s, x, y]) = valD nd x + 1 from if_pos ⟨by omega, by omega⟩] at this
              exact this
            · have no : ¬ (valD nd x = valD nd y ∧ 0 < valD nd x) := fun z => h3 (hb.mpr ⟨by omega, by omega⟩)
              repeat walk_at "w"
              refine w_new fun p2 H2 n2 s2 f2 => ?_
              repeat walk_at "w"
              refine w_addL f2 (s2 _ _ hy') (by rw [sizeLine_eq]; simp) ?_
              refine w_new fun p3 H3 n3 s3 f3 => ?_
              repeat walk_at "w"
              refine w_maxL (ns := [1, ((valD nd x : Nat) : Int), ((valD nd y : Nat) : Int)]) (SqL.of f3) (by simp) fun m hm hle => ?_
              have e1 := hle 1 (by simp)
              have e2 := hle ((valD nd x : Nat) : Int) (by simp)
              have e4 := hle ((valD nd y : Nat) : Int) (by simp)
              have e3 : m = ((max 1 (max (valD nd x) (valD nd y)) : Nat) : Int) := by
                simp only [List.mem_cons, List.not_mem_nil, or_false] at hm
                omega
              rw [e3]
              have := q _ (s1.trans (e.trans (s2.trans s3)))
              rw [show rowN nd (.tuple [.str s, x, y]) = max 1 (max (valD nd x) (valD nd y)) from if_neg no] at this
              exact this
end

end J
namespace J
open PySem PySem.Spec PyProof.Rows L2
local macro_rules | `(tactic| walk_at "cls") => `(tactic| first
  | with_reducible exact Facts.cl_Step
  | with_reducible exact Facts.cl_Get
  | with_reducible exact Facts.cl_Ask
  | with_reducible exact Facts.cl_Cell
  | with_reducible exact Facts.cl_Two
  | with_reducible exact Facts.cl_Put
  | with_reducible exact Facts.cl_Tell
  | with_reducible exact Facts.cl_Store
  | with_reducible exact Facts.cl_Parts
  | with_reducible exact Facts.cl_Order)
local macro_rules | `(tactic| walk_at "na") => `(tactic| first
  | with_reducible exact Facts.na_Get_to
  | with_reducible exact Facts.na_Get_sel
  | with_reducible exact Facts.na_Ask_to
  | with_reducible exact Facts.na_Ask_sel
  | with_reducible exact Facts.na_Cell_to
  | with_reducible exact Facts.na_Cell_source
  | with_reducible exact Facts.na_Two_to
  | with_reducible exact Facts.na_Two_op
  | with_reducible exact Facts.na_Two_one
  | with_reducible exact Facts.na_Two_other
  | with_reducible exact Facts.na_Put_sel
  | with_reducible exact Facts.na_Put_source
  | with_reducible exact Facts.na_Tell_sel
  | with_reducible exact Facts.na_Tell_source
  | with_reducible exact Facts.na_Store_at
  | with_reducible exact Facts.na_Store_source
  | with_reducible exact Facts.na_Parts_rows
  | with_reducible exact Facts.na_Order_parts
  | with_reducible exact Facts.na_Order_order
  | with_reducible exact Facts.na_Order_needed)
local macro_rules | `(tactic| walk_at "ty") => `(tactic| first
  | with_reducible exact ty_int
  | with_reducible exact ty_bl
  | with_reducible exact ty_str
  | with_reducible exact ty_non
  | ((with_reducible refine' ty_lst ?vv); (case vv => walk_at "tr"))
  | ((with_reducible refine' ty_sqT ?vv); (case vv => walk_at "tr"))
  | ((with_reducible refine' ty_dic ?vv); (case vv => walk_at "tr")))
local macro_rules | `(tactic| walk_at "ix") => `(tactic| first | exact at0 | exact at1 | exact at2 | assumption)
local macro_rules | `(tactic| walk_at "size") => `(tactic| first
  | assumption
  | (show _ < sizeLine; rw [sizeLine_eq]; (try simp only [List.length_cons, List.length_nil, List.length_append, List.length_map]); omega)
  | (show _ ≤ sizeLine; rw [sizeLine_eq]; (try simp only [List.length_cons, List.length_nil, List.length_append, List.length_map]); omega))
local macro_rules | `(tactic| walk_at "side") => `(tactic| first
  | assumption
  | ((with_reducible refine cdw ?_ ?_) <;> omega)
  | omega
  | (exact ⟨by omega, by omega⟩)
  | (exact Or.inl ⟨by omega, by omega⟩)
  | (exact Or.inr ⟨by omega, by omega⟩)
  | decide
  | (simp only [List.length_cons, List.length_nil, List.length_append, List.length_map]; omega)
  | (show _ ≤ _; decide))
local macro_rules | `(tactic| walk_at "as") => `(tactic| with_reducible assumption)
local macro_rules | `(tactic| walk_at "tr") => `(tactic| first
  | with_reducible assumption
  | with_reducible exact upd_same
  | ((with_reducible refine' SqL.of ?hh); (case hh => walk_at "as"))
  | ((with_reducible refine' SqT.of ?hh); (case hh => walk_at "as"))
  | ((with_reducible refine' Same.stm ?ee ?gg); (case ee => walk_at "as"); (case gg => walk_at "tr"))
  | ((with_reducible refine' Same.sqT ?ee ?gg); (case ee => walk_at "as"); (case gg => walk_at "tr"))
  | ((with_reducible refine' Same.sqL ?ee ?gg); (case ee => walk_at "as"); (case gg => walk_at "tr"))
  | ((with_reducible refine' Same.at ?ee ?gg); (case ee => walk_at "as"); (case gg => walk_at "tr"))
  | ((with_reducible refine' But.stm ?ee ?ff ?gg); (case ee => walk_at "as"); (case ff => walk_at "ne"); (case gg => walk_at "tr"))
  | ((with_reducible refine' But.tup ?ee ?ff ?gg); (case ee => walk_at "as"); (case ff => walk_at "tr1"); (case gg => walk_at "tr"))
  | ((with_reducible refine' But.sqT ?ee ?ff ?gg); (case ee => walk_at "as"); (case ff => walk_at "tr1"); (case gg => walk_at "tr"))
  | ((with_reducible refine' But.tupL ?ee ?ff ?gg); (case ee => walk_at "as"); (case ff => walk_at "tr1"); (case gg => walk_at "tr"))
  | ((with_reducible refine' But.sqTL ?ee ?ff ?gg); (case ee => walk_at "as"); (case ff => walk_at "tr1"); (case gg => walk_at "tr"))
  | ((with_reducible refine' But.sqL ?ee ?ff ?gg); (case ee => walk_at "as"); (case ff => walk_at "ne"); (case gg => walk_at "tr"))
  | ((with_reducible refine' But.at ?ee ?ff ?gg); (case ee => walk_at "as"); (case ff => walk_at "ne"); (case gg => walk_at "tr")))
local macro_rules | `(tactic| walk_at "ts") => `(tactic| first
  | with_reducible assumption
  | with_reducible exact TS.refl _
  | ((with_reducible refine' TS.trans ?gg (TS.of ?ee)); (case ee => walk_at "as"); (case gg => walk_at "ts"))
  | ((with_reducible refine' TS.trans ?gg (TS.butS ?ee ?ff)); (case ee => walk_at "as"); (case ff => walk_at "tr1"); (case gg => walk_at "ts"))
  | ((with_reducible refine' TS.trans ?gg (TS.butL ?ee ?ff)); (case ee => walk_at "as"); (case ff => walk_at "tr1"); (case gg => walk_at "ts"))
  | ((with_reducible refine' TS.trans ?gg (TS.butI ?ee ?ff)); (case ee => walk_at "as"); (case ff => walk_at "tr1"); (case gg => walk_at "ts")))
local macro_rules | `(tactic| walk_at "sm") => `(tactic| first
  | with_reducible assumption
  | with_reducible exact Same.refl _
  | ((with_reducible refine' Same.trans ?gg ?ee); (case ee => walk_at "as"); (case gg => walk_at "sm"))
  | ((with_reducible refine' But.new ?gg ?nn ?ee); (case ee => walk_at "as"); (case nn => walk_at "fr"); (case gg => walk_at "sm")))
local macro_rules | `(tactic| walk_at "fr") => `(tactic| first
  | with_reducible assumption
  | ((with_reducible refine' Same.back ?ee ?nn); (case nn => walk_at "as"); (case ee => walk_at "sm"))
  | ((with_reducible refine' But.back ?ee ?ff ?nn); (case nn => walk_at "as"); (case ff => walk_at "ne0"); (case ee => walk_at "bu")))
local macro_rules | `(tactic| walk_at "bu") => `(tactic| first
  | with_reducible assumption
  | with_reducible exact But.refl _ _
  | ((with_reducible refine' But.trans ?gg ?ee); (case ee => walk_at "as"); (case gg => walk_at "bu"))
  | ((with_reducible refine' But.trans ?gg (But.of ?ee)); (case ee => walk_at "as"); (case gg => walk_at "bu"))
  | ((with_reducible refine' But.new2 ?gg ?nn ?ee); (case ee => walk_at "as"); (case nn => walk_at "frB"); (case gg => walk_at "bu")))
local macro_rules | `(tactic| walk_at "frB") => `(tactic| first
  | with_reducible assumption
  | ((with_reducible refine' Same.back ?ee ?nn); (case nn => walk_at "as"); (case ee => walk_at "sm"))
  | ((with_reducible refine' But.back' ?ee ?ff ?nn); (case nn => walk_at "as"); (case ee => walk_at "bu"); (case ff => walk_at "tr1")))
local macro_rules | `(tactic| walk_at "tr1") => `(tactic| first
  | with_reducible assumption
  | ((with_reducible refine' Same.stm ?ee ?gg); (case ee => walk_at "as"); (case gg => walk_at "tr1"))
  | ((with_reducible refine' Same.at ?ee ?gg); (case ee => walk_at "as"); (case gg => walk_at "tr1"))
  | ((with_reducible refine' But.at ?ee ?ff ?gg); (case ee => walk_at "as"); (case ff => walk_at "ne0"); (case gg => walk_at "tr1"))
  | ((with_reducible refine' But.stm ?ee ?ff ?gg); (case ee => walk_at "as"); (case ff => walk_at "ne0"); (case gg => walk_at "tr1")))
local macro_rules | `(tactic| walk_at "ne0") => `(tactic| first
  | with_reducible assumption
  | (with_reducible apply Ne.symm; with_reducible assumption))
local macro_rules | `(tactic| walk_at "ne") => `(tactic| first
  | with_reducible assumption
  | (with_reducible apply Ne.symm; with_reducible assumption)
  | ((with_reducible refine' stm_ne ?hh ?nn); (case nn => walk_at "as"); (case hh => walk_at "tr1"))
  | ((with_reducible refine' ne_of_none ?hh ?nn); (case nn => walk_at "as"); (case hh => walk_at "tr1"))
  | ((with_reducible apply Ne.symm); (with_reducible refine' ne_of_none ?hh ?nn); (case nn => walk_at "as"); (case hh => walk_at "tr1")))
local macro_rules | `(tactic| walk_at "v") => `(tactic| first
  | with_reducible refine w_seq ?_
  | ((with_reducible refine' w_var ?vv ?_); (case vv => exact rfl))
  | with_reducible refine w_c ?_
  | with_reducible refine w_op ?_
  | with_reducible refine w_asg ?_
  | with_reducible refine w_gName ?_
  | with_reducible refine w_ret ?_
  | with_reducible refine w_ifS ?_
  | with_reducible refine w_drop ?_
  | with_reducible refine w_next ?_
  | with_reducible refine w_cons ?_
  | with_reducible refine w_nil ?_
  | with_reducible refine w_call ?_
  | with_reducible refine w_cb ?_
  | with_reducible refine w_rI0 ?_
  | with_reducible refine w_addI ?_
  | with_reducible refine w_eqI ?_
  | with_reducible refine w_neI ?_
  | with_reducible refine w_eqS ?_
  | with_reducible refine w_neS ?_
  | with_reducible refine w_eqB ?_
  | with_reducible refine w_neB ?_
  | with_reducible refine w_chain ?_
  | with_reducible refine w_test ?_
  | with_reducible refine w_tB ?_
  | with_reducible refine w_bl ?_
  | ((with_reducible refine' w_mulI ?vv ?_); (case vv => walk_at "side"))
  | ((with_reducible refine' w_rI ?vv ?_); (case vv => walk_at "side"))
  | with_reducible refine w_int1 ?_
  | with_reducible refine w_int1b ?_
  | with_reducible refine w_tup ?_
  | with_reducible refine w_lst ?_
  | with_reducible refine w_un ?_
  | with_reducible refine w_rU ?_
  | with_reducible refine w_not ?_
  | with_reducible refine w_notV ?_
  | with_reducible refine w_ifE ?_
  | with_reducible refine w_nT ?_
  | with_reducible refine w_nF ?_
  | with_reducible refine iteT ?_
  | with_reducible refine iteF ?_
  | ((with_reducible refine' w_ixT ?vv ?ww ?_); (case vv => walk_at "tr"); (case ww => walk_at "ix"))
  | ((with_reducible refine' w_ixL ?vv ?ww ?_); (case vv => walk_at "tr"); (case ww => walk_at "ix"))
  | with_reducible refine w_gSub ?_
  | ((with_reducible refine' w_setL ?vv ?ww ?_); (case vv => walk_at "tr"); (case ww => first | rfl | decide | assumption))
  | ((with_reducible refine' w_lenL ?vv ?_); (case vv => walk_at "tr"))
  | ((with_reducible refine' w_lenT ?vv ?_); (case vv => walk_at "tr"))
  | with_reducible refine w_max2 ?_
  | with_reducible refine w_max3 ?_
  | with_reducible refine w_din ?_
  | with_reducible refine w_dnotin ?_
  | with_reducible refine w_dput ?_
  | with_reducible refine w_min2 ?_
  | with_reducible refine w_bm ?_
  | with_reducible refine w_bm0 ?_
  | ((with_reducible refine' w_tyL ?vv ?_); (case vv => walk_at "tr"))
  | ((with_reducible refine' w_append ?vv ?ww ?_); (case vv => walk_at "tr"); (case ww => walk_at "size"))
  | ((with_reducible refine' w_size ?vv ?_); (case vv => walk_at "size"))
  | with_reducible refine w_forL ?_
  | with_reducible refine w_forT ?_
  | with_reducible refine w_forR1 ?_
  | with_reducible refine w_forR2 ?_
  | with_reducible refine w_lcL ?_
  | with_reducible refine w_lcT ?_
  | with_reducible refine w_lcR1 ?_
  | with_reducible refine w_yes ?_
  | with_reducible refine w_sl ?_
  | with_reducible refine w_noPart ?_
  | with_reducible refine w_part ?_
  | with_reducible refine w_int ?_
  | ((with_reducible refine' w_slL ?vv ?_); (case vv => walk_at "tr"))
  | ((with_reducible refine' w_seqL ?vv ?ww ?_); (case vv => walk_at "tr"); (case ww => rfl))
  | ((with_reducible refine' w_seqT ?vv ?ww ?_); (case vv => walk_at "tr"); (case ww => rfl))
  | with_reducible refine w_gNil ?_
  | with_reducible refine w_gCons ?_
  | with_reducible refine w_forZ ?_
  | with_reducible refine w_forM ?_
  | with_reducible refine w_forE ?_
  | with_reducible refine w_forV ?_
  | with_reducible refine w_lcZ ?_
  | with_reducible refine w_lcE ?_
  | ((with_reducible refine' w_isi (b := true) ?vv ?ww ?_); (case vv => walk_at "ty"); (case ww => decide +kernel))
  | ((with_reducible refine' w_isi (b := false) ?vv ?ww ?_); (case vv => walk_at "ty"); (case ww => decide +kernel))
  | with_reducible refine w_revL ?_
  | with_reducible refine w_pairN ?_
  | with_reducible refine w_pairC ?_
  | with_reducible refine w_dget ?_
  | with_reducible refine w_met ?_
  | ((with_reducible refine' w_metAt ?vv ?ww ?_); (case vv => walk_at "tr"); (case ww => rfl))
  | with_reducible refine w_mkI ?_
  | with_reducible refine w_fld ?_
  | ((with_reducible refine' w_fldAt ?vv ?cc ?nn ?ww ?_); (case vv => walk_at "tr"); (case cc => walk_at "cls"); (case nn => walk_at "na"); (case ww => rfl))
  | with_reducible refine w_sfld ?_
  | ((with_reducible refine' w_sfldAt ?vv ?cc ?nn ?ll ?ee ?_); (case vv => walk_at "tr"); (case cc => walk_at "cls"); (case nn => walk_at "na"); (case ll => simp); (case ee => rfl))
  | ((with_reducible refine' w_tupL ?vv ?_); (case vv => walk_at "tr"))
  | ((with_reducible refine' w_tupT ?vv ?_); (case vv => walk_at "tr"))
  | ((with_reducible refine' w_listL ?vv ?_); (case vv => walk_at "tr"))
  | ((with_reducible refine' w_listT ?vv ?_); (case vv => walk_at "tr"))
  | with_reducible refine w_tyS ?_
  | with_reducible refine w_retN ?_
  | with_reducible refine w_break ?_
  | with_reducible refine w_cont ?_)
local macro_rules | `(tactic| walk_at "w") => `(tactic| first
  | walk_at "v"
  | with_reducible refine w_or ?_
  | with_reducible refine w_and ?_
  | with_reducible refine w_andV ?_
  | with_reducible refine w_orV ?_)
local macro_rules | `(tactic| walk_at "wd") => `(tactic| first
  | walk_at "w"
  | ((with_reducible refine' w_decT ?vv ?_); (case vv => decide +kernel))
  | ((with_reducible refine' w_decF ?vv ?_); (case vv => decide +kernel)))
local macro_rules | `(tactic| walk_at "tz") => `(tactic| (intro S z; (repeat walk_at "w"); exact z))
local macro_rules | `(tactic| walk_at "wf") => `(tactic| first
  | walk_at "wd"
  | ((with_reducible refine' w_decF ?vv ?_); (case vv => with_reducible assumption)))
def spOrdInit (K : PySem.W.Frag) (C : Addr) : Sp := fun vs H Q _ => ∃ p dx l ss, vs = [.ref p, .ref l] ∧ H p = some (.ins C dx []) ∧ PK K H l ss ∧
  ∀ ol nl H', H' p = some (.ins C dx (flds l ol nl)) → H' ol = some (.lst []) → H' nl = some (.lst (natV (ndsL (restsL ss)))) → H ol = none → H nl = none → ol ≠ nl → But p H H' → Q .non H'
theorem len_Order_uinitu {K : PySem.W.Frag} {C : Addr} {vs H Q E} (h : spOrdInit K C vs H Q E) : vs.length = 2 := by obtain ⟨_, _, _, _, rfl, _⟩ := h; rfl
theorem len_Orderu_initu {K : PySem.W.Frag} {C : Addr} {vs H Q E} (h : spOrdInit K C vs H Q E) : vs.length = 2 := by obtain ⟨_, _, _, _, rfl, _⟩ := h; rfl
theorem PK.bp {K : PySem.W.Frag} {H H' : Hp} {l p : Addr} {ss : List SetE} {C dx : Addr} {fs : List (Str × V)} (h : PK K H l ss) (hp : H p = some (.ins C dx fs)) (e : But p H H') : PK K H' l ss := by
  obtain ⟨xs, hx, _⟩ := id h.pl
  exact ⟨h.pl.ts (TS.butI e hp) fun _ g => e _ _ (ne_of hx hp (by intro z; cases z)) g, h.ok, h.few⟩
theorem PK.bl {K : PySem.W.Frag} {H H' : Hp} {l p : Addr} {ss : List SetE} {ys : List V} (h : PK K H l ss) (hp : H p = some (.lst ys)) (n : l ≠ p) (e : But p H H') : PK K H' l ss := ⟨h.pl.ts (TS.butL e hp) fun _ g => e _ _ n g, h.ok, h.few⟩
section
variable {P : Program} {w : World} {K : PySem.W.Frag} {mg : Str → Option Value}
theorem ok_Orderu_initu [c : Facts K mg] {f : Addr} {fd : FuncData} (F : FunD K "__init__" "Order.__init__" (defArgs s_Orderu_initu) (defBody s_Orderu_initu) (defScope s_Orderu_initu) [] [] f fd) (GM_Order_need_of : FnA P w K mg (He.ma K (He.ga K "Order") "need_of") 2 ["self", "part"] ((spNeedOf K (He.ga K "Order")))) : FnA P w K mg f 3 ["self", "parts"] ((spOrdInit K (He.ga K "Order"))) := by
  refine FnA.mk' F sc_Orderu_initu (k := 2) (fun vs H Q E h => ?_) (fun _ _ _ _ _ _ us hl => match us, hl with | [_, _], _ => rfl) (fun base cdv A outer s H vs Q E hr h => ?_)
  · exact len_Orderu_initu h
  · have nd := sc_Orderu_initu.nd
    have hu := hu_of hr
    have hrM_Order_need_of : Room 2 _ := hr.mono (by omega)
    refine ⟨_, (pss_cons (ps_fld (pv 0) (pv 1) rfl)
      (pss_cons (ps_fld (pv 0) (pe_lst pa_nil) rfl)
      (pss_cons (ps_fld (pv 0) (pe_lst pa_nil) rfl)
      (pss_one (ps_for PassesOwn.never rfl (pi_list (pv 1)) (pg_name (i := 2) nd rfl (Or.inl rfl)) (pss_one (ps_expr (pe_bm PySem.F.plainAttrs_list PySem.F.slot_list_append PySem.F.type_list_append mt_append (pe_fldK (K := K) rfl (pv 0)) (pa_cons (pe_met GM_Order_need_of rfl c.cl_Order c.me_Order_need_of hrM_Order_need_of (pv 0) (pa_cons (pv 2) pa_nil)) pa_nil))))))))), ?_⟩
    try dsimp only [cxOf, Cx.nox, Cx.wish]
    obtain ⟨p, dx, l, ss, rfl, hp, pk, q⟩ := h
    obtain ⟨us, hus, hun, hul⟩ := pk.len
    have npl : l ≠ p := ne_of hus hp (by intro z; cases z)
    repeat walk_at "w"
    refine w_chg fun H1 e1 f1 => ?_
    have f1' : H1 p = some (.ins (He.ga K "Order") dx [("parts", .ref l)]) := f1
    repeat walk_at "w"
    refine w_new fun ol H2 n2 s2 f2 => ?_
    have f2' := s2 _ _ f1'
    repeat walk_at "w"
    refine w_chg fun H3 e3 f3 => ?_
    have f3' : H3 p = some (.ins (He.ga K "Order") dx [("parts", .ref l), ("order", .ref ol)]) := f3
    repeat walk_at "w"
    refine w_new fun nl H4 n4 s4 f4 => ?_
    have f4' := s4 _ _ f3'
    repeat walk_at "w"
    refine w_chg fun H5 e5 f5 => ?_
    have f5' : H5 p = some (.ins (He.ga K "Order") dx (flds l ol nl)) := f5
    have pol : ol ≠ p := (ne_of_none f1 n2).symm
    have pnl : nl ≠ p := (ne_of_none f3 n4).symm
    have fo3 : H3 ol = some (.lst []) := e3 _ _ pol f2
    have oln : ol ≠ nl := ne_of_none fo3 n4
    have fo5 : H5 ol = some (.lst []) := e5 _ _ pol (s4 _ _ fo3)
    have fn5 : H5 nl = some (.lst []) := e5 _ _ pnl f4
    have b5 : But p H H5 := ((e1.trans (But.of s2)).trans e3).trans ((But.of s4).trans e5)
    have pk5 : PK K H5 l ss := pk.bp hp b5
    have hus5 := b5 _ _ npl hus
    have nolH : H ol = none := e1.back pol n2
    have nnlH : H nl = none := ((e1.trans (But.of s2)).trans e3).back pnl n4
    have nll : l ≠ nl := fun z => by rw [z, nnlH] at hus; cases hus
    repeat walk_at "w"
    refine fl_list us (fun i σ H' => ∃ o2, σ = [some (.ref p), some (.ref l), o2] ∧ H' p = some (.ins (He.ga K "Order") dx (flds l ol nl)) ∧ H' ol = some (.lst []) ∧ H' nl = some (.lst (natV ((ndsL (restsL ss)).take i))) ∧ But p H H' ∧ PK K H' l ss ∧ H' l = some (.lst us)) (SqL.of hus5)
      ⟨_, rfl, f5', fo5, fn5, b5, pk5, hus5⟩ (fun i σ H' hi hp' => ?_) (fun i x σ H' hx hp' => ?_) (fun σ H' hp' => ?_)
    · obtain ⟨_, _, _, _, _, _, _, g⟩ := hp'
      exact SqL.of g
    · obtain ⟨o2, rfl, hpp, hol, hnl, b, pk', hul'⟩ := hp'
      have hil := (List.getElem?_eq_some_iff.mp hx).1
      obtain ⟨xs2, v2, d2, hx2, ha2, hd2, hr2, ho2⟩ := pk'.at (x := (i : Int)) (by omega) (by omega)
      cases Option.some.inj (hx2.symm.trans hul')
      have ev : v2 = x := by
        have := atI_of (show (0 : Int) ≤ (i : Int) by omega) (show us[((i : Nat) : Int).toNat]? = some x by rw [Int.toNat_natCast]; exact hx)
        exact Option.some.inj (ha2.symm.trans this)
      subst ev
      have own := ownF_ok ss
      have hlen : (ndsL (restsL ss)).length = us.length := by rw [ndsL_len]; unfold nOf at hun; omega
      obtain ⟨us3, hu3, hdu, _⟩ := id pk'.pl
      cases Option.some.inj (hu3.symm.trans hul')
      obtain ⟨d3, hd3, hdp3⟩ := dpa_at' hdu hx
      have ed : rowN (nedF ss) d3 = nedF ss i := rowN_all hd3
      have hr3 := proots_prow ss pk.ok rows_nil (fun _ q => (List.not_mem_nil q).elim) d3 (List.mem_of_getElem? hd3)
      have ho3 := ownF_at hd3
      repeat walk_at "w"
      refine ⟨p, dx, l, ol, nl, _, v2, d3, nedF ss, rfl, hpp, hnl, hdp3, hr3, fun j hj => ?_, fun H6 s6 => ?_⟩
      · rw [← ho3] at hj
        have bj := own.lt i (by omega) (by unfold nOf at hun; omega) j hj
        refine ⟨bj.1, ?_⟩
        rw [List.getElem?_take, if_pos (by omega)]
        unfold nedF
        rw [List.getD_eq_getElem?_getD, List.getElem?_eq_getElem (by omega)]; rfl
      · rw [ed]
        repeat walk_at "w"
        refine w_append (s6 _ _ hnl) (by rw [sizeLine_eq, natV_len, List.length_take]; omega) ?_
        refine w_chg fun H7 e7 f7 => ?_
        repeat walk_at "w"
        have t7 : But nl H' H7 := (But.of s6).trans e7
        refine ⟨_, rfl, t7 _ _ pnl.symm hpp, t7 _ _ oln hol, ?_, But.new2 (b.trans (But.of s6)) nnlH e7, pk'.bl hnl nll t7, t7 _ _ nll hul'⟩
        have e8 : (ndsL (restsL ss))[i]? = some (nedF ss i) := by
          unfold nedF
          rw [Int.toNat_natCast, List.getD_eq_getElem?_getD, List.getElem?_eq_getElem (by omega)]; rfl
        rw [take_snoc e8]
        unfold natV at f7 ⊢
        rw [List.map_append]
        exact f7
    · obtain ⟨o2, rfl, hpp, hol, hnl, b, pk', hul'⟩ := hp'
      have hlen : (ndsL (restsL ss)).length = us.length := by rw [ndsL_len]; unfold nOf at hun; omega
      rw [List.take_of_length_le (by omega)] at hnl
      repeat walk_at "w"
      exact q ol nl H' hpp hol hnl nolH nnlH oln b
end
/-! ### go_through, best_order -/
/-- a tree among the parts -/
structure TreeAt (ss : List SetE) (e : Exp) (b : Int) : Prop where
  tr : Tr (ownF ss) e b
  nd : Nd (nedF ss) e b
  lo : 0 ≤ b
  hi : b + e.cnt ≤ nOf ss
/-- the trees right below a root -/
def rootO (q : Exp × Int) : Int := q.2 + q.1.cnt - 1
structure Kids (ss : List SetE) (n : Nat) (e : Exp) (b : Int) (ks : List (Exp × Int)) : Prop where
  own : ownF ss (b + e.cnt - 1) = ks.map rootO
  few : ks.length ≤ 2
  ok : ∀ q ∈ ks, OkE n q.1 ∧ 0 < q.1.cnt ∧ TreeAt ss q.1 q.2
  cnt : (ks.map fun q => q.1.cnt).sum + 1 = e.cnt
  ord0 : ks = [] → e.ord b = [b + e.cnt - 1]
  ord1 : ∀ x, ks = [x] → e.ord b = x.1.ord x.2 ++ [b + e.cnt - 1]
  ord2 : ∀ x y, ks = [x, y] → e.ord b = (if x.1.need < y.1.need then y.1.ord y.2 ++ x.1.ord x.2 else x.1.ord x.2 ++ y.1.ord y.2) ++ [b + e.cnt - 1]
theorem kids_of {ss : List SetE} {n : Nat} {e : Exp} {b : Int} (t : TreeAt ss e b) (oe : OkE (n + 1) e) (hc : 0 < e.cnt) : ∃ ks, Kids ss n e b ks := by
  cases e with
  | num => simp [Exp.cnt] at hc
  | fld => simp [Exp.cnt] at hc
  | plc k j =>
    have e0 : ownF ss (b + ((Exp.plc k j).cnt : Int) - 1) = [] := by
      have := t.tr 0 [] rfl
      rw [show b + ((Exp.plc k j).cnt : Int) - 1 = b + ((0 : Nat) : Int) by simp [Exp.cnt]]; exact this
    exact ⟨[], e0, by simp, fun q hq => (List.not_mem_nil hq).elim, rfl, fun _ => by simp [Exp.ord, Exp.cnt], fun x h => (by cases h), fun x y h => (by cases h)⟩
  | mrk k j =>
    have e0 : ownF ss (b + ((Exp.mrk k j).cnt : Int) - 1) = [] := by
      have := t.tr 0 [] rfl
      rw [show b + ((Exp.mrk k j).cnt : Int) - 1 = b + ((0 : Nat) : Int) by simp [Exp.cnt]]; exact this
    exact ⟨[], e0, by simp, fun q hq => (List.not_mem_nil hq).elim, rfl, fun _ => by simp [Exp.ord, Exp.cnt], fun x h => (by cases h), fun x y h => (by cases h)⟩
  | cell a =>
    obtain ⟨ta, tr⟩ := tr_cell t.tr
    obtain ⟨na, _⟩ := nd_cell t.nd
    have hi := t.hi
    have lo := t.lo
    have c0 : ((Exp.cell a).cnt : Int) = a.cnt + 1 := by simp [Exp.cnt]
    have er : b + ((Exp.cell a).cnt : Int) - 1 = b + a.cnt := by omega
    rw [c0] at hi
    by_cases z : a.cnt = 0
    · have eo : a.ord b = [] := by
        cases h : a.ord b with
        | nil => rfl
        | cons x r =>
          have := (ord_mem a b x).mp (by rw [h]; exact List.mem_cons_self)
          omega
      refine ⟨[], by rw [er, tr]; unfold Exp.rt; rw [if_pos z]; rfl, by simp, fun q hq => (List.not_mem_nil hq).elim, by simp [Exp.cnt, z], fun _ => by rw [er, Exp.ord, eo]; rfl, fun x h => (by cases h), fun x y h => (by cases h)⟩
    · refine ⟨[(a, b)], by rw [er, tr]; unfold Exp.rt; rw [if_neg z]; rfl, by simp, fun q hq => ?_, by simp [Exp.cnt], fun h => (by cases h), fun x h => ?_, fun x y h => (by cases h)⟩
      · rw [List.mem_singleton.mp hq]
        exact ⟨okE_cell oe, (show 0 < a.cnt by omega), ta, na, lo, (show b + (a.cnt : Int) ≤ nOf ss by omega)⟩
      · cases h
        rw [er, Exp.ord]
  | two o a c =>
    obtain ⟨ta, tc, tr⟩ := tr_two t.tr
    obtain ⟨na, nc, _⟩ := nd_two t.nd
    obtain ⟨_, oa, oc⟩ := okE_two oe
    have hi := t.hi
    have lo := t.lo
    have c0 : ((Exp.two o a c).cnt : Int) = a.cnt + c.cnt + 1 := by simp [Exp.cnt]
    have er : b + ((Exp.two o a c).cnt : Int) - 1 = b + a.cnt + c.cnt := by omega
    rw [c0] at hi
    have empty : ∀ (e : Exp) (b : Int), e.cnt = 0 → e.ord b = [] := fun e b z => by
      cases h : e.ord b with
      | nil => rfl
      | cons x r =>
        have := (ord_mem e b x).mp (by rw [h]; exact List.mem_cons_self)
        omega
    have ka : 0 < a.cnt → OkE n a ∧ 0 < a.cnt ∧ TreeAt ss a b := fun z => ⟨oa, z, ta, na, lo, by omega⟩
    have kc : 0 < c.cnt → OkE n c ∧ 0 < c.cnt ∧ TreeAt ss c (b + a.cnt) := fun z => ⟨oc, z, tc, nc, by omega, by omega⟩
    by_cases z : a.cnt = 0
    · by_cases z2 : c.cnt = 0
      · refine ⟨[], by rw [er, tr]; unfold Exp.rt; rw [if_pos z, if_pos z2]; rfl, by simp, fun q hq => (List.not_mem_nil hq).elim, by simp [Exp.cnt, z, z2], fun _ => ?_, fun x h => (by cases h), fun x y h => (by cases h)⟩
        rw [er, Exp.ord, if_neg (by omega), empty a b z, empty c _ z2]; rfl
      · refine ⟨[(c, b + a.cnt)], by rw [er, tr]; unfold Exp.rt; rw [if_pos z, if_neg z2]; rfl, by simp, fun q hq => ?_, by simp [Exp.cnt, z], fun h => (by cases h), fun x h => ?_, fun x y h => (by cases h)⟩
        · rw [List.mem_singleton.mp hq]; exact kc (by omega)
        · cases h
          rw [er, Exp.ord, if_neg (by omega), empty a b z]; rfl
    · by_cases z2 : c.cnt = 0
      · refine ⟨[(a, b)], by rw [er, tr]; unfold Exp.rt; rw [if_neg z, if_pos z2]; rfl, by simp, fun q hq => ?_, by simp [Exp.cnt, z2], fun h => (by cases h), fun x h => ?_, fun x y h => (by cases h)⟩
        · rw [List.mem_singleton.mp hq]; exact ka (by omega)
        · cases h
          rw [er, Exp.ord, if_neg (by omega), empty c _ z2, List.append_nil]
      · refine ⟨[(a, b), (c, b + a.cnt)], by rw [er, tr]; unfold Exp.rt; rw [if_neg z, if_neg z2]; rfl, by simp, fun q hq => ?_, by simp [Exp.cnt], fun h => (by cases h), fun x h => (by cases h), fun x y h => ?_⟩
        · simp only [List.mem_cons, List.not_mem_nil, or_false] at hq
          rcases hq with rfl | rfl
          · exact ka (by omega)
          · exact kc (by omega)
        · cases h
          rw [er, Exp.ord]
          by_cases w : a.need < c.need
          · rw [if_pos ⟨by omega, by omega, w⟩, if_pos w]
          · rw [if_neg (fun h => w h.2.2), if_neg w]
def ordK (ks : List (Exp × Int)) : List Int := ks.flatMap fun q => q.1.ord q.2
theorem w_cutN {σ : L2.St} {H : Hp} {nx : L2.St → Hp → Prop} {rt : VK} {bk ct : L2.St → Hp → Prop} {T : L2.TS} (Φ : L2.St → Hp → Prop) (hN : ∀ σ' H', Φ σ' H' → nx σ' H') (k : ∀ N : L2.St → Hp → Prop, (∀ σ' H', Φ σ' H' → N σ' H') → T ⟨N, rt, bk, ct⟩ σ H) : T ⟨nx, rt, bk, ct⟩ σ H := k nx hN
def spGo (K : PySem.W.Frag) (C : Addr) (n : Nat) : Sp := fun vs H Q _ => ∃ p dx l ol nl ss e b os, vs = [.ref p, .int (b + e.cnt - 1)] ∧ OkE n e ∧ 0 < e.cnt ∧ TreeAt ss e b ∧ H p = some (.ins C dx (flds l ol nl)) ∧ PK K H l ss ∧ l ≠ ol ∧ ol ≠ nl ∧
  H ol = some (.lst (List.map V.int os)) ∧ H nl = some (.lst (natV (ndsL (restsL ss)))) ∧ os.length + e.cnt ≤ 1000 ∧ ∀ H', H' ol = some (.lst ((os ++ e.ord b).map V.int)) → But ol H H' → Q .non H'
theorem len_Order_go_through {K : PySem.W.Frag} {C : Addr} {n : Nat} {vs H Q E} (h : spGo K C n vs H Q E) : vs.length = 2 := by obtain ⟨_, _, _, _, _, _, _, _, _, rfl, _⟩ := h; rfl
theorem no_Order_go_through {K : PySem.W.Frag} {C : Addr} {vs H Q E} (h : spGo K C 0 vs H Q E) : False := by obtain ⟨_, _, _, _, _, _, _, _, _, _, h, _⟩ := h; exact okE_0 h
section
variable {P : Program} {w : World} {K : PySem.W.Frag} {mg : Str → Option Value}
theorem ok_Order_go_through [c : Facts K mg] (G_own_parts : Fn P w K mg "own_parts" 1 ["part"] ((spOwnP K))) : ∀ n : Nat, FnA P w K mg (He.ma K (He.ga K "Order") "go_through") (n + 2) ["self", "number"] ((spGo K (He.ga K "Order") n))
  | 0 => by
    obtain ⟨fd, F⟩ := c.dm_Order_go_through
    exact FnA.mk' (k := 1) F sc_Order_go_through (fun vs H Q E h => (no_Order_go_through h).elim) (fun _ _ _ _ _ _ us hl => match us, hl with | [_, _], _ => rfl) (fun base cdv A outer s H vs Q E hr h => (no_Order_go_through h).elim)
  | n + 1 => by
    have GM_Order_go_through := ok_Order_go_through G_own_parts n
    obtain ⟨fd, F⟩ := c.dm_Order_go_through
    refine FnA.mk' F sc_Order_go_through (k := n + 2) (fun vs H Q E h => ?_) (fun _ _ _ _ _ _ us hl => match us, hl with | [_, _], _ => rfl) (fun base cdv A outer s H vs Q E hr h => ?_)
    · exact len_Order_go_through h
    · have nd := sc_Order_go_through.nd
      have hu := hu_of hr
      have hr_own_parts : Room 1 _ := hr.mono (by omega)
      have hrM_Order_go_through : Room (n + 2) _ := hr.mono (by omega)
      refine ⟨_, (pss_cons (ps_set (i := 2) nd rfl (Or.inl rfl) (pe_fn G_own_parts hr_own_parts (by rfl) (pa_cons (pe_ix (ix_any (K := K) rfl) (pe_fldK (K := K) rfl (pv 0)) (pv 1) (fun _ _ => rfl)) pa_nil)))
      (pss_cons (ps_if (PW.pt (pw_and (pt_cmpR (op_eqA (K := K) rfl hr.units) (pe_callB (call_lenA (K := K) rfl) (by rfl) c.f_len boot_len (pa_cons (pv 2) pa_nil)) pe_int (nomark _)) (pw_and1 (pt_cmpR op_lt (pe_ix (ix_any (K := K) rfl) (pe_fldK (K := K) rfl (pv 0)) (pe_ix (ix_any (K := K) rfl) (pv 2) pe_int (fun _ _ => rfl)) (fun _ _ => rfl)) (pe_ix (ix_any (K := K) rfl) (pe_fldK (K := K) rfl (pv 0)) (pe_ix (ix_any (K := K) rfl) (pv 2) pe_int (fun _ _ => rfl)) (fun _ _ => rfl)) (nomark _))))) (pss_one (ps_set (i := 2) nd rfl (Or.inl rfl) (pe_lst (pa_cons (pe_ix (ix_any (K := K) rfl) (pv 2) pe_int (fun _ _ => rfl)) (pa_cons (pe_ix (ix_any (K := K) rfl) (pv 2) pe_int (fun _ _ => rfl)) pa_nil))))) pss_nil)
      (pss_cons (ps_for PassesOwn.never rfl (pi_list (pv 2)) (pg_name (i := 3) nd rfl (Or.inl rfl)) (pss_one (ps_expr (pe_met GM_Order_go_through rfl c.cl_Order c.me_Order_go_through hrM_Order_go_through (pv 0) (pa_cons (pv 3) pa_nil)))))
      (pss_one (ps_expr (pe_bm PySem.F.plainAttrs_list PySem.F.slot_list_append PySem.F.type_list_append mt_append (pe_fldK (K := K) rfl (pv 0)) (pa_cons (pv 1) pa_nil))))))), ?_⟩
      try dsimp only [cxOf, Cx.nox, Cx.wish]
      obtain ⟨p, dx, l, ol, nl, ss, e, b, os, rfl, oe, hc, ta, hp, pk, nlo, non, hol, hnl, hsz, q⟩ := h
      obtain ⟨xs2, v2, d2, hx2, ha2, hd2, hr2, ho2⟩ := pk.at (x := b + e.cnt - 1) (by have := ta.lo; omega) (by have := ta.hi; omega)
      obtain ⟨ks, kk⟩ := kids_of ta oe hc
      have npo : p ≠ ol := ne_of hp hol (by intro z; cases z)
      repeat walk_at "w"
      refine ⟨v2, d2, rfl, hd2, hr2, fun w1 H1 f1 s1 n1 => ?_⟩
      rw [ho2, kk.own] at f1
      have hp1 := s1 _ _ hp
      have hnl1 := s1 _ _ hnl
      have hol1 := s1 _ _ hol
      refine w_gName ?_
      refine w_seq ?_
      refine w_cutN (fun σ' H' => ∃ cs w2 o3, σ' = [some (.ref p), some (.int (b + e.cnt - 1)), some (.ref w2), o3] ∧ Same H1 H' ∧ H' w2 = some (.lst ((cs.map rootO).map V.int)) ∧ w2 ≠ ol ∧ e.ord b = ordK cs ++ [b + e.cnt - 1] ∧ (cs.map fun q => q.1.cnt).sum + 1 = e.cnt ∧ ∀ q ∈ cs, OkE n q.1 ∧ 0 < q.1.cnt ∧ TreeAt ss q.1 q.2) (fun σ' H' hp' => ?_) (fun N hN => ?_)
      · obtain ⟨cs, w2, o3, rfl, sm, hw2, nw2, eo, ec, hk⟩ := hp'
        have hp2 := sm _ _ hp1
        have hnl2 := sm _ _ hnl1
        have hol2 := sm _ _ hol1
        have pk2 := (pk.sm s1).sm sm
        repeat walk_at "w"
        refine fl_list ((cs.map rootO).map V.int) (fun i σ H3 => ∃ o3, σ = [some (.ref p), some (.int (b + e.cnt - 1)), some (.ref w2), o3] ∧ But ol H' H3 ∧ H3 ol = some (.lst ((os ++ ordK (cs.take i)).map V.int))) (SqL.of hw2) ⟨_, rfl, But.refl _ _, by rw [List.take_zero, show ordK [] = [] from rfl, List.append_nil]; exact hol2⟩ (fun i σ H3 hi hp' => ?_) (fun i x σ H3 hx hp' => ?_) (fun σ H3 hp' => ?_)
        · obtain ⟨_, _, bb, _⟩ := hp'
          exact SqL.of (bb _ _ nw2 hw2)
        · obtain ⟨o3, rfl, bb, ho3⟩ := hp'
          rw [List.getElem?_map] at hx
          obtain ⟨r, hr, rfl⟩ := Option.map_eq_some_iff.mp hx
          rw [List.getElem?_map] at hr
          obtain ⟨c, hcx, rfl⟩ := Option.map_eq_some_iff.mp hr
          obtain ⟨k1, k2, k3⟩ := hk c (List.mem_of_getElem? hcx)
          have hp3 := bb _ _ npo hp2
          have sz : ((cs.take i).map fun q => q.1.cnt).sum + c.1.cnt ≤ (cs.map fun q => q.1.cnt).sum := by
            have e1 : cs = cs.take i ++ c :: cs.drop (i + 1) := by
              obtain ⟨hi, rfl⟩ := List.getElem?_eq_some_iff.mp hcx
              rw [List.getElem_cons_drop, List.take_append_drop]
            conv => rhs; rw [e1]
            rw [List.map_append, List.sum_append, List.map_cons, List.sum_cons]; omega
          have ol' : (ordK (cs.take i)).length = ((cs.take i).map fun q => q.1.cnt).sum := by
            have one : ∀ (e : Exp) (b : Int), (e.ord b).length = e.cnt := fun e => by
              induction e with
              | num => intro b; rfl
              | fld => intro b; rfl
              | plc => intro b; rfl
              | mrk => intro b; rfl
              | cell a ih => intro b; rw [Exp.ord, List.length_append, ih]; rfl
              | two o a c iha ihc =>
                intro b
                rw [Exp.ord, List.length_append]
                by_cases z : 0 < a.cnt ∧ 0 < c.cnt ∧ a.need < c.need
                · rw [if_pos z, List.length_append, iha, ihc]; simp [Exp.cnt]; omega
                · rw [if_neg z, List.length_append, iha, ihc]; simp [Exp.cnt]
            generalize cs.take i = l
            induction l with
            | nil => rfl
            | cons a l ih => rw [show ordK (a :: l) = a.1.ord a.2 ++ ordK l from List.flatMap_cons, List.length_append, one, ih, List.map_cons, List.sum_cons]
          repeat walk_at "w"
          refine ⟨p, dx, l, ol, nl, ss, c.1, c.2, os ++ ordK (cs.take i), rfl, k1, k2, k3, hp3, pk2.bl hol2 nlo bb, nlo, non, ho3, bb _ _ non.symm hnl2, by rw [List.length_append, ol']; omega, fun H4 h4 e4 => ?_⟩
          repeat walk_at "w"
          refine ⟨_, rfl, bb.trans e4, ?_⟩
          rw [take_snoc hcx]
          have : ordK (cs.take i ++ [c]) = ordK (cs.take i) ++ c.1.ord c.2 := by unfold ordK; rw [List.flatMap_append]; simp
          rw [this, ← List.append_assoc]; exact h4
        · obtain ⟨o3, rfl, bb, ho3⟩ := hp'
          rw [List.length_map, List.length_map, List.take_length] at ho3
          have hp3 := bb _ _ npo hp2
          have oll : (os ++ ordK cs).length ≤ 1000 := by
            have : (e.ord b).length = e.cnt := by
              have one : ∀ (e : Exp) (b : Int), (e.ord b).length = e.cnt := fun e => by
                induction e with
                | num => intro b; rfl
                | fld => intro b; rfl
                | plc => intro b; rfl
                | mrk => intro b; rfl
                | cell a ih => intro b; rw [Exp.ord, List.length_append, ih]; rfl
                | two o a c iha ihc =>
                  intro b
                  rw [Exp.ord, List.length_append]
                  by_cases z : 0 < a.cnt ∧ 0 < c.cnt ∧ a.need < c.need
                  · rw [if_pos z, List.length_append, iha, ihc]; simp [Exp.cnt]; omega
                  · rw [if_neg z, List.length_append, iha, ihc]; simp [Exp.cnt]
              exact one e b
            rw [eo, List.length_append, List.length_singleton] at this
            rw [List.length_append]; omega
          repeat walk_at "w"
          refine w_append ho3 (by rw [sizeLine_eq, List.length_map]; omega) ?_
          refine w_chg fun H4 e4 f4 => ?_
          repeat walk_at "w"
          refine q H4 ?_ (((But.of (s1.trans sm)).trans bb).trans e4)
          rw [eo, ← List.append_assoc, List.map_append]; exact f4
      · have nw1 : w1 ≠ ol := (ne_of_none hol n1).symm
        match ks, kk, f1 with
        | [], kk, f1 =>
          repeat walk_at "w"
          refine ite2 (fun h => absurd h (by simp)) (fun _ => ?_)
          repeat walk_at "w"
          exact hN _ _ ⟨[], w1, _, rfl, Same.refl _, f1, nw1, kk.ord0 rfl, kk.cnt, kk.ok⟩
        | [x], kk, f1 =>
          repeat walk_at "w"
          refine ite2 (fun h => absurd h (by simp)) (fun _ => ?_)
          repeat walk_at "w"
          exact hN _ _ ⟨[x], w1, _, rfl, Same.refl _, f1, nw1, by rw [kk.ord1 x rfl]; simp [ordK], kk.cnt, kk.ok⟩
        | [x, y], kk, f1 =>
          have f1' : H1 w1 = some (.lst [.int (rootO x), .int (rootO y)]) := f1
          obtain ⟨x1, x2, x3⟩ := kk.ok x List.mem_cons_self
          obtain ⟨y1, y2, y3⟩ := kk.ok y (List.mem_cons_of_mem _ List.mem_cons_self)
          have hat : ∀ z : Exp × Int, 0 < z.1.cnt → TreeAt ss z.1 z.2 → atI (natV (ndsL (restsL ss))) (rootO z) = some (.int (z.1.need : Nat)) := fun z h1 h2 => by
            have lo := h2.lo
            have hi := h2.hi
            have e1 := nd_root h2.nd h1
            refine natV_at (by unfold rootO; omega) ?_
            unfold nedF at e1
            rw [List.getD_eq_getElem?_getD] at e1
            have hl : (rootO z).toNat < (ndsL (restsL ss)).length := by rw [ndsL_len]; unfold nOf at hi; unfold rootO; omega
            rw [List.getElem?_eq_getElem hl]
            rw [show z.2 + (z.1.cnt : Int) - 1 = rootO z from rfl, List.getElem?_eq_getElem hl] at e1
            exact congrArg some e1
          have hx' := hat x x2 x3
          have hy' := hat y y2 y3
          repeat walk_at "w"
          refine ite2 (fun _ => ?_) (fun h => (h (by simp)).elim)
          repeat walk_at "w"
          refine ite2 (fun h3 => ?_) (fun h3 => ?_)
          · rw [decide_eq_true_eq] at h3
            repeat walk_at "w"
            refine w_new fun w2 H2 n2 s2 f2 => ?_
            repeat walk_at "w"
            refine hN _ _ ⟨[y, x], w2, _, rfl, s2, f2, (ne_of_none hol1 n2).symm, ?_, ?_, fun q hq => ?_⟩
            · rw [kk.ord2 x y rfl, if_pos (by omega)]; simp [ordK]
            · have := kk.cnt
              simp only [List.map_cons, List.map_nil, List.sum_cons, List.sum_nil] at this ⊢
              omega
            · simp only [List.mem_cons, List.not_mem_nil, or_false] at hq
              rcases hq with rfl | rfl
              · exact ⟨y1, y2, y3⟩
              · exact ⟨x1, x2, x3⟩
          · rw [decide_eq_true_eq] at h3
            repeat walk_at "w"
            refine hN _ _ ⟨[x, y], w1, _, rfl, Same.refl _, f1, nw1, ?_, kk.cnt, kk.ok⟩
            rw [kk.ord2 x y rfl, if_neg (by omega)]; simp [ordK]
        | _ :: _ :: _ :: _, kk, _ => exact absurd kk.few (by simp)
end

end J
namespace J
open PySem PySem.Spec PyProof.Rows L2
local macro_rules | `(tactic| walk_at "cls") => `(tactic| first
  | with_reducible exact Facts.cl_Step
  | with_reducible exact Facts.cl_Get
  | with_reducible exact Facts.cl_Ask
  | with_reducible exact Facts.cl_Cell
  | with_reducible exact Facts.cl_Two
  | with_reducible exact Facts.cl_Put
  | with_reducible exact Facts.cl_Tell
  | with_reducible exact Facts.cl_Store
  | with_reducible exact Facts.cl_Parts
  | with_reducible exact Facts.cl_Order)
local macro_rules | `(tactic| walk_at "na") => `(tactic| first
  | with_reducible exact Facts.na_Get_to
  | with_reducible exact Facts.na_Get_sel
  | with_reducible exact Facts.na_Ask_to
  | with_reducible exact Facts.na_Ask_sel
  | with_reducible exact Facts.na_Cell_to
  | with_reducible exact Facts.na_Cell_source
  | with_reducible exact Facts.na_Two_to
  | with_reducible exact Facts.na_Two_op
  | with_reducible exact Facts.na_Two_one
  | with_reducible exact Facts.na_Two_other
  | with_reducible exact Facts.na_Put_sel
  | with_reducible exact Facts.na_Put_source
  | with_reducible exact Facts.na_Tell_sel
  | with_reducible exact Facts.na_Tell_source
  | with_reducible exact Facts.na_Store_at
  | with_reducible exact Facts.na_Store_source
  | with_reducible exact Facts.na_Parts_rows
  | with_reducible exact Facts.na_Order_parts
  | with_reducible exact Facts.na_Order_order
  | with_reducible exact Facts.na_Order_needed)
local macro_rules | `(tactic| walk_at "ty") => `(tactic| first
  | with_reducible exact ty_int
  | with_reducible exact ty_bl
  | with_reducible exact ty_str
  | with_reducible exact ty_non
  | ((with_reducible refine' ty_lst ?vv); (case vv => walk_at "tr"))
  | ((with_reducible refine' ty_sqT ?vv); (case vv => walk_at "tr"))
  | ((with_reducible refine' ty_dic ?vv); (case vv => walk_at "tr")))
local macro_rules | `(tactic| walk_at "ix") => `(tactic| first | exact at0 | exact at1 | exact at2 | assumption)
local macro_rules | `(tactic| walk_at "size") => `(tactic| first
  | assumption
  | (show _ < sizeLine; rw [sizeLine_eq]; (try simp only [List.length_cons, List.length_nil, List.length_append, List.length_map]); omega)
  | (show _ ≤ sizeLine; rw [sizeLine_eq]; (try simp only [List.length_cons, List.length_nil, List.length_append, List.length_map]); omega))
local macro_rules | `(tactic| walk_at "side") => `(tactic| first
  | assumption
  | ((with_reducible refine cdw ?_ ?_) <;> omega)
  | omega
  | (exact ⟨by omega, by omega⟩)
  | (exact Or.inl ⟨by omega, by omega⟩)
  | (exact Or.inr ⟨by omega, by omega⟩)
  | decide
  | (simp only [List.length_cons, List.length_nil, List.length_append, List.length_map]; omega)
  | (show _ ≤ _; decide))
local macro_rules | `(tactic| walk_at "as") => `(tactic| with_reducible assumption)
local macro_rules | `(tactic| walk_at "tr") => `(tactic| first
  | with_reducible assumption
  | with_reducible exact upd_same
  | ((with_reducible refine' SqL.of ?hh); (case hh => walk_at "as"))
  | ((with_reducible refine' SqT.of ?hh); (case hh => walk_at "as"))
  | ((with_reducible refine' Same.stm ?ee ?gg); (case ee => walk_at "as"); (case gg => walk_at "tr"))
  | ((with_reducible refine' Same.sqT ?ee ?gg); (case ee => walk_at "as"); (case gg => walk_at "tr"))
  | ((with_reducible refine' Same.sqL ?ee ?gg); (case ee => walk_at "as"); (case gg => walk_at "tr"))
  | ((with_reducible refine' Same.at ?ee ?gg); (case ee => walk_at "as"); (case gg => walk_at "tr"))
  | ((with_reducible refine' But.stm ?ee ?ff ?gg); (case ee => walk_at "as"); (case ff => walk_at "ne"); (case gg => walk_at "tr"))
  | ((with_reducible refine' But.tup ?ee ?ff ?gg); (case ee => walk_at "as"); (case ff => walk_at "tr1"); (case gg => walk_at "tr"))
  | ((with_reducible refine' But.sqT ?ee ?ff ?gg); (case ee => walk_at "as"); (case ff => walk_at "tr1"); (case gg => walk_at "tr"))
  | ((with_reducible refine' But.tupL ?ee ?ff ?gg); (case ee => walk_at "as"); (case ff => walk_at "tr1"); (case gg => walk_at "tr"))
  | ((with_reducible refine' But.sqTL ?ee ?ff ?gg); (case ee => walk_at "as"); (case ff => walk_at "tr1"); (case gg => walk_at "tr"))
  | ((with_reducible refine' But.sqL ?ee ?ff ?gg); (case ee => walk_at "as"); (case ff => walk_at "ne"); (case gg => walk_at "tr"))
  | ((with_reducible refine' But.at ?ee ?ff ?gg); (case ee => walk_at "as"); (case ff => walk_at "ne"); (case gg => walk_at "tr")))
local macro_rules | `(tactic| walk_at "ts") => `(tactic| first
  | with_reducible assumption
  | with_reducible exact TS.refl _
  | ((with_reducible refine' TS.trans ?gg (TS.of ?ee)); (case ee => walk_at "as"); (case gg => walk_at "ts"))
  | ((with_reducible refine' TS.trans ?gg (TS.butS ?ee ?ff)); (case ee => walk_at "as"); (case ff => walk_at "tr1"); (case gg => walk_at "ts"))
  | ((with_reducible refine' TS.trans ?gg (TS.butL ?ee ?ff)); (case ee => walk_at "as"); (case ff => walk_at "tr1"); (case gg => walk_at "ts"))
  | ((with_reducible refine' TS.trans ?gg (TS.butI ?ee ?ff)); (case ee => walk_at "as"); (case ff => walk_at "tr1"); (case gg => walk_at "ts")))
local macro_rules | `(tactic| walk_at "sm") => `(tactic| first
  | with_reducible assumption
  | with_reducible exact Same.refl _
  | ((with_reducible refine' Same.trans ?gg ?ee); (case ee => walk_at "as"); (case gg => walk_at "sm"))
  | ((with_reducible refine' But.new ?gg ?nn ?ee); (case ee => walk_at "as"); (case nn => walk_at "fr"); (case gg => walk_at "sm")))
local macro_rules | `(tactic| walk_at "fr") => `(tactic| first
  | with_reducible assumption
  | ((with_reducible refine' Same.back ?ee ?nn); (case nn => walk_at "as"); (case ee => walk_at "sm"))
  | ((with_reducible refine' But.back ?ee ?ff ?nn); (case nn => walk_at "as"); (case ff => walk_at "ne0"); (case ee => walk_at "bu")))
local macro_rules | `(tactic| walk_at "bu") => `(tactic| first
  | with_reducible assumption
  | with_reducible exact But.refl _ _
  | ((with_reducible refine' But.trans ?gg ?ee); (case ee => walk_at "as"); (case gg => walk_at "bu"))
  | ((with_reducible refine' But.trans ?gg (But.of ?ee)); (case ee => walk_at "as"); (case gg => walk_at "bu"))
  | ((with_reducible refine' But.new2 ?gg ?nn ?ee); (case ee => walk_at "as"); (case nn => walk_at "frB"); (case gg => walk_at "bu")))
local macro_rules | `(tactic| walk_at "frB") => `(tactic| first
  | with_reducible assumption
  | ((with_reducible refine' Same.back ?ee ?nn); (case nn => walk_at "as"); (case ee => walk_at "sm"))
  | ((with_reducible refine' But.back' ?ee ?ff ?nn); (case nn => walk_at "as"); (case ee => walk_at "bu"); (case ff => walk_at "tr1")))
local macro_rules | `(tactic| walk_at "tr1") => `(tactic| first
  | with_reducible assumption
  | ((with_reducible refine' Same.stm ?ee ?gg); (case ee => walk_at "as"); (case gg => walk_at "tr1"))
  | ((with_reducible refine' Same.at ?ee ?gg); (case ee => walk_at "as"); (case gg => walk_at "tr1"))
  | ((with_reducible refine' But.at ?ee ?ff ?gg); (case ee => walk_at "as"); (case ff => walk_at "ne0"); (case gg => walk_at "tr1"))
  | ((with_reducible refine' But.stm ?ee ?ff ?gg); (case ee => walk_at "as"); (case ff => walk_at "ne0"); (case gg => walk_at "tr1")))
local macro_rules | `(tactic| walk_at "ne0") => `(tactic| first
  | with_reducible assumption
  | (with_reducible apply Ne.symm; with_reducible assumption))
local macro_rules | `(tactic| walk_at "ne") => `(tactic| first
  | with_reducible assumption
  | (with_reducible apply Ne.symm; with_reducible assumption)
  | ((with_reducible refine' stm_ne ?hh ?nn); (case nn => walk_at "as"); (case hh => walk_at "tr1"))
  | ((with_reducible refine' ne_of_none ?hh ?nn); (case nn => walk_at "as"); (case hh => walk_at "tr1"))
  | ((with_reducible apply Ne.symm); (with_reducible refine' ne_of_none ?hh ?nn); (case nn => walk_at "as"); (case hh => walk_at "tr1")))
local macro_rules | `(tactic| walk_at "v") => `(tactic| first
  | with_reducible refine w_seq ?_
  | ((with_reducible refine' w_var ?vv ?_); (case vv => exact rfl))
  | with_reducible refine w_c ?_
  | with_reducible refine w_op ?_
  | with_reducible refine w_asg ?_
  | with_reducible refine w_gName ?_
  | with_reducible refine w_ret ?_
  | with_reducible refine w_ifS ?_
  | with_reducible refine w_drop ?_
  | with_reducible refine w_next ?_
  | with_reducible refine w_cons ?_
  | with_reducible refine w_nil ?_
  | with_reducible refine w_call ?_
  | with_reducible refine w_cb ?_
  | with_reducible refine w_rI0 ?_
  | with_reducible refine w_addI ?_
  | with_reducible refine w_eqI ?_
  | with_reducible refine w_neI ?_
  | with_reducible refine w_eqS ?_
  | with_reducible refine w_neS ?_
  | with_reducible refine w_eqB ?_
  | with_reducible refine w_neB ?_
  | with_reducible refine w_chain ?_
  | with_reducible refine w_test ?_
  | with_reducible refine w_tB ?_
  | with_reducible refine w_bl ?_
  | ((with_reducible refine' w_mulI ?vv ?_); (case vv => walk_at "side"))
  | ((with_reducible refine' w_rI ?vv ?_); (case vv => walk_at "side"))
  | with_reducible refine w_int1 ?_
  | with_reducible refine w_int1b ?_
  | with_reducible refine w_tup ?_
  | with_reducible refine w_lst ?_
  | with_reducible refine w_un ?_
  | with_reducible refine w_rU ?_
  | with_reducible refine w_not ?_
  | with_reducible refine w_notV ?_
  | with_reducible refine w_ifE ?_
  | with_reducible refine w_nT ?_
  | with_reducible refine w_nF ?_
  | with_reducible refine iteT ?_
  | with_reducible refine iteF ?_
  | ((with_reducible refine' w_ixT ?vv ?ww ?_); (case vv => walk_at "tr"); (case ww => walk_at "ix"))
  | ((with_reducible refine' w_ixL ?vv ?ww ?_); (case vv => walk_at "tr"); (case ww => walk_at "ix"))
  | with_reducible refine w_gSub ?_
  | ((with_reducible refine' w_setL ?vv ?ww ?_); (case vv => walk_at "tr"); (case ww => first | rfl | decide | assumption))
  | ((with_reducible refine' w_lenL ?vv ?_); (case vv => walk_at "tr"))
  | ((with_reducible refine' w_lenT ?vv ?_); (case vv => walk_at "tr"))
  | with_reducible refine w_max2 ?_
  | with_reducible refine w_max3 ?_
  | with_reducible refine w_din ?_
  | with_reducible refine w_dnotin ?_
  | with_reducible refine w_dput ?_
  | with_reducible refine w_min2 ?_
  | with_reducible refine w_bm ?_
  | with_reducible refine w_bm0 ?_
  | ((with_reducible refine' w_tyL ?vv ?_); (case vv => walk_at "tr"))
  | ((with_reducible refine' w_append ?vv ?ww ?_); (case vv => walk_at "tr"); (case ww => walk_at "size"))
  | ((with_reducible refine' w_size ?vv ?_); (case vv => walk_at "size"))
  | with_reducible refine w_forL ?_
  | with_reducible refine w_forT ?_
  | with_reducible refine w_forR1 ?_
  | with_reducible refine w_forR2 ?_
  | with_reducible refine w_lcL ?_
  | with_reducible refine w_lcT ?_
  | with_reducible refine w_lcR1 ?_
  | with_reducible refine w_yes ?_
  | with_reducible refine w_sl ?_
  | with_reducible refine w_noPart ?_
  | with_reducible refine w_part ?_
  | with_reducible refine w_int ?_
  | ((with_reducible refine' w_slL ?vv ?_); (case vv => walk_at "tr"))
  | ((with_reducible refine' w_seqL ?vv ?ww ?_); (case vv => walk_at "tr"); (case ww => rfl))
  | ((with_reducible refine' w_seqT ?vv ?ww ?_); (case vv => walk_at "tr"); (case ww => rfl))
  | with_reducible refine w_gNil ?_
  | with_reducible refine w_gCons ?_
  | with_reducible refine w_forZ ?_
  | with_reducible refine w_forM ?_
  | with_reducible refine w_forE ?_
  | with_reducible refine w_forV ?_
  | with_reducible refine w_lcZ ?_
  | with_reducible refine w_lcE ?_
  | ((with_reducible refine' w_isi (b := true) ?vv ?ww ?_); (case vv => walk_at "ty"); (case ww => decide +kernel))
  | ((with_reducible refine' w_isi (b := false) ?vv ?ww ?_); (case vv => walk_at "ty"); (case ww => decide +kernel))
  | with_reducible refine w_revL ?_
  | with_reducible refine w_pairN ?_
  | with_reducible refine w_pairC ?_
  | with_reducible refine w_dget ?_
  | with_reducible refine w_met ?_
  | ((with_reducible refine' w_metAt ?vv ?ww ?_); (case vv => walk_at "tr"); (case ww => rfl))
  | with_reducible refine w_mkI ?_
  | with_reducible refine w_fld ?_
  | ((with_reducible refine' w_fldAt ?vv ?cc ?nn ?ww ?_); (case vv => walk_at "tr"); (case cc => walk_at "cls"); (case nn => walk_at "na"); (case ww => rfl))
  | with_reducible refine w_sfld ?_
  | ((with_reducible refine' w_sfldAt ?vv ?cc ?nn ?ll ?ee ?_); (case vv => walk_at "tr"); (case cc => walk_at "cls"); (case nn => walk_at "na"); (case ll => simp); (case ee => rfl))
  | ((with_reducible refine' w_tupL ?vv ?_); (case vv => walk_at "tr"))
  | ((with_reducible refine' w_tupT ?vv ?_); (case vv => walk_at "tr"))
  | ((with_reducible refine' w_listL ?vv ?_); (case vv => walk_at "tr"))
  | ((with_reducible refine' w_listT ?vv ?_); (case vv => walk_at "tr"))
  | with_reducible refine w_tyS ?_
  | with_reducible refine w_retN ?_
  | with_reducible refine w_break ?_
  | with_reducible refine w_cont ?_)
local macro_rules | `(tactic| walk_at "w") => `(tactic| first
  | walk_at "v"
  | with_reducible refine w_or ?_
  | with_reducible refine w_and ?_
  | with_reducible refine w_andV ?_
  | with_reducible refine w_orV ?_)
local macro_rules | `(tactic| walk_at "wd") => `(tactic| first
  | walk_at "w"
  | ((with_reducible refine' w_decT ?vv ?_); (case vv => decide +kernel))
  | ((with_reducible refine' w_decF ?vv ?_); (case vv => decide +kernel)))
local macro_rules | `(tactic| walk_at "tz") => `(tactic| (intro S z; (repeat walk_at "w"); exact z))
local macro_rules | `(tactic| walk_at "wf") => `(tactic| first
  | walk_at "wd"
  | ((with_reducible refine' w_decF ?vv ?_); (case vv => with_reducible assumption)))
def spBest (K : PySem.W.Frag) : Sp := fun vs H Q _ => ∃ v ss, vs = [v] ∧ Dp K H v (setsD ss) ∧ ss.length ≤ 4 ∧ (∀ x ∈ ss, OkS 4 x) ∧
  ∀ q H' L, Srt ss L → H' q = some (.lst ((ordL L).map V.int)) → Same H H' → H q = none → Q (.ref q) H'
theorem len_best_order {K : PySem.W.Frag} {vs H Q E} (h : spBest K vs H Q E) : vs.length = 1 := by obtain ⟨_, _, rfl, _⟩ := h; rfl
theorem offs_fst : ∀ {es : List Exp} {b : Int} {p : Exp × Int}, p ∈ offs es b → p.1 ∈ es
  | [], _, _, h => (List.not_mem_nil h).elim
  | e :: es, b, p, h => by
    rcases List.mem_cons.mp h with rfl | h
    · exact List.mem_cons_self
    · exact List.mem_cons_of_mem _ (offs_fst h)
theorem restsL_ok {ss : List SetE} {n : Nat} (h : ∀ s ∈ ss, OkS n s) : ∀ e ∈ restsL ss, OkE n e := fun e he => by
  obtain ⟨s, hs, hes⟩ := List.mem_flatMap.mp he
  exact okS_rests (h s hs) e hes
theorem tree_at {ss : List SetE} {p : Exp × Int} (h : p ∈ offs (restsL ss) 0) : TreeAt ss p.1 p.2 := by
  have := offs_ge h
  exact ⟨ownF_tr ss p h, nedF_nd ss p h, this.1, by unfold nOf; omega⟩
section
variable {P : Program} {w : World} {K : PySem.W.Frag} {mg : Str → Option Value}
theorem ok_best_order [c : Facts K mg] (G_falling : Fn P w K mg "falling" 8 ["sets"] ((spFall K))) (G_parts_of : Fn P w K mg "parts_of" 7 ["sets"] ((spPof K))) (GM_Order___init__ : FnA P w K mg (He.ma K (He.ga K "Order") "__init__") 3 ["self", "parts"] ((spOrdInit K (He.ga K "Order")))) (GM_Order_go_through : FnA P w K mg (He.ma K (He.ga K "Order") "go_through") 6 ["self", "number"] ((spGo K (He.ga K "Order") 4))) : Fn P w K mg "best_order" 9 ["sets"] ((spBest K)) := by
  obtain ⟨fd, F⟩ := c.d_best_order
  refine Fn.mk' F c.g_best_order sc_best_order (k := 8) (fun vs H Q E h => ?_) (fun _ _ _ _ _ _ us hl => match us, hl with | [_], _ => rfl) (fun base cdv A outer s H vs Q E hr h => ?_)
  · exact len_best_order h
  · have nd := sc_best_order.nd
    have hu := hu_of hr
    have hr_falling : Room 8 _ := hr.mono (by omega)
    have hr_parts_of : Room 7 _ := hr.mono (by omega)
    have hrI_Order : Room (3 + 1) _ := hr.mono (by omega)
    have hrM_Order_go_through : Room 6 _ := hr.mono (by omega)
    refine ⟨_, (pss_cons (ps_set (i := 1) nd rfl (Or.inl rfl) (pe_mkI GM_Order___init__ rfl c.mk_Order c.gc_Order hrI_Order (by rfl) (pa_cons (pe_fn G_parts_of hr_parts_of (by rfl) (pa_cons (pv 0) pa_nil)) pa_nil)))
      (pss_cons (ps_for PassesOwn.never rfl (pi_list (pe_fn G_falling hr_falling (by rfl) (pa_cons (pv 0) pa_nil))) (pg_seq 3 (K := K) rfl rfl (pgs_cons (pg_name (i := 2) nd rfl (Or.inl rfl)) (pgs_cons (pg_name (i := 3) nd rfl (Or.inl rfl)) (pgs_cons (pg_name (i := 4) nd rfl (Or.inl rfl)) pgs_nil)))) (pss_one (ps_expr (pe_met GM_Order_go_through rfl c.cl_Order c.me_Order_go_through hrM_Order_go_through (pv 1) (pa_cons (pv 4) pa_nil)))))
      (pss_one (ps_ret (pe_fldK (K := K) rfl (pv 1)))))), ?_⟩
    try dsimp only [cxOf, Cx.nox, Cx.wish]
    obtain ⟨v, ss, rfl, hv, hl, ho, q⟩ := h
    repeat walk_at "w"
    refine ⟨v, ss, rfl, hv, hl, ho, fun l H1 hP nl0 s1 => ?_⟩
    have pk : PK K H1 l ss := ⟨hP, ho, hl⟩
    repeat walk_at "w"
    refine w_newI fun p dx H2 n2 s2 f2 => ?_
    refine ⟨p, dx, l, ss, rfl, f2, pk.sm s2, fun ol nl H3 f3 fo fn no nn non b3 => ⟨rfl, ?_⟩⟩
    have s13 : Same H1 H3 := But.new s2 n2 b3
    have pk3 := pk.sm s13
    have noH : H1 ol = none := s2.free no
    have nnH : H1 nl = none := s2.free nn
    obtain ⟨us, hus, hun, hul⟩ := pk.len
    have nlo : l ≠ ol := ne_of_none hus noH
    repeat walk_at "w"
    refine ⟨v, ss, rfl, dp_ts (TS.of (s1.trans s13)) _ _ (setsD_t ss) hv, hl, ho, fun f H4 Z hf hZ hw ht s4 nf => ?_⟩
    have nfo : f ≠ ol := fun z => by rw [z, fo] at nf; cases nf
    have srt : Srt ss (Z.map Prod.snd) := ⟨hZ, by rw [List.pairwise_map]; exact hw⟩
    have fo4 := s4 _ _ fo
    have npo : p ≠ ol := ne_of f3 fo (by intro z; cases z)
    refine fl_list (Z.map Prod.fst) (fun i σ H' => ∃ o2 o3 o4, σ = [some v, some (.ref p), o2, o3, o4] ∧ But ol H4 H' ∧ H' ol = some (.lst ((ordL ((Z.map Prod.snd).take i)).map V.int))) (SqL.of hf) ⟨_, _, _, rfl, But.refl _ _, fo4⟩ (fun i σ H' hi hp => ?_) (fun i x σ H' hx hp => ?_) (fun σ H' hp => ?_)
    · obtain ⟨_, _, _, _, b, _⟩ := hp
      exact SqL.of (b _ _ nfo hf)
    · obtain ⟨o2, o3, o4, rfl, b, hol⟩ := hp
      rw [List.getElem?_map] at hx
      obtain ⟨z, hz, rfl⟩ := Option.map_eq_some_iff.mp hx
      have hzm := List.mem_of_getElem? hz
      obtain ⟨t, e1, e2⟩ := ht z hzm
      have at1 := srt.at (List.mem_map.mpr ⟨z, hzm, rfl⟩)
      have hzi : (Z.map Prod.snd)[i]? = some z.2 := by rw [List.getElem?_map, hz]; rfl
      have nto : t ≠ ol := ne_of e2 fo4 (by intro z; cases z)
      have e3 : H' t = some (.tup [.int (0 - (z.2.1.1.need : Nat)), .int ((z.2.2 : Nat) : Int), .int (z.2.1.2 + z.2.1.1.cnt - 1)]) := b _ _ nto e2
      rw [e1]
      have fl := srt.full.len
      have nn' := nOf_le ho hl
      have osl : (ordL ((Z.map Prod.snd).take (i + 1))).length ≤ 120 := by
        have e5 : ordL (Z.map Prod.snd) = ordL ((Z.map Prod.snd).take (i + 1)) ++ ordL ((Z.map Prod.snd).drop (i + 1)) := by
          unfold ordL; rw [← List.flatMap_append, List.take_append_drop]
        have := congrArg List.length e5
        rw [List.length_append] at this
        omega
      have ordn : ∀ (e : Exp) (b : Int), (e.ord b).length = e.cnt := fun e => by
        induction e with
        | num => intro b; rfl
        | fld => intro b; rfl
        | plc => intro b; rfl
        | mrk => intro b; rfl
        | cell a ih => intro b; rw [Exp.ord, List.length_append, ih]; rfl
        | two o a c iha ihc =>
          intro b
          rw [Exp.ord, List.length_append]
          by_cases z : 0 < a.cnt ∧ 0 < c.cnt ∧ a.need < c.need
          · rw [if_pos z, List.length_append, iha, ihc]; simp [Exp.cnt]; omega
          · rw [if_neg z, List.length_append, iha, ihc]; simp [Exp.cnt]
      rw [take_snoc hzi, ordL_snoc, List.length_append, ordn] at osl
      repeat walk_at "w"
      refine ⟨p, dx, l, ol, nl, ss, z.2.1.1, z.2.1.2, ordL ((Z.map Prod.snd).take i), rfl, restsL_ok ho _ (offs_fst at1.1), at1.2, tree_at at1.1, b _ _ npo (s4 _ _ f3), (pk3.sm s4).bl fo4 nlo b, nlo, non, hol, b _ _ non.symm (s4 _ _ fn), by omega, fun H6 h6 e6 => ?_⟩
      repeat walk_at "w"
      refine ⟨_, _, _, rfl, b.trans e6, ?_⟩
      rw [take_snoc hzi, ordL_snoc]; exact h6
    · obtain ⟨o2, o3, o4, rfl, b, hol⟩ := hp
      rw [List.length_map, List.take_of_length_le (by rw [List.length_map]; exact Nat.le_refl _)] at hol
      have hp' := b _ _ npo (s4 _ _ f3)
      repeat walk_at "w"
      exact q ol H' _ srt hol (s1.trans (But.new (s13.trans s4) noH b)) (s1.free noH)
end

end J
namespace J
open PySem PySem.Spec PyProof.Rows L2
local macro_rules | `(tactic| walk_at "cls") => `(tactic| first
  | with_reducible exact Facts.cl_Step
  | with_reducible exact Facts.cl_Get
  | with_reducible exact Facts.cl_Ask
  | with_reducible exact Facts.cl_Cell
  | with_reducible exact Facts.cl_Two
  | with_reducible exact Facts.cl_Put
  | with_reducible exact Facts.cl_Tell
  | with_reducible exact Facts.cl_Store
  | with_reducible exact Facts.cl_Parts
  | with_reducible exact Facts.cl_Order)
local macro_rules | `(tactic| walk_at "na") => `(tactic| first
  | with_reducible exact Facts.na_Get_to
  | with_reducible exact Facts.na_Get_sel
  | with_reducible exact Facts.na_Ask_to
  | with_reducible exact Facts.na_Ask_sel
  | with_reducible exact Facts.na_Cell_to
  | with_reducible exact Facts.na_Cell_source
  | with_reducible exact Facts.na_Two_to
  | with_reducible exact Facts.na_Two_op
  | with_reducible exact Facts.na_Two_one
  | with_reducible exact Facts.na_Two_other
  | with_reducible exact Facts.na_Put_sel
  | with_reducible exact Facts.na_Put_source
  | with_reducible exact Facts.na_Tell_sel
  | with_reducible exact Facts.na_Tell_source
  | with_reducible exact Facts.na_Store_at
  | with_reducible exact Facts.na_Store_source
  | with_reducible exact Facts.na_Parts_rows
  | with_reducible exact Facts.na_Order_parts
  | with_reducible exact Facts.na_Order_order
  | with_reducible exact Facts.na_Order_needed)
local macro_rules | `(tactic| walk_at "ty") => `(tactic| first
  | with_reducible exact ty_int
  | with_reducible exact ty_bl
  | with_reducible exact ty_str
  | with_reducible exact ty_non
  | ((with_reducible refine' ty_lst ?vv); (case vv => walk_at "tr"))
  | ((with_reducible refine' ty_sqT ?vv); (case vv => walk_at "tr"))
  | ((with_reducible refine' ty_dic ?vv); (case vv => walk_at "tr")))
local macro_rules | `(tactic| walk_at "ix") => `(tactic| first | exact at0 | exact at1 | exact at2 | assumption)
local macro_rules | `(tactic| walk_at "size") => `(tactic| first
  | assumption
  | (show _ < sizeLine; rw [sizeLine_eq]; (try simp only [List.length_cons, List.length_nil, List.length_append, List.length_map]); omega)
  | (show _ ≤ sizeLine; rw [sizeLine_eq]; (try simp only [List.length_cons, List.length_nil, List.length_append, List.length_map]); omega))
local macro_rules | `(tactic| walk_at "side") => `(tactic| first
  | assumption
  | ((with_reducible refine cdw ?_ ?_) <;> omega)
  | omega
  | (exact ⟨by omega, by omega⟩)
  | (exact Or.inl ⟨by omega, by omega⟩)
  | (exact Or.inr ⟨by omega, by omega⟩)
  | decide
  | (simp only [List.length_cons, List.length_nil, List.length_append, List.length_map]; omega)
  | (show _ ≤ _; decide))
local macro_rules | `(tactic| walk_at "as") => `(tactic| with_reducible assumption)
local macro_rules | `(tactic| walk_at "tr") => `(tactic| first
  | with_reducible assumption
  | with_reducible exact upd_same
  | ((with_reducible refine' SqL.of ?hh); (case hh => walk_at "as"))
  | ((with_reducible refine' SqT.of ?hh); (case hh => walk_at "as"))
  | ((with_reducible refine' Same.stm ?ee ?gg); (case ee => walk_at "as"); (case gg => walk_at "tr"))
  | ((with_reducible refine' Same.sqT ?ee ?gg); (case ee => walk_at "as"); (case gg => walk_at "tr"))
  | ((with_reducible refine' Same.sqL ?ee ?gg); (case ee => walk_at "as"); (case gg => walk_at "tr"))
  | ((with_reducible refine' Same.at ?ee ?gg); (case ee => walk_at "as"); (case gg => walk_at "tr"))
  | ((with_reducible refine' But.stm ?ee ?ff ?gg); (case ee => walk_at "as"); (case ff => walk_at "ne"); (case gg => walk_at "tr"))
  | ((with_reducible refine' But.tup ?ee ?ff ?gg); (case ee => walk_at "as"); (case ff => walk_at "tr1"); (case gg => walk_at "tr"))
  | ((with_reducible refine' But.sqT ?ee ?ff ?gg); (case ee => walk_at "as"); (case ff => walk_at "tr1"); (case gg => walk_at "tr"))
  | ((with_reducible refine' But.tupL ?ee ?ff ?gg); (case ee => walk_at "as"); (case ff => walk_at "tr1"); (case gg => walk_at "tr"))
  | ((with_reducible refine' But.sqTL ?ee ?ff ?gg); (case ee => walk_at "as"); (case ff => walk_at "tr1"); (case gg => walk_at "tr"))
  | ((with_reducible refine' But.sqL ?ee ?ff ?gg); (case ee => walk_at "as"); (case ff => walk_at "ne"); (case gg => walk_at "tr"))
  | ((with_reducible refine' But.at ?ee ?ff ?gg); (case ee => walk_at "as"); (case ff => walk_at "ne"); (case gg => walk_at "tr")))
local macro_rules | `(tactic| walk_at "ts") => `(tactic| first
  | with_reducible assumption
  | with_reducible exact TS.refl _
  | ((with_reducible refine' TS.trans ?gg (TS.of ?ee)); (case ee => walk_at "as"); (case gg => walk_at "ts"))
  | ((with_reducible refine' TS.trans ?gg (TS.butS ?ee ?ff)); (case ee => walk_at "as"); (case ff => walk_at "tr1"); (case gg => walk_at "ts"))
  | ((with_reducible refine' TS.trans ?gg (TS.butL ?ee ?ff)); (case ee => walk_at "as"); (case ff => walk_at "tr1"); (case gg => walk_at "ts"))
  | ((with_reducible refine' TS.trans ?gg (TS.butI ?ee ?ff)); (case ee => walk_at "as"); (case ff => walk_at "tr1"); (case gg => walk_at "ts")))
local macro_rules | `(tactic| walk_at "sm") => `(tactic| first
  | with_reducible assumption
  | with_reducible exact Same.refl _
  | ((with_reducible refine' Same.trans ?gg ?ee); (case ee => walk_at "as"); (case gg => walk_at "sm"))
  | ((with_reducible refine' But.new ?gg ?nn ?ee); (case ee => walk_at "as"); (case nn => walk_at "fr"); (case gg => walk_at "sm")))
local macro_rules | `(tactic| walk_at "fr") => `(tactic| first
  | with_reducible assumption
  | ((with_reducible refine' Same.back ?ee ?nn); (case nn => walk_at "as"); (case ee => walk_at "sm"))
  | ((with_reducible refine' But.back ?ee ?ff ?nn); (case nn => walk_at "as"); (case ff => walk_at "ne0"); (case ee => walk_at "bu")))
local macro_rules | `(tactic| walk_at "bu") => `(tactic| first
  | with_reducible assumption
  | with_reducible exact But.refl _ _
  | ((with_reducible refine' But.trans ?gg ?ee); (case ee => walk_at "as"); (case gg => walk_at "bu"))
  | ((with_reducible refine' But.trans ?gg (But.of ?ee)); (case ee => walk_at "as"); (case gg => walk_at "bu"))
  | ((with_reducible refine' But.new2 ?gg ?nn ?ee); (case ee => walk_at "as"); (case nn => walk_at "frB"); (case gg => walk_at "bu")))
local macro_rules | `(tactic| walk_at "frB") => `(tactic| first
  | with_reducible assumption
  | ((with_reducible refine' Same.back ?ee ?nn); (case nn => walk_at "as"); (case ee => walk_at "sm"))
  | ((with_reducible refine' But.back' ?ee ?ff ?nn); (case nn => walk_at "as"); (case ee => walk_at "bu"); (case ff => walk_at "tr1")))
local macro_rules | `(tactic| walk_at "tr1") => `(tactic| first
  | with_reducible assumption
  | ((with_reducible refine' Same.stm ?ee ?gg); (case ee => walk_at "as"); (case gg => walk_at "tr1"))
  | ((with_reducible refine' Same.at ?ee ?gg); (case ee => walk_at "as"); (case gg => walk_at "tr1"))
  | ((with_reducible refine' But.at ?ee ?ff ?gg); (case ee => walk_at "as"); (case ff => walk_at "ne0"); (case gg => walk_at "tr1"))
  | ((with_reducible refine' But.stm ?ee ?ff ?gg); (case ee => walk_at "as"); (case ff => walk_at "ne0"); (case gg => walk_at "tr1")))
local macro_rules | `(tactic| walk_at "ne0") => `(tactic| first
  | with_reducible assumption
  | (with_reducible apply Ne.symm; with_reducible assumption))
local macro_rules | `(tactic| walk_at "ne") => `(tactic| first
  | with_reducible assumption
  | (with_reducible apply Ne.symm; with_reducible assumption)
  | ((with_reducible refine' stm_ne ?hh ?nn); (case nn => walk_at "as"); (case hh => walk_at "tr1"))
  | ((with_reducible refine' ne_of_none ?hh ?nn); (case nn => walk_at "as"); (case hh => walk_at "tr1"))
  | ((with_reducible apply Ne.symm); (with_reducible refine' ne_of_none ?hh ?nn); (case nn => walk_at "as"); (case hh => walk_at "tr1")))
local macro_rules | `(tactic| walk_at "v") => `(tactic| first
  | with_reducible refine w_seq ?_
  | ((with_reducible refine' w_var ?vv ?_); (case vv => exact rfl))
  | with_reducible refine w_c ?_
  | with_reducible refine w_op ?_
  | with_reducible refine w_asg ?_
  | with_reducible refine w_gName ?_
  | with_reducible refine w_ret ?_
  | with_reducible refine w_ifS ?_
  | with_reducible refine w_drop ?_
  | with_reducible refine w_next ?_
  | with_reducible refine w_cons ?_
  | with_reducible refine w_nil ?_
  | with_reducible refine w_call ?_
  | with_reducible refine w_cb ?_
  | with_reducible refine w_rI0 ?_
  | with_reducible refine w_addI ?_
  | with_reducible refine w_eqI ?_
  | with_reducible refine w_neI ?_
  | with_reducible refine w_eqS ?_
  | with_reducible refine w_neS ?_
  | with_reducible refine w_eqB ?_
  | with_reducible refine w_neB ?_
  | with_reducible refine w_chain ?_
  | with_reducible refine w_test ?_
  | with_reducible refine w_tB ?_
  | with_reducible refine w_bl ?_
  | ((with_reducible refine' w_mulI ?vv ?_); (case vv => walk_at "side"))
  | ((with_reducible refine' w_rI ?vv ?_); (case vv => walk_at "side"))
  | with_reducible refine w_int1 ?_
  | with_reducible refine w_int1b ?_
  | with_reducible refine w_tup ?_
  | with_reducible refine w_lst ?_
  | with_reducible refine w_un ?_
  | with_reducible refine w_rU ?_
  | with_reducible refine w_not ?_
  | with_reducible refine w_notV ?_
  | with_reducible refine w_ifE ?_
  | with_reducible refine w_nT ?_
  | with_reducible refine w_nF ?_
  | with_reducible refine iteT ?_
  | with_reducible refine iteF ?_
  | ((with_reducible refine' w_ixT ?vv ?ww ?_); (case vv => walk_at "tr"); (case ww => walk_at "ix"))
  | ((with_reducible refine' w_ixL ?vv ?ww ?_); (case vv => walk_at "tr"); (case ww => walk_at "ix"))
  | with_reducible refine w_gSub ?_
  | ((with_reducible refine' w_setL ?vv ?ww ?_); (case vv => walk_at "tr"); (case ww => first | rfl | decide | assumption))
  | ((with_reducible refine' w_lenL ?vv ?_); (case vv => walk_at "tr"))
  | ((with_reducible refine' w_lenT ?vv ?_); (case vv => walk_at "tr"))
  | with_reducible refine w_max2 ?_
  | with_reducible refine w_max3 ?_
  | with_reducible refine w_din ?_
  | with_reducible refine w_dnotin ?_
  | with_reducible refine w_dput ?_
  | with_reducible refine w_min2 ?_
  | with_reducible refine w_bm ?_
  | with_reducible refine w_bm0 ?_
  | ((with_reducible refine' w_tyL ?vv ?_); (case vv => walk_at "tr"))
  | ((with_reducible refine' w_append ?vv ?ww ?_); (case vv => walk_at "tr"); (case ww => walk_at "size"))
  | ((with_reducible refine' w_size ?vv ?_); (case vv => walk_at "size"))
  | with_reducible refine w_forL ?_
  | with_reducible refine w_forT ?_
  | with_reducible refine w_forR1 ?_
  | with_reducible refine w_forR2 ?_
  | with_reducible refine w_lcL ?_
  | with_reducible refine w_lcT ?_
  | with_reducible refine w_lcR1 ?_
  | with_reducible refine w_yes ?_
  | with_reducible refine w_sl ?_
  | with_reducible refine w_noPart ?_
  | with_reducible refine w_part ?_
  | with_reducible refine w_int ?_
  | ((with_reducible refine' w_slL ?vv ?_); (case vv => walk_at "tr"))
  | ((with_reducible refine' w_seqL ?vv ?ww ?_); (case vv => walk_at "tr"); (case ww => rfl))
  | ((with_reducible refine' w_seqT ?vv ?ww ?_); (case vv => walk_at "tr"); (case ww => rfl))
  | with_reducible refine w_gNil ?_
  | with_reducible refine w_gCons ?_
  | with_reducible refine w_forZ ?_
  | with_reducible refine w_forM ?_
  | with_reducible refine w_forE ?_
  | with_reducible refine w_forV ?_
  | with_reducible refine w_lcZ ?_
  | with_reducible refine w_lcE ?_
  | ((with_reducible refine' w_isi (b := true) ?vv ?ww ?_); (case vv => walk_at "ty"); (case ww => decide +kernel))
  | ((with_reducible refine' w_isi (b := false) ?vv ?ww ?_); (case vv => walk_at "ty"); (case ww => decide +kernel))
  | with_reducible refine w_revL ?_
  | with_reducible refine w_pairN ?_
  | with_reducible refine w_pairC ?_
  | with_reducible refine w_dget ?_
  | with_reducible refine w_met ?_
  | ((with_reducible refine' w_metAt ?vv ?ww ?_); (case vv => walk_at "tr"); (case ww => rfl))
  | with_reducible refine w_mkI ?_
  | with_reducible refine w_fld ?_
  | ((with_reducible refine' w_fldAt ?vv ?cc ?nn ?ww ?_); (case vv => walk_at "tr"); (case cc => walk_at "cls"); (case nn => walk_at "na"); (case ww => rfl))
  | with_reducible refine w_sfld ?_
  | ((with_reducible refine' w_sfldAt ?vv ?cc ?nn ?ll ?ee ?_); (case vv => walk_at "tr"); (case cc => walk_at "cls"); (case nn => walk_at "na"); (case ll => simp); (case ee => rfl))
  | ((with_reducible refine' w_tupL ?vv ?_); (case vv => walk_at "tr"))
  | ((with_reducible refine' w_tupT ?vv ?_); (case vv => walk_at "tr"))
  | ((with_reducible refine' w_listL ?vv ?_); (case vv => walk_at "tr"))
  | ((with_reducible refine' w_listT ?vv ?_); (case vv => walk_at "tr"))
  | with_reducible refine w_tyS ?_
  | with_reducible refine w_retN ?_
  | with_reducible refine w_break ?_
  | with_reducible refine w_cont ?_)
local macro_rules | `(tactic| walk_at "w") => `(tactic| first
  | walk_at "v"
  | with_reducible refine w_or ?_
  | with_reducible refine w_and ?_
  | with_reducible refine w_andV ?_
  | with_reducible refine w_orV ?_)
local macro_rules | `(tactic| walk_at "wd") => `(tactic| first
  | walk_at "w"
  | ((with_reducible refine' w_decT ?vv ?_); (case vv => decide +kernel))
  | ((with_reducible refine' w_decF ?vv ?_); (case vv => decide +kernel)))
local macro_rules | `(tactic| walk_at "tz") => `(tactic| (intro S z; (repeat walk_at "w"); exact z))
local macro_rules | `(tactic| walk_at "wf") => `(tactic| first
  | walk_at "wd"
  | ((with_reducible refine' w_decF ?vv ?_); (case vv => with_reducible assumption)))
/-! ### steps: made, and told -/
def spMkF (C : Addr) (fs : List Str) : Sp := fun vs H Q _ => ∃ p dx as, vs = .ref p :: as ∧ as.length = fs.length ∧ H p = some (.ins C dx []) ∧ ∀ H', H' p = some (.ins C dx (fs.zip as)) → But p H H' → Q .non H'
theorem len_mkF {C : Addr} {fs : List Str} {vs H Q E} (h : spMkF C fs vs H Q E) : vs.length = fs.length + 1 := by obtain ⟨_, _, _, rfl, l, _⟩ := h; rw [List.length_cons, l]
def spToldF (C : Addr) (fs : List Str) (tag : Str) : Sp := fun vs H Q _ => ∃ p dx as, vs = [.ref p] ∧ as.length = fs.length ∧ H p = some (.ins C dx (fs.zip as)) ∧ ∀ q H', H' q = some (.tup (.str tag :: as)) → Same H H' → H q = none → Q (.ref q) H'
theorem len_toldF {C : Addr} {fs : List Str} {tag : Str} {vs H Q E} (h : spToldF C fs tag vs H Q E) : vs.length = 1 := by obtain ⟨_, _, _, rfl, _⟩ := h; rfl
theorem len_Getu_initu {vs H Q E} {C : Addr} (h : spMkF C ["to", "sel"] vs H Q E) : vs.length = 3 := len_mkF h
theorem len_Get_told {vs H Q E} {C : Addr} (h : spToldF C ["to", "sel"] "get" vs H Q E) : vs.length = 1 := len_toldF h
theorem len_Asku_initu {vs H Q E} {C : Addr} (h : spMkF C ["to", "sel"] vs H Q E) : vs.length = 3 := len_mkF h
theorem len_Ask_told {vs H Q E} {C : Addr} (h : spToldF C ["to", "sel"] "ask" vs H Q E) : vs.length = 1 := len_toldF h
theorem len_Cellu_initu {vs H Q E} {C : Addr} (h : spMkF C ["to", "source"] vs H Q E) : vs.length = 3 := len_mkF h
theorem len_Cell_told {vs H Q E} {C : Addr} (h : spToldF C ["to", "source"] "cell" vs H Q E) : vs.length = 1 := len_toldF h
theorem len_Twou_initu {vs H Q E} {C : Addr} (h : spMkF C ["to", "op", "one", "other"] vs H Q E) : vs.length = 5 := len_mkF h
theorem len_Two_told {vs H Q E} {C : Addr} (h : spToldF C ["to", "op", "one", "other"] "two" vs H Q E) : vs.length = 1 := len_toldF h
theorem len_Putu_initu {vs H Q E} {C : Addr} (h : spMkF C ["sel", "source"] vs H Q E) : vs.length = 3 := len_mkF h
theorem len_Put_told {vs H Q E} {C : Addr} (h : spToldF C ["sel", "source"] "put" vs H Q E) : vs.length = 1 := len_toldF h
theorem len_Tellu_initu {vs H Q E} {C : Addr} (h : spMkF C ["sel", "source"] vs H Q E) : vs.length = 3 := len_mkF h
theorem len_Tell_told {vs H Q E} {C : Addr} (h : spToldF C ["sel", "source"] "tell" vs H Q E) : vs.length = 1 := len_toldF h
theorem len_Storeu_initu {vs H Q E} {C : Addr} (h : spMkF C ["at", "source"] vs H Q E) : vs.length = 3 := len_mkF h
theorem len_Store_told {vs H Q E} {C : Addr} (h : spToldF C ["at", "source"] "store" vs H Q E) : vs.length = 1 := len_toldF h
section
variable {P : Program} {w : World} {K : PySem.W.Frag} {mg : Str → Option Value}
theorem ok_Getu_initu [c : Facts K mg] {f : Addr} {fd : FuncData} (F : FunD K "__init__" "Get.__init__" (defArgs s_Getu_initu) (defBody s_Getu_initu) (defScope s_Getu_initu) [] [] f fd) : FnA P w K mg f 1 ["self", "to", "sel"] ((spMkF (He.ga K "Get") ["to", "sel"])) := by
  refine FnA.mk' F sc_Getu_initu (k := 0) (fun vs H Q E h => ?_) (fun _ _ _ _ _ _ us hl => match us, hl with | [_, _, _], _ => rfl) (fun base cdv A outer s H vs Q E hr h => ?_)
  · exact len_Getu_initu h
  · have nd := sc_Getu_initu.nd
    have hu := hu_of hr
    refine ⟨_, (pss_cons (ps_fld (pv 0) (pv 1) rfl)
      (pss_one (ps_fld (pv 0) (pv 2) rfl))), ?_⟩
    try dsimp only [cxOf, Cx.nox, Cx.wish]
    obtain ⟨p, dx, as, rfl, la, hp, q⟩ := h
    match as, la, q with
    | [a0, a1], _, q =>
      repeat walk_at "w"
      refine w_chg fun H1 e1 f1 => ?_
      have g1 : H1 p = some (.ins (He.ga K "Get") dx [("to", a0)]) := f1
      repeat walk_at "w"
      refine w_chg fun H2 e2 f2 => ?_
      have g2 : H2 p = some (.ins (He.ga K "Get") dx [("to", a0), ("sel", a1)]) := f2
      repeat walk_at "w"
      exact q H2 g2 (e1.trans e2)
theorem ok_Get_told [c : Facts K mg] {f : Addr} {fd : FuncData} (F : FunD K "told" "Get.told" (defArgs s_Get_told) (defBody s_Get_told) (defScope s_Get_told) [] [] f fd) : FnA P w K mg f 1 ["self"] ((spToldF (He.ga K "Get") ["to", "sel"] "get")) := by
  refine FnA.mk' F sc_Get_told (k := 0) (fun vs H Q E h => ?_) (fun _ _ _ _ _ _ us hl => match us, hl with | [_], _ => rfl) (fun base cdv A outer s H vs Q E hr h => ?_)
  · exact len_Get_told h
  · have nd := sc_Get_told.nd
    have hu := hu_of hr
    refine ⟨_, (pss_one (ps_ret (pe_tup (pa_cons pe_str (pa_cons (pe_fldK (K := K) rfl (pv 0)) (pa_cons (pe_fldK (K := K) rfl (pv 0)) pa_nil)))))), ?_⟩
    try dsimp only [cxOf, Cx.nox, Cx.wish]
    obtain ⟨p, dx, as, rfl, la, hp, q⟩ := h
    match as, la, hp, q with
    | [a0, a1], _, hp, q =>
      have hp' : H p = some (.ins (He.ga K "Get") dx [("to", a0), ("sel", a1)]) := hp
      repeat walk_at "w"
      exact w_new fun t H1 n1 s1 f1 => q t H1 f1 s1 n1
theorem ok_Asku_initu [c : Facts K mg] {f : Addr} {fd : FuncData} (F : FunD K "__init__" "Ask.__init__" (defArgs s_Asku_initu) (defBody s_Asku_initu) (defScope s_Asku_initu) [] [] f fd) : FnA P w K mg f 1 ["self", "to", "sel"] ((spMkF (He.ga K "Ask") ["to", "sel"])) := by
  refine FnA.mk' F sc_Asku_initu (k := 0) (fun vs H Q E h => ?_) (fun _ _ _ _ _ _ us hl => match us, hl with | [_, _, _], _ => rfl) (fun base cdv A outer s H vs Q E hr h => ?_)
  · exact len_Asku_initu h
  · have nd := sc_Asku_initu.nd
    have hu := hu_of hr
    refine ⟨_, (pss_cons (ps_fld (pv 0) (pv 1) rfl)
      (pss_one (ps_fld (pv 0) (pv 2) rfl))), ?_⟩
    try dsimp only [cxOf, Cx.nox, Cx.wish]
    obtain ⟨p, dx, as, rfl, la, hp, q⟩ := h
    match as, la, q with
    | [a0, a1], _, q =>
      repeat walk_at "w"
      refine w_chg fun H1 e1 f1 => ?_
      have g1 : H1 p = some (.ins (He.ga K "Ask") dx [("to", a0)]) := f1
      repeat walk_at "w"
      refine w_chg fun H2 e2 f2 => ?_
      have g2 : H2 p = some (.ins (He.ga K "Ask") dx [("to", a0), ("sel", a1)]) := f2
      repeat walk_at "w"
      exact q H2 g2 (e1.trans e2)
theorem ok_Ask_told [c : Facts K mg] {f : Addr} {fd : FuncData} (F : FunD K "told" "Ask.told" (defArgs s_Ask_told) (defBody s_Ask_told) (defScope s_Ask_told) [] [] f fd) : FnA P w K mg f 1 ["self"] ((spToldF (He.ga K "Ask") ["to", "sel"] "ask")) := by
  refine FnA.mk' F sc_Ask_told (k := 0) (fun vs H Q E h => ?_) (fun _ _ _ _ _ _ us hl => match us, hl with | [_], _ => rfl) (fun base cdv A outer s H vs Q E hr h => ?_)
  · exact len_Ask_told h
  · have nd := sc_Ask_told.nd
    have hu := hu_of hr
    refine ⟨_, (pss_one (ps_ret (pe_tup (pa_cons pe_str (pa_cons (pe_fldK (K := K) rfl (pv 0)) (pa_cons (pe_fldK (K := K) rfl (pv 0)) pa_nil)))))), ?_⟩
    try dsimp only [cxOf, Cx.nox, Cx.wish]
    obtain ⟨p, dx, as, rfl, la, hp, q⟩ := h
    match as, la, hp, q with
    | [a0, a1], _, hp, q =>
      have hp' : H p = some (.ins (He.ga K "Ask") dx [("to", a0), ("sel", a1)]) := hp
      repeat walk_at "w"
      exact w_new fun t H1 n1 s1 f1 => q t H1 f1 s1 n1
theorem ok_Cellu_initu [c : Facts K mg] {f : Addr} {fd : FuncData} (F : FunD K "__init__" "Cell.__init__" (defArgs s_Cellu_initu) (defBody s_Cellu_initu) (defScope s_Cellu_initu) [] [] f fd) : FnA P w K mg f 1 ["self", "to", "source"] ((spMkF (He.ga K "Cell") ["to", "source"])) := by
  refine FnA.mk' F sc_Cellu_initu (k := 0) (fun vs H Q E h => ?_) (fun _ _ _ _ _ _ us hl => match us, hl with | [_, _, _], _ => rfl) (fun base cdv A outer s H vs Q E hr h => ?_)
  · exact len_Cellu_initu h
  · have nd := sc_Cellu_initu.nd
    have hu := hu_of hr
    refine ⟨_, (pss_cons (ps_fld (pv 0) (pv 1) rfl)
      (pss_one (ps_fld (pv 0) (pv 2) rfl))), ?_⟩
    try dsimp only [cxOf, Cx.nox, Cx.wish]
    obtain ⟨p, dx, as, rfl, la, hp, q⟩ := h
    match as, la, q with
    | [a0, a1], _, q =>
      repeat walk_at "w"
      refine w_chg fun H1 e1 f1 => ?_
      have g1 : H1 p = some (.ins (He.ga K "Cell") dx [("to", a0)]) := f1
      repeat walk_at "w"
      refine w_chg fun H2 e2 f2 => ?_
      have g2 : H2 p = some (.ins (He.ga K "Cell") dx [("to", a0), ("source", a1)]) := f2
      repeat walk_at "w"
      exact q H2 g2 (e1.trans e2)
theorem ok_Cell_told [c : Facts K mg] {f : Addr} {fd : FuncData} (F : FunD K "told" "Cell.told" (defArgs s_Cell_told) (defBody s_Cell_told) (defScope s_Cell_told) [] [] f fd) : FnA P w K mg f 1 ["self"] ((spToldF (He.ga K "Cell") ["to", "source"] "cell")) := by
  refine FnA.mk' F sc_Cell_told (k := 0) (fun vs H Q E h => ?_) (fun _ _ _ _ _ _ us hl => match us, hl with | [_], _ => rfl) (fun base cdv A outer s H vs Q E hr h => ?_)
  · exact len_Cell_told h
  · have nd := sc_Cell_told.nd
    have hu := hu_of hr
    refine ⟨_, (pss_one (ps_ret (pe_tup (pa_cons pe_str (pa_cons (pe_fldK (K := K) rfl (pv 0)) (pa_cons (pe_fldK (K := K) rfl (pv 0)) pa_nil)))))), ?_⟩
    try dsimp only [cxOf, Cx.nox, Cx.wish]
    obtain ⟨p, dx, as, rfl, la, hp, q⟩ := h
    match as, la, hp, q with
    | [a0, a1], _, hp, q =>
      have hp' : H p = some (.ins (He.ga K "Cell") dx [("to", a0), ("source", a1)]) := hp
      repeat walk_at "w"
      exact w_new fun t H1 n1 s1 f1 => q t H1 f1 s1 n1
theorem ok_Twou_initu [c : Facts K mg] {f : Addr} {fd : FuncData} (F : FunD K "__init__" "Two.__init__" (defArgs s_Twou_initu) (defBody s_Twou_initu) (defScope s_Twou_initu) [] [] f fd) : FnA P w K mg f 1 ["self", "to", "op", "one", "other"] ((spMkF (He.ga K "Two") ["to", "op", "one", "other"])) := by
  refine FnA.mk' F sc_Twou_initu (k := 0) (fun vs H Q E h => ?_) (fun _ _ _ _ _ _ us hl => match us, hl with | [_, _, _, _, _], _ => rfl) (fun base cdv A outer s H vs Q E hr h => ?_)
  · exact len_Twou_initu h
  · have nd := sc_Twou_initu.nd
    have hu := hu_of hr
    refine ⟨_, (pss_cons (ps_fld (pv 0) (pv 1) rfl)
      (pss_cons (ps_fld (pv 0) (pv 2) rfl)
      (pss_cons (ps_fld (pv 0) (pv 3) rfl)
      (pss_one (ps_fld (pv 0) (pv 4) rfl))))), ?_⟩
    try dsimp only [cxOf, Cx.nox, Cx.wish]
    obtain ⟨p, dx, as, rfl, la, hp, q⟩ := h
    match as, la, q with
    | [a0, a1, a2, a3], _, q =>
      repeat walk_at "w"
      refine w_chg fun H1 e1 f1 => ?_
      have g1 : H1 p = some (.ins (He.ga K "Two") dx [("to", a0)]) := f1
      repeat walk_at "w"
      refine w_chg fun H2 e2 f2 => ?_
      have g2 : H2 p = some (.ins (He.ga K "Two") dx [("to", a0), ("op", a1)]) := f2
      repeat walk_at "w"
      refine w_chg fun H3 e3 f3 => ?_
      have g3 : H3 p = some (.ins (He.ga K "Two") dx [("to", a0), ("op", a1), ("one", a2)]) := f3
      repeat walk_at "w"
      refine w_chg fun H4 e4 f4 => ?_
      have g4 : H4 p = some (.ins (He.ga K "Two") dx [("to", a0), ("op", a1), ("one", a2), ("other", a3)]) := f4
      repeat walk_at "w"
      exact q H4 g4 (((e1.trans e2).trans e3).trans e4)
theorem ok_Two_told [c : Facts K mg] {f : Addr} {fd : FuncData} (F : FunD K "told" "Two.told" (defArgs s_Two_told) (defBody s_Two_told) (defScope s_Two_told) [] [] f fd) : FnA P w K mg f 1 ["self"] ((spToldF (He.ga K "Two") ["to", "op", "one", "other"] "two")) := by
  refine FnA.mk' F sc_Two_told (k := 0) (fun vs H Q E h => ?_) (fun _ _ _ _ _ _ us hl => match us, hl with | [_], _ => rfl) (fun base cdv A outer s H vs Q E hr h => ?_)
  · exact len_Two_told h
  · have nd := sc_Two_told.nd
    have hu := hu_of hr
    refine ⟨_, (pss_one (ps_ret (pe_tup (pa_cons pe_str (pa_cons (pe_fldK (K := K) rfl (pv 0)) (pa_cons (pe_fldK (K := K) rfl (pv 0)) (pa_cons (pe_fldK (K := K) rfl (pv 0)) (pa_cons (pe_fldK (K := K) rfl (pv 0)) pa_nil)))))))), ?_⟩
    try dsimp only [cxOf, Cx.nox, Cx.wish]
    obtain ⟨p, dx, as, rfl, la, hp, q⟩ := h
    match as, la, hp, q with
    | [a0, a1, a2, a3], _, hp, q =>
      have hp' : H p = some (.ins (He.ga K "Two") dx [("to", a0), ("op", a1), ("one", a2), ("other", a3)]) := hp
      repeat walk_at "w"
      exact w_new fun t H1 n1 s1 f1 => q t H1 f1 s1 n1
theorem ok_Putu_initu [c : Facts K mg] {f : Addr} {fd : FuncData} (F : FunD K "__init__" "Put.__init__" (defArgs s_Putu_initu) (defBody s_Putu_initu) (defScope s_Putu_initu) [] [] f fd) : FnA P w K mg f 1 ["self", "sel", "source"] ((spMkF (He.ga K "Put") ["sel", "source"])) := by
  refine FnA.mk' F sc_Putu_initu (k := 0) (fun vs H Q E h => ?_) (fun _ _ _ _ _ _ us hl => match us, hl with | [_, _, _], _ => rfl) (fun base cdv A outer s H vs Q E hr h => ?_)
  · exact len_Putu_initu h
  · have nd := sc_Putu_initu.nd
    have hu := hu_of hr
    refine ⟨_, (pss_cons (ps_fld (pv 0) (pv 1) rfl)
      (pss_one (ps_fld (pv 0) (pv 2) rfl))), ?_⟩
    try dsimp only [cxOf, Cx.nox, Cx.wish]
    obtain ⟨p, dx, as, rfl, la, hp, q⟩ := h
    match as, la, q with
    | [a0, a1], _, q =>
      repeat walk_at "w"
      refine w_chg fun H1 e1 f1 => ?_
      have g1 : H1 p = some (.ins (He.ga K "Put") dx [("sel", a0)]) := f1
      repeat walk_at "w"
      refine w_chg fun H2 e2 f2 => ?_
      have g2 : H2 p = some (.ins (He.ga K "Put") dx [("sel", a0), ("source", a1)]) := f2
      repeat walk_at "w"
      exact q H2 g2 (e1.trans e2)
theorem ok_Put_told [c : Facts K mg] {f : Addr} {fd : FuncData} (F : FunD K "told" "Put.told" (defArgs s_Put_told) (defBody s_Put_told) (defScope s_Put_told) [] [] f fd) : FnA P w K mg f 1 ["self"] ((spToldF (He.ga K "Put") ["sel", "source"] "put")) := by
  refine FnA.mk' F sc_Put_told (k := 0) (fun vs H Q E h => ?_) (fun _ _ _ _ _ _ us hl => match us, hl with | [_], _ => rfl) (fun base cdv A outer s H vs Q E hr h => ?_)
  · exact len_Put_told h
  · have nd := sc_Put_told.nd
    have hu := hu_of hr
    refine ⟨_, (pss_one (ps_ret (pe_tup (pa_cons pe_str (pa_cons (pe_fldK (K := K) rfl (pv 0)) (pa_cons (pe_fldK (K := K) rfl (pv 0)) pa_nil)))))), ?_⟩
    try dsimp only [cxOf, Cx.nox, Cx.wish]
    obtain ⟨p, dx, as, rfl, la, hp, q⟩ := h
    match as, la, hp, q with
    | [a0, a1], _, hp, q =>
      have hp' : H p = some (.ins (He.ga K "Put") dx [("sel", a0), ("source", a1)]) := hp
      repeat walk_at "w"
      exact w_new fun t H1 n1 s1 f1 => q t H1 f1 s1 n1
theorem ok_Tellu_initu [c : Facts K mg] {f : Addr} {fd : FuncData} (F : FunD K "__init__" "Tell.__init__" (defArgs s_Tellu_initu) (defBody s_Tellu_initu) (defScope s_Tellu_initu) [] [] f fd) : FnA P w K mg f 1 ["self", "sel", "source"] ((spMkF (He.ga K "Tell") ["sel", "source"])) := by
  refine FnA.mk' F sc_Tellu_initu (k := 0) (fun vs H Q E h => ?_) (fun _ _ _ _ _ _ us hl => match us, hl with | [_, _, _], _ => rfl) (fun base cdv A outer s H vs Q E hr h => ?_)
  · exact len_Tellu_initu h
  · have nd := sc_Tellu_initu.nd
    have hu := hu_of hr
    refine ⟨_, (pss_cons (ps_fld (pv 0) (pv 1) rfl)
      (pss_one (ps_fld (pv 0) (pv 2) rfl))), ?_⟩
    try dsimp only [cxOf, Cx.nox, Cx.wish]
    obtain ⟨p, dx, as, rfl, la, hp, q⟩ := h
    match as, la, q with
    | [a0, a1], _, q =>
      repeat walk_at "w"
      refine w_chg fun H1 e1 f1 => ?_
      have g1 : H1 p = some (.ins (He.ga K "Tell") dx [("sel", a0)]) := f1
      repeat walk_at "w"
      refine w_chg fun H2 e2 f2 => ?_
      have g2 : H2 p = some (.ins (He.ga K "Tell") dx [("sel", a0), ("source", a1)]) := f2
      repeat walk_at "w"
      exact q H2 g2 (e1.trans e2)
theorem ok_Tell_told [c : Facts K mg] {f : Addr} {fd : FuncData} (F : FunD K "told" "Tell.told" (defArgs s_Tell_told) (defBody s_Tell_told) (defScope s_Tell_told) [] [] f fd) : FnA P w K mg f 1 ["self"] ((spToldF (He.ga K "Tell") ["sel", "source"] "tell")) := by
  refine FnA.mk' F sc_Tell_told (k := 0) (fun vs H Q E h => ?_) (fun _ _ _ _ _ _ us hl => match us, hl with | [_], _ => rfl) (fun base cdv A outer s H vs Q E hr h => ?_)
  · exact len_Tell_told h
  · have nd := sc_Tell_told.nd
    have hu := hu_of hr
    refine ⟨_, (pss_one (ps_ret (pe_tup (pa_cons pe_str (pa_cons (pe_fldK (K := K) rfl (pv 0)) (pa_cons (pe_fldK (K := K) rfl (pv 0)) pa_nil)))))), ?_⟩
    try dsimp only [cxOf, Cx.nox, Cx.wish]
    obtain ⟨p, dx, as, rfl, la, hp, q⟩ := h
    match as, la, hp, q with
    | [a0, a1], _, hp, q =>
      have hp' : H p = some (.ins (He.ga K "Tell") dx [("sel", a0), ("source", a1)]) := hp
      repeat walk_at "w"
      exact w_new fun t H1 n1 s1 f1 => q t H1 f1 s1 n1
theorem ok_Storeu_initu [c : Facts K mg] {f : Addr} {fd : FuncData} (F : FunD K "__init__" "Store.__init__" (defArgs s_Storeu_initu) (defBody s_Storeu_initu) (defScope s_Storeu_initu) [] [] f fd) : FnA P w K mg f 1 ["self", "at", "source"] ((spMkF (He.ga K "Store") ["at", "source"])) := by
  refine FnA.mk' F sc_Storeu_initu (k := 0) (fun vs H Q E h => ?_) (fun _ _ _ _ _ _ us hl => match us, hl with | [_, _, _], _ => rfl) (fun base cdv A outer s H vs Q E hr h => ?_)
  · exact len_Storeu_initu h
  · have nd := sc_Storeu_initu.nd
    have hu := hu_of hr
    refine ⟨_, (pss_cons (ps_fld (pv 0) (pv 1) rfl)
      (pss_one (ps_fld (pv 0) (pv 2) rfl))), ?_⟩
    try dsimp only [cxOf, Cx.nox, Cx.wish]
    obtain ⟨p, dx, as, rfl, la, hp, q⟩ := h
    match as, la, q with
    | [a0, a1], _, q =>
      repeat walk_at "w"
      refine w_chg fun H1 e1 f1 => ?_
      have g1 : H1 p = some (.ins (He.ga K "Store") dx [("at", a0)]) := f1
      repeat walk_at "w"
      refine w_chg fun H2 e2 f2 => ?_
      have g2 : H2 p = some (.ins (He.ga K "Store") dx [("at", a0), ("source", a1)]) := f2
      repeat walk_at "w"
      exact q H2 g2 (e1.trans e2)
theorem ok_Store_told [c : Facts K mg] {f : Addr} {fd : FuncData} (F : FunD K "told" "Store.told" (defArgs s_Store_told) (defBody s_Store_told) (defScope s_Store_told) [] [] f fd) : FnA P w K mg f 1 ["self"] ((spToldF (He.ga K "Store") ["at", "source"] "store")) := by
  refine FnA.mk' F sc_Store_told (k := 0) (fun vs H Q E h => ?_) (fun _ _ _ _ _ _ us hl => match us, hl with | [_], _ => rfl) (fun base cdv A outer s H vs Q E hr h => ?_)
  · exact len_Store_told h
  · have nd := sc_Store_told.nd
    have hu := hu_of hr
    refine ⟨_, (pss_one (ps_ret (pe_tup (pa_cons pe_str (pa_cons (pe_fldK (K := K) rfl (pv 0)) (pa_cons (pe_fldK (K := K) rfl (pv 0)) pa_nil)))))), ?_⟩
    try dsimp only [cxOf, Cx.nox, Cx.wish]
    obtain ⟨p, dx, as, rfl, la, hp, q⟩ := h
    match as, la, hp, q with
    | [a0, a1], _, hp, q =>
      have hp' : H p = some (.ins (He.ga K "Store") dx [("at", a0), ("source", a1)]) := hp
      repeat walk_at "w"
      exact w_new fun t H1 n1 s1 f1 => q t H1 f1 s1 n1
end

end J
namespace J
open PySem PySem.Spec PyProof.Rows L2
local macro_rules | `(tactic| walk_at "cls") => `(tactic| first
  | with_reducible exact Facts.cl_Step
  | with_reducible exact Facts.cl_Get
  | with_reducible exact Facts.cl_Ask
  | with_reducible exact Facts.cl_Cell
  | with_reducible exact Facts.cl_Two
  | with_reducible exact Facts.cl_Put
  | with_reducible exact Facts.cl_Tell
  | with_reducible exact Facts.cl_Store
  | with_reducible exact Facts.cl_Parts
  | with_reducible exact Facts.cl_Order)
local macro_rules | `(tactic| walk_at "na") => `(tactic| first
  | with_reducible exact Facts.na_Get_to
  | with_reducible exact Facts.na_Get_sel
  | with_reducible exact Facts.na_Ask_to
  | with_reducible exact Facts.na_Ask_sel
  | with_reducible exact Facts.na_Cell_to
  | with_reducible exact Facts.na_Cell_source
  | with_reducible exact Facts.na_Two_to
  | with_reducible exact Facts.na_Two_op
  | with_reducible exact Facts.na_Two_one
  | with_reducible exact Facts.na_Two_other
  | with_reducible exact Facts.na_Put_sel
  | with_reducible exact Facts.na_Put_source
  | with_reducible exact Facts.na_Tell_sel
  | with_reducible exact Facts.na_Tell_source
  | with_reducible exact Facts.na_Store_at
  | with_reducible exact Facts.na_Store_source
  | with_reducible exact Facts.na_Parts_rows
  | with_reducible exact Facts.na_Order_parts
  | with_reducible exact Facts.na_Order_order
  | with_reducible exact Facts.na_Order_needed)
local macro_rules | `(tactic| walk_at "ty") => `(tactic| first
  | with_reducible exact ty_int
  | with_reducible exact ty_bl
  | with_reducible exact ty_str
  | with_reducible exact ty_non
  | ((with_reducible refine' ty_lst ?vv); (case vv => walk_at "tr"))
  | ((with_reducible refine' ty_sqT ?vv); (case vv => walk_at "tr"))
  | ((with_reducible refine' ty_dic ?vv); (case vv => walk_at "tr")))
local macro_rules | `(tactic| walk_at "ix") => `(tactic| first | exact at0 | exact at1 | exact at2 | assumption)
local macro_rules | `(tactic| walk_at "size") => `(tactic| first
  | assumption
  | (show _ < sizeLine; rw [sizeLine_eq]; (try simp only [List.length_cons, List.length_nil, List.length_append, List.length_map]); omega)
  | (show _ ≤ sizeLine; rw [sizeLine_eq]; (try simp only [List.length_cons, List.length_nil, List.length_append, List.length_map]); omega))
local macro_rules | `(tactic| walk_at "side") => `(tactic| first
  | assumption
  | ((with_reducible refine cdw ?_ ?_) <;> omega)
  | omega
  | (exact ⟨by omega, by omega⟩)
  | (exact Or.inl ⟨by omega, by omega⟩)
  | (exact Or.inr ⟨by omega, by omega⟩)
  | decide
  | (simp only [List.length_cons, List.length_nil, List.length_append, List.length_map]; omega)
  | (show _ ≤ _; decide))
local macro_rules | `(tactic| walk_at "as") => `(tactic| with_reducible assumption)
local macro_rules | `(tactic| walk_at "tr") => `(tactic| first
  | with_reducible assumption
  | with_reducible exact upd_same
  | ((with_reducible refine' SqL.of ?hh); (case hh => walk_at "as"))
  | ((with_reducible refine' SqT.of ?hh); (case hh => walk_at "as"))
  | ((with_reducible refine' Same.stm ?ee ?gg); (case ee => walk_at "as"); (case gg => walk_at "tr"))
  | ((with_reducible refine' Same.sqT ?ee ?gg); (case ee => walk_at "as"); (case gg => walk_at "tr"))
  | ((with_reducible refine' Same.sqL ?ee ?gg); (case ee => walk_at "as"); (case gg => walk_at "tr"))
  | ((with_reducible refine' Same.at ?ee ?gg); (case ee => walk_at "as"); (case gg => walk_at "tr"))
  | ((with_reducible refine' But.stm ?ee ?ff ?gg); (case ee => walk_at "as"); (case ff => walk_at "ne"); (case gg => walk_at "tr"))
  | ((with_reducible refine' But.tup ?ee ?ff ?gg); (case ee => walk_at "as"); (case ff => walk_at "tr1"); (case gg => walk_at "tr"))
  | ((with_reducible refine' But.sqT ?ee ?ff ?gg); (case ee => walk_at "as"); (case ff => walk_at "tr1"); (case gg => walk_at "tr"))
  | ((with_reducible refine' But.tupL ?ee ?ff ?gg); (case ee => walk_at "as"); (case ff => walk_at "tr1"); (case gg => walk_at "tr"))
  | ((with_reducible refine' But.sqTL ?ee ?ff ?gg); (case ee => walk_at "as"); (case ff => walk_at "tr1"); (case gg => walk_at "tr"))
  | ((with_reducible refine' But.sqL ?ee ?ff ?gg); (case ee => walk_at "as"); (case ff => walk_at "ne"); (case gg => walk_at "tr"))
  | ((with_reducible refine' But.at ?ee ?ff ?gg); (case ee => walk_at "as"); (case ff => walk_at "ne"); (case gg => walk_at "tr")))
local macro_rules | `(tactic| walk_at "ts") => `(tactic| first
  | with_reducible assumption
  | with_reducible exact TS.refl _
  | ((with_reducible refine' TS.trans ?gg (TS.of ?ee)); (case ee => walk_at "as"); (case gg => walk_at "ts"))
  | ((with_reducible refine' TS.trans ?gg (TS.butS ?ee ?ff)); (case ee => walk_at "as"); (case ff => walk_at "tr1"); (case gg => walk_at "ts"))
  | ((with_reducible refine' TS.trans ?gg (TS.butL ?ee ?ff)); (case ee => walk_at "as"); (case ff => walk_at "tr1"); (case gg => walk_at "ts"))
  | ((with_reducible refine' TS.trans ?gg (TS.butI ?ee ?ff)); (case ee => walk_at "as"); (case ff => walk_at "tr1"); (case gg => walk_at "ts")))
local macro_rules | `(tactic| walk_at "sm") => `(tactic| first
  | with_reducible assumption
  | with_reducible exact Same.refl _
  | ((with_reducible refine' Same.trans ?gg ?ee); (case ee => walk_at "as"); (case gg => walk_at "sm"))
  | ((with_reducible refine' But.new ?gg ?nn ?ee); (case ee => walk_at "as"); (case nn => walk_at "fr"); (case gg => walk_at "sm")))
local macro_rules | `(tactic| walk_at "fr") => `(tactic| first
  | with_reducible assumption
  | ((with_reducible refine' Same.back ?ee ?nn); (case nn => walk_at "as"); (case ee => walk_at "sm"))
  | ((with_reducible refine' But.back ?ee ?ff ?nn); (case nn => walk_at "as"); (case ff => walk_at "ne0"); (case ee => walk_at "bu")))
local macro_rules | `(tactic| walk_at "bu") => `(tactic| first
  | with_reducible assumption
  | with_reducible exact But.refl _ _
  | ((with_reducible refine' But.trans ?gg ?ee); (case ee => walk_at "as"); (case gg => walk_at "bu"))
  | ((with_reducible refine' But.trans ?gg (But.of ?ee)); (case ee => walk_at "as"); (case gg => walk_at "bu"))
  | ((with_reducible refine' But.new2 ?gg ?nn ?ee); (case ee => walk_at "as"); (case nn => walk_at "frB"); (case gg => walk_at "bu")))
local macro_rules | `(tactic| walk_at "frB") => `(tactic| first
  | with_reducible assumption
  | ((with_reducible refine' Same.back ?ee ?nn); (case nn => walk_at "as"); (case ee => walk_at "sm"))
  | ((with_reducible refine' But.back' ?ee ?ff ?nn); (case nn => walk_at "as"); (case ee => walk_at "bu"); (case ff => walk_at "tr1")))
local macro_rules | `(tactic| walk_at "tr1") => `(tactic| first
  | with_reducible assumption
  | ((with_reducible refine' Same.stm ?ee ?gg); (case ee => walk_at "as"); (case gg => walk_at "tr1"))
  | ((with_reducible refine' Same.at ?ee ?gg); (case ee => walk_at "as"); (case gg => walk_at "tr1"))
  | ((with_reducible refine' But.at ?ee ?ff ?gg); (case ee => walk_at "as"); (case ff => walk_at "ne0"); (case gg => walk_at "tr1"))
  | ((with_reducible refine' But.stm ?ee ?ff ?gg); (case ee => walk_at "as"); (case ff => walk_at "ne0"); (case gg => walk_at "tr1")))
local macro_rules | `(tactic| walk_at "ne0") => `(tactic| first
  | with_reducible assumption
  | (with_reducible apply Ne.symm; with_reducible assumption))
local macro_rules | `(tactic| walk_at "ne") => `(tactic| first
  | with_reducible assumption
  | (with_reducible apply Ne.symm; with_reducible assumption)
  | ((with_reducible refine' stm_ne ?hh ?nn); (case nn => walk_at "as"); (case hh => walk_at "tr1"))
  | ((with_reducible refine' ne_of_none ?hh ?nn); (case nn => walk_at "as"); (case hh => walk_at "tr1"))
  | ((with_reducible apply Ne.symm); (with_reducible refine' ne_of_none ?hh ?nn); (case nn => walk_at "as"); (case hh => walk_at "tr1")))
local macro_rules | `(tactic| walk_at "v") => `(tactic| first
  | with_reducible refine w_seq ?_
  | ((with_reducible refine' w_var ?vv ?_); (case vv => exact rfl))
  | with_reducible refine w_c ?_
  | with_reducible refine w_op ?_
  | with_reducible refine w_asg ?_
  | with_reducible refine w_gName ?_
  | with_reducible refine w_ret ?_
  | with_reducible refine w_ifS ?_
  | with_reducible refine w_drop ?_
  | with_reducible refine w_next ?_
  | with_reducible refine w_cons ?_
  | with_reducible refine w_nil ?_
  | with_reducible refine w_call ?_
  | with_reducible refine w_cb ?_
  | with_reducible refine w_rI0 ?_
  | with_reducible refine w_addI ?_
  | with_reducible refine w_eqI ?_
  | with_reducible refine w_neI ?_
  | with_reducible refine w_eqS ?_
  | with_reducible refine w_neS ?_
  | with_reducible refine w_eqB ?_
  | with_reducible refine w_neB ?_
  | with_reducible refine w_chain ?_
  | with_reducible refine w_test ?_
  | with_reducible refine w_tB ?_
  | with_reducible refine w_bl ?_
  | ((with_reducible refine' w_mulI ?vv ?_); (case vv => walk_at "side"))
  | ((with_reducible refine' w_rI ?vv ?_); (case vv => walk_at "side"))
  | with_reducible refine w_int1 ?_
  | with_reducible refine w_int1b ?_
  | with_reducible refine w_tup ?_
  | with_reducible refine w_lst ?_
  | with_reducible refine w_un ?_
  | with_reducible refine w_rU ?_
  | with_reducible refine w_not ?_
  | with_reducible refine w_notV ?_
  | with_reducible refine w_ifE ?_
  | with_reducible refine w_nT ?_
  | with_reducible refine w_nF ?_
  | with_reducible refine iteT ?_
  | with_reducible refine iteF ?_
  | ((with_reducible refine' w_ixT ?vv ?ww ?_); (case vv => walk_at "tr"); (case ww => walk_at "ix"))
  | ((with_reducible refine' w_ixL ?vv ?ww ?_); (case vv => walk_at "tr"); (case ww => walk_at "ix"))
  | with_reducible refine w_gSub ?_
  | ((with_reducible refine' w_setL ?vv ?ww ?_); (case vv => walk_at "tr"); (case ww => first | rfl | decide | assumption))
  | ((with_reducible refine' w_lenL ?vv ?_); (case vv => walk_at "tr"))
  | ((with_reducible refine' w_lenT ?vv ?_); (case vv => walk_at "tr"))
  | with_reducible refine w_max2 ?_
  | with_reducible refine w_max3 ?_
  | with_reducible refine w_din ?_
  | with_reducible refine w_dnotin ?_
  | with_reducible refine w_dput ?_
  | with_reducible refine w_min2 ?_
  | with_reducible refine w_bm ?_
  | with_reducible refine w_bm0 ?_
  | ((with_reducible refine' w_tyL ?vv ?_); (case vv => walk_at "tr"))
  | ((with_reducible refine' w_append ?vv ?ww ?_); (case vv => walk_at "tr"); (case ww => walk_at "size"))
  | ((with_reducible refine' w_size ?vv ?_); (case vv => walk_at "size"))
  | with_reducible refine w_forL ?_
  | with_reducible refine w_forT ?_
  | with_reducible refine w_forR1 ?_
  | with_reducible refine w_forR2 ?_
  | with_reducible refine w_lcL ?_
  | with_reducible refine w_lcT ?_
  | with_reducible refine w_lcR1 ?_
  | with_reducible refine w_yes ?_
  | with_reducible refine w_sl ?_
  | with_reducible refine w_noPart ?_
  | with_reducible refine w_part ?_
  | with_reducible refine w_int ?_
  | ((with_reducible refine' w_slL ?vv ?_); (case vv => walk_at "tr"))
  | ((with_reducible refine' w_seqL ?vv ?ww ?_); (case vv => walk_at "tr"); (case ww => rfl))
  | ((with_reducible refine' w_seqT ?vv ?ww ?_); (case vv => walk_at "tr"); (case ww => rfl))
  | with_reducible refine w_gNil ?_
  | with_reducible refine w_gCons ?_
  | with_reducible refine w_forZ ?_
  | with_reducible refine w_forM ?_
  | with_reducible refine w_forE ?_
  | with_reducible refine w_forV ?_
  | with_reducible refine w_lcZ ?_
  | with_reducible refine w_lcE ?_
  | ((with_reducible refine' w_isi (b := true) ?vv ?ww ?_); (case vv => walk_at "ty"); (case ww => decide +kernel))
  | ((with_reducible refine' w_isi (b := false) ?vv ?ww ?_); (case vv => walk_at "ty"); (case ww => decide +kernel))
  | with_reducible refine w_revL ?_
  | with_reducible refine w_pairN ?_
  | with_reducible refine w_pairC ?_
  | with_reducible refine w_dget ?_
  | with_reducible refine w_met ?_
  | ((with_reducible refine' w_metAt ?vv ?ww ?_); (case vv => walk_at "tr"); (case ww => rfl))
  | with_reducible refine w_mkI ?_
  | with_reducible refine w_fld ?_
  | ((with_reducible refine' w_fldAt ?vv ?cc ?nn ?ww ?_); (case vv => walk_at "tr"); (case cc => walk_at "cls"); (case nn => walk_at "na"); (case ww => rfl))
  | with_reducible refine w_sfld ?_
  | ((with_reducible refine' w_sfldAt ?vv ?cc ?nn ?ll ?ee ?_); (case vv => walk_at "tr"); (case cc => walk_at "cls"); (case nn => walk_at "na"); (case ll => simp); (case ee => rfl))
  | ((with_reducible refine' w_tupL ?vv ?_); (case vv => walk_at "tr"))
  | ((with_reducible refine' w_tupT ?vv ?_); (case vv => walk_at "tr"))
  | ((with_reducible refine' w_listL ?vv ?_); (case vv => walk_at "tr"))
  | ((with_reducible refine' w_listT ?vv ?_); (case vv => walk_at "tr"))
  | with_reducible refine w_tyS ?_
  | with_reducible refine w_retN ?_
  | with_reducible refine w_break ?_
  | with_reducible refine w_cont ?_)
local macro_rules | `(tactic| walk_at "w") => `(tactic| first
  | walk_at "v"
  | with_reducible refine w_or ?_
  | with_reducible refine w_and ?_
  | with_reducible refine w_andV ?_
  | with_reducible refine w_orV ?_)
local macro_rules | `(tactic| walk_at "wd") => `(tactic| first
  | walk_at "w"
  | ((with_reducible refine' w_decT ?vv ?_); (case vv => decide +kernel))
  | ((with_reducible refine' w_decF ?vv ?_); (case vv => decide +kernel)))
local macro_rules | `(tactic| walk_at "tz") => `(tactic| (intro S z; (repeat walk_at "w"); exact z))
local macro_rules | `(tactic| walk_at "wf") => `(tactic| first
  | walk_at "wd"
  | ((with_reducible refine' w_decF ?vv ?_); (case vv => with_reducible assumption)))
/-! ### steps for parts -/
def IsSrc (x : PyData) : Prop := (∃ n, x = .int n) ∨ ∃ s n, PyData.strOk s = true ∧ x = .tuple [.str s, .int n]
def srcD (inn : Int → Int) (x : PyData) : PyData := match x with
  | .int j => .tuple [.str "in", .int (inn j)]
  | y => y
def RowS (d : PyData) : Prop := (∃ k n, SelS k ∧ d = .tuple [.str "get", selD k n]) ∨ (∃ k n, SelS k ∧ d = .tuple [.str "ask", selD k n]) ∨ (∃ x, IsSrc x ∧ d = .tuple [.str "cell", x]) ∨ ∃ o x y, OpS o ∧ IsSrc x ∧ IsSrc y ∧ d = .tuple [.str o, x, y]
def stepD (to : Int) (inn : Int → Int) (d : PyData) : List PyData := match d with
  | .tuple [.str s, x] => if s = "cell" then [.str "cell", .int to, srcD inn x] else [.str s, .int to, x]
  | .tuple [.str o, x, y] => [.str "two", .int to, .str o, srcD inn x, srcD inn y]
  | _ => []
def givD (inn : Int → Int) (s : SetE) (xs : List PyData) : List PyData := match s, xs with
  | .cell _ _, [x, y] => [.str "store", srcD inn x, srcD inn y]
  | .sel m k n _, [x] => [.str (if m then "tell" else "put"), selD k n, srcD inn x]
  | _, _ => []
theorem IsSrc.tup {x : PyData} (h : IsSrc x) : tupD x = true := by
  rcases h with ⟨n, rfl⟩ | ⟨s, n, _, rfl⟩ <;> simp [tupD, tupAll]
theorem srcD_tup {inn : Int → Int} {x : PyData} (h : IsSrc x) : tupD (srcD inn x) = true := by
  rcases h with ⟨n, rfl⟩ | ⟨s, n, _, rfl⟩ <;> simp [srcD, tupD, tupAll]
theorem srcD_cln {inn : Int → Int} {x : PyData} (h : IsSrc x) : clean (srcD inn x) = true ∧ (srcD inn x).depth ≤ 1 := by
  rcases h with ⟨n, rfl⟩ | ⟨s, n, hs, rfl⟩
  · refine ⟨?_, by simp [srcD, PyData.depth, PyData.depthAll]⟩
    simp only [srcD, clean, cleanAll]
    decide +kernel
  · refine ⟨?_, by simp [srcD, PyData.depth, PyData.depthAll]⟩
    simp only [srcD, clean, cleanAll, hs]
    rfl
theorem part_src (e : Exp) (ps : List PyData) : IsSrc (e.part ps).1 := by
  cases e with
  | num n => exact .inr ⟨"number", n, by decide +kernel, rfl⟩
  | fld n => exact .inr ⟨"field", n, by decide +kernel, rfl⟩
  | plc k n => exact .inl ⟨_, rfl⟩
  | mrk k n => exact .inl ⟨_, rfl⟩
  | cell a => exact .inl ⟨_, rfl⟩
  | two o a b => exact .inl ⟨_, rfl⟩
theorem part_rowS : ∀ (e : Exp) {ps : List PyData}, e.good → (∀ d ∈ ps, RowS d) → ∀ d ∈ (e.part ps).2, RowS d
  | .num _, _, _, h => h
  | .fld _, _, _, h => h
  | .plc k n, ps, g, h => fun d hd => by
    rcases List.mem_append.mp hd with q | q
    · exact h d q
    · rw [List.mem_singleton.mp q]; exact .inl ⟨k, n, g, rfl⟩
  | .mrk k n, ps, g, h => fun d hd => by
    rcases List.mem_append.mp hd with q | q
    · exact h d q
    · rw [List.mem_singleton.mp q]; exact .inr (.inl ⟨k, n, g, rfl⟩)
  | .cell a, ps, g, h => fun d hd => by
    rcases List.mem_append.mp hd with q | q
    · exact part_rowS a (ps := ps) g h d q
    · rw [List.mem_singleton.mp q]; exact .inr (.inr (.inl ⟨_, part_src a ps, rfl⟩))
  | .two o a b, ps, g, h => fun d hd => by
    rcases List.mem_append.mp hd with q | q
    · exact part_rowS b (ps := (a.part ps).2) g.2.2 (part_rowS a g.2.1 h) d q
    · rw [List.mem_singleton.mp q]; exact .inr (.inr (.inr ⟨o, _, _, g.1, part_src a ps, part_src b _, rfl⟩))
theorem parts_rowS : ∀ (es : List Exp) {ps : List PyData}, (∀ e ∈ es, e.good) → (∀ d ∈ ps, RowS d) → ∀ d ∈ (parts es ps).2, RowS d
  | [], _, _, h => h
  | e :: es, ps, g, h => parts_rowS es (ps := (e.part ps).2) (fun x hx => g x (List.mem_cons_of_mem _ hx)) (part_rowS e (g e List.mem_cons_self) h)
theorem proots_rowS {ss : List SetE} (h : ∀ s ∈ ss, OkS 4 s) : ∀ d ∈ (proots ss []).2, RowS d := by
  rw [proots_parts]
  exact parts_rowS _ (fun e he => (restsL_ok h e he).2) fun _ q => (List.not_mem_nil q).elim
def kinds : List (Str × Str × List Str) := [("Get", "get", ["to", "sel"]), ("Ask", "ask", ["to", "sel"]), ("Cell", "cell", ["to", "source"]), ("Two", "two", ["to", "op", "one", "other"]), ("Put", "put", ["sel", "source"]), ("Tell", "tell", ["sel", "source"]), ("Store", "store", ["at", "source"])]
/-- a step that tells ds -/
def StpO (K : PySem.W.Frag) (H : Hp) (v : V) (ds : List PyData) : Prop := ∃ p dx c tag fs as ys, (c, tag, fs) ∈ kinds ∧ v = .ref p ∧ H p = some (.ins (He.ga K c) dx (fs.zip as)) ∧ as.length = fs.length ∧ ds = .str tag :: ys ∧ DpAll K H as ys ∧ tupAll ys = true
/-- tuples and objects stay -/
def IT (H H' : Hp) : Prop := TS H H' ∧ ∀ (p C dx : Addr) (fs : List (Str × V)), H p = some (.ins C dx fs) → H' p = some (.ins C dx fs)
theorem IT.of {H H' : Hp} (e : Same H H') : IT H H' := ⟨TS.of e, fun p _ _ _ h => e p _ h⟩
theorem IT.butL {H H' : Hp} {q : Addr} {ys : List V} (e : But q H H') (t : H q = some (.lst ys)) : IT H H' := ⟨TS.butL e t, fun p _ _ _ h => e p _ (ne_of h t (by intro z; cases z)) h⟩
theorem IT.butD {H H' : Hp} {q : Addr} {ys : List (Key × V)} (e : But q H H') (t : H q = some (.dK ys)) : IT H H' :=
  ⟨fun b _ => ⟨fun h => e b _ (ne_of h t (by intro q; cases q)) h, fun _ h => e b _ (ne_of h t (by intro q; cases q)) h⟩, fun p _ _ _ h => e p _ (ne_of h t (by intro z; cases z)) h⟩
theorem IT.trans {H H1 H2 : Hp} (a : IT H H1) (b : IT H1 H2) : IT H H2 := ⟨a.1.trans b.1, fun p C dx fs h => b.2 p C dx fs (a.2 p C dx fs h)⟩
theorem IT.refl (H : Hp) : IT H H := ⟨TS.refl H, fun _ _ _ _ h => h⟩
theorem StpO.it {K : PySem.W.Frag} {H H' : Hp} {v : V} {ds : List PyData} (h : StpO K H v ds) (e : IT H H') : StpO K H' v ds := by
  obtain ⟨p, dx, c, tag, fs, as, ys, h1, h2, h3, h4, h5, h6, h7⟩ := h
  exact ⟨p, dx, c, tag, fs, as, ys, h1, h2, e.2 _ _ _ _ h3, h4, h5, dpAll_ts e.1 _ _ h7 h6, h7⟩
def spAsSrc (K : PySem.W.Frag) : Sp := fun vs H Q _ => ∃ di v kvs x inn, vs = [.ref di, v] ∧ H di = some (.dK kvs) ∧ Dp K H v x ∧ IsSrc x ∧ (∀ j, x = .int j → valV kvs (.inl j) = some (.int (inn j))) ∧ ∀ r H', Dp K H' r (srcD inn x) → Same H H' → Q r H'
theorem len_as_source {K : PySem.W.Frag} {vs H Q E} (h : spAsSrc K vs H Q E) : vs.length = 2 := by obtain ⟨_, _, _, _, _, rfl, _⟩ := h; rfl
def spLSrc (K : PySem.W.Frag) : Sp := fun vs H Q _ => ∃ di v kvs x inn, vs = [v, .ref di] ∧ H di = some (.dK kvs) ∧ Dp K H v x ∧ IsSrc x ∧ (∀ j, x = .int j → valV kvs (.inl j) = some (.int (inn j))) ∧ ∀ r H', Dp K H' r (srcD inn x) → Same H H' → Q r H'
theorem len_law_source {K : PySem.W.Frag} {vs H Q E} (h : spLSrc K vs H Q E) : vs.length = 2 := by obtain ⟨_, _, _, _, _, rfl, _⟩ := h; rfl
/-- the numbers in a row are known to the dict -/
def Knows (kvs : List (Key × V)) (inn : Int → Int) (l : List Int) : Prop := ∀ j ∈ l, valV kvs (.inl j) = some (.int (inn j))
def spStepFor (K : PySem.W.Frag) : Sp := fun vs H Q _ => ∃ v to di kvs d inn, vs = [v, .int to, .ref di] ∧ Dp K H v d ∧ RowS d ∧ H di = some (.dK kvs) ∧ Knows kvs inn (ownD d) ∧ ∀ r H', StpO K H' r (stepD to inn d) → Same H H' → Q r H'
theorem len_step_for {K : PySem.W.Frag} {vs H Q E} (h : spStepFor K vs H Q E) : vs.length = 3 := by obtain ⟨_, _, _, _, _, _, rfl, _⟩ := h; rfl
def spLStep (K : PySem.W.Frag) : Sp := fun vs H Q _ => ∃ v to di kvs d inn, vs = [v, .int to, .ref di] ∧ Dp K H v d ∧ RowS d ∧ H di = some (.dK kvs) ∧ Knows kvs inn (ownD d) ∧ ∀ r H', Dp K H' r (.tuple (stepD to inn d)) → Same H H' → Q r H'
theorem len_law_step {K : PySem.W.Frag} {vs H Q E} (h : spLStep K vs H Q E) : vs.length = 3 := by obtain ⟨_, _, _, _, _, _, rfl, _⟩ := h; rfl
section
variable {P : Program} {w : World} {K : PySem.W.Frag} {mg : Str → Option Value}
theorem ok_as_source [c : Facts K mg] : Fn P w K mg "as_source" 1 ["inner", "one"] ((spAsSrc K)) := by
  obtain ⟨fd, F⟩ := c.d_as_source
  refine Fn.mk' F c.g_as_source sc_as_source (k := 0) (fun vs H Q E h => ?_) (fun _ _ _ _ _ _ us hl => match us, hl with | [_, _], _ => rfl) (fun base cdv A outer s H vs Q E hr h => ?_)
  · exact len_as_source h
  · have nd := sc_as_source.nd
    have hu := hu_of hr
    refine ⟨_, (pss_cons (ps_if (pt_val (pe_callB (call_isiA (K := K) rfl) (by rfl) c.f_isinstance boot_isinstance (pa_cons (pv 1) (pa_cons (pe_bltn (v := .ty "int") (by rfl) c.f_int boot_int rfl) pa_nil)))) (pss_one (ps_ret (pe_tup (pa_cons pe_str (pa_cons (pe_dget hu (pv 0) (pv 1) (fun _ _ => rfl)) pa_nil))))) pss_nil)
      (pss_one (ps_ret (pv 1)))), ?_⟩
    try dsimp only [cxOf, Cx.nox, Cx.wish]
    obtain ⟨di, v, kvs, x, inn, rfl, hd, hv, hs, hk, q⟩ := h
    rcases hs with ⟨n, rfl⟩ | ⟨s, n, hs, rfl⟩
    · cases dp_int hv
      repeat walk_at "w"
      refine w_dgotI hd (hk n rfl) ?_
      repeat walk_at "w"
      refine w_new fun t H1 n1 s1 f1 => ?_
      exact q _ H1 (.tup (SqT.of f1) (.cons (.str _) (.cons (.int _) .nil))) s1
    · obtain ⟨a, us, rfl, ha, hus⟩ := dp_tup hv
      repeat walk_at "w"
      exact q _ H hv (Same.refl _)
theorem ok_law_source [c : Facts K mg] : Fn P w K mg "_law_source" 1 ["one", "inner"] ((spLSrc K)) := by
  obtain ⟨fd, F⟩ := c.d_law_source
  refine Fn.mk' F c.g_law_source sc_law_source (k := 0) (fun vs H Q E h => ?_) (fun _ _ _ _ _ _ us hl => match us, hl with | [_, _], _ => rfl) (fun base cdv A outer s H vs Q E hr h => ?_)
  · exact len_law_source h
  · have nd := sc_law_source.nd
    have hu := hu_of hr
    refine ⟨_, (pss_cons (ps_if (pt_val (pe_callB (call_isiA (K := K) rfl) (by rfl) c.f_isinstance boot_isinstance (pa_cons (pv 0) (pa_cons (pe_bltn (v := .ty "int") (by rfl) c.f_int boot_int rfl) pa_nil)))) (pss_one (ps_ret (pe_tup (pa_cons pe_str (pa_cons (pe_dget hu (pv 1) (pv 0) (fun _ _ => rfl)) pa_nil))))) pss_nil)
      (pss_one (ps_ret (pv 0)))), ?_⟩
    try dsimp only [cxOf, Cx.nox, Cx.wish]
    obtain ⟨di, v, kvs, x, inn, rfl, hd, hv, hs, hk, q⟩ := h
    rcases hs with ⟨n, rfl⟩ | ⟨s, n, hs, rfl⟩
    · cases dp_int hv
      repeat walk_at "w"
      refine w_dgotI hd (hk n rfl) ?_
      repeat walk_at "w"
      refine w_new fun t H1 n1 s1 f1 => ?_
      exact q _ H1 (.tup (SqT.of f1) (.cons (.str _) (.cons (.int _) .nil))) s1
    · obtain ⟨a, us, rfl, ha, hus⟩ := dp_tup hv
      repeat walk_at "w"
      exact q _ H hv (Same.refl _)
theorem ok_step_for [c : Facts K mg] (G_as_source : Fn P w K mg "as_source" 1 ["inner", "one"] ((spAsSrc K))) (GM_Ask___init__ : FnA P w K mg (He.ma K (He.ga K "Ask") "__init__") 1 ["self", "to", "sel"] ((spMkF (He.ga K "Ask") ["to", "sel"]))) (GM_Cell___init__ : FnA P w K mg (He.ma K (He.ga K "Cell") "__init__") 1 ["self", "to", "source"] ((spMkF (He.ga K "Cell") ["to", "source"]))) (GM_Get___init__ : FnA P w K mg (He.ma K (He.ga K "Get") "__init__") 1 ["self", "to", "sel"] ((spMkF (He.ga K "Get") ["to", "sel"]))) (GM_Two___init__ : FnA P w K mg (He.ma K (He.ga K "Two") "__init__") 1 ["self", "to", "op", "one", "other"] ((spMkF (He.ga K "Two") ["to", "op", "one", "other"]))) : Fn P w K mg "step_for" 3 ["part", "to", "inner"] ((spStepFor K)) := by
  obtain ⟨fd, F⟩ := c.d_step_for
  refine Fn.mk' F c.g_step_for sc_step_for (k := 2) (fun vs H Q E h => ?_) (fun _ _ _ _ _ _ us hl => match us, hl with | [_, _, _], _ => rfl) (fun base cdv A outer s H vs Q E hr h => ?_)
  · exact len_step_for h
  · have nd := sc_step_for.nd
    have hu := hu_of hr
    have hr_as_source : Room 1 _ := hr.mono (by omega)
    have hrI_Ask : Room (1 + 1) _ := hr.mono (by omega)
    have hrI_Cell : Room (1 + 1) _ := hr.mono (by omega)
    have hrI_Get : Room (1 + 1) _ := hr.mono (by omega)
    have hrI_Two : Room (1 + 1) _ := hr.mono (by omega)
    refine ⟨_, (pss_cons (ps_if (pt_cmpR (op_eqA (K := K) rfl hr.units) (pe_ix (ix_any (K := K) rfl) (pv 0) pe_int (fun _ _ => rfl)) pe_str (nomark _)) (pss_one (ps_ret (pe_mkI GM_Get___init__ rfl c.mk_Get c.gc_Get hrI_Get (by rfl) (pa_cons (pv 1) (pa_cons (pe_ix (ix_any (K := K) rfl) (pv 0) pe_int (fun _ _ => rfl)) pa_nil))))) pss_nil)
      (pss_cons (ps_if (pt_cmpR (op_eqA (K := K) rfl hr.units) (pe_ix (ix_any (K := K) rfl) (pv 0) pe_int (fun _ _ => rfl)) pe_str (nomark _)) (pss_one (ps_ret (pe_mkI GM_Ask___init__ rfl c.mk_Ask c.gc_Ask hrI_Ask (by rfl) (pa_cons (pv 1) (pa_cons (pe_ix (ix_any (K := K) rfl) (pv 0) pe_int (fun _ _ => rfl)) pa_nil))))) pss_nil)
      (pss_cons (ps_if (pt_cmpR (op_eqA (K := K) rfl hr.units) (pe_ix (ix_any (K := K) rfl) (pv 0) pe_int (fun _ _ => rfl)) pe_str (nomark _)) (pss_one (ps_ret (pe_mkI GM_Cell___init__ rfl c.mk_Cell c.gc_Cell hrI_Cell (by rfl) (pa_cons (pv 1) (pa_cons (pe_fn G_as_source hr_as_source (by rfl) (pa_cons (pv 2) (pa_cons (pe_ix (ix_any (K := K) rfl) (pv 0) pe_int (fun _ _ => rfl)) pa_nil))) pa_nil))))) pss_nil)
      (pss_one (ps_ret (pe_mkI GM_Two___init__ rfl c.mk_Two c.gc_Two hrI_Two (by rfl) (pa_cons (pv 1) (pa_cons (pe_ix (ix_any (K := K) rfl) (pv 0) pe_int (fun _ _ => rfl)) (pa_cons (pe_fn G_as_source hr_as_source (by rfl) (pa_cons (pv 2) (pa_cons (pe_ix (ix_any (K := K) rfl) (pv 0) pe_int (fun _ _ => rfl)) pa_nil))) (pa_cons (pe_fn G_as_source hr_as_source (by rfl) (pa_cons (pv 2) (pa_cons (pe_ix (ix_any (K := K) rfl) (pv 0) pe_int (fun _ _ => rfl)) pa_nil))) pa_nil)))))))))), ?_⟩
    try dsimp only [cxOf, Cx.nox, Cx.wish]
    obtain ⟨v, to, di, kvs, d, inn, rfl, hv, hr, hd, hk, q⟩ := h
    rcases hr with ⟨k, n, ks, rfl⟩ | ⟨k, n, ks, rfl⟩ | ⟨x, hx, rfl⟩ | ⟨o, x, y, ho, hx, hy, rfl⟩
    · obtain ⟨a, u, rfl, ha, hu'⟩ := exp_1 hv
      repeat walk_at "wf"
      refine w_newI fun p dx H1 n1 s1 f1 => ?_
      refine ⟨p, dx, [.int to, u], rfl, rfl, f1, fun H2 f2 e2 => ⟨rfl, ?_⟩⟩
      have s2 : Same H H2 := But.new s1 n1 e2
      exact q _ H2 ⟨p, dx, "Get", "get", _, [.int to, u], [.int to, selD k n], by simp [kinds], rfl, f2, rfl, rfl, .cons (.int _) (.cons (dp_ts (TS.of s2) _ _ (tupD_sel _ _) hu') .nil), by simp [tupAll, tupD, tupD_sel]⟩ s2
    · obtain ⟨a, u, rfl, ha, hu'⟩ := exp_1 hv
      repeat walk_at "wf"
      refine w_newI fun p dx H1 n1 s1 f1 => ?_
      refine ⟨p, dx, [.int to, u], rfl, rfl, f1, fun H2 f2 e2 => ⟨rfl, ?_⟩⟩
      have s2 : Same H H2 := But.new s1 n1 e2
      exact q _ H2 ⟨p, dx, "Ask", "ask", _, [.int to, u], [.int to, selD k n], by simp [kinds], rfl, f2, rfl, rfl, .cons (.int _) (.cons (dp_ts (TS.of s2) _ _ (tupD_sel _ _) hu') .nil), by simp [tupAll, tupD, tupD_sel]⟩ s2
    · obtain ⟨a, u, rfl, ha, hu'⟩ := exp_1 hv
      repeat walk_at "wf"
      refine ⟨di, u, kvs, x, inn, rfl, hd, hu', hx, fun j hj => hk j (by subst hj; exact List.mem_cons_self), fun r H0 hr s0 => ?_⟩
      repeat walk_at "w"
      refine w_newI fun p dx H1 n1 s1 f1 => ?_
      refine ⟨p, dx, [.int to, r], rfl, rfl, f1, fun H2 f2 e2 => ⟨rfl, ?_⟩⟩
      have s2 : Same H0 H2 := But.new s1 n1 e2
      exact q _ H2 ⟨p, dx, "Cell", "cell", _, [.int to, r], [.int to, srcD inn x], by simp [kinds], rfl, f2, rfl, rfl, .cons (.int _) (.cons (dp_ts (TS.of s2) _ _ (srcD_tup hx) hr) .nil), by simp [tupAll, tupD, srcD_tup hx]⟩ (s0.trans s2)
    · obtain ⟨a, u, u2, rfl, ha, hu', hu2⟩ := exp_2 hv
      obtain ⟨n1, n2, n3, n4, n5⟩ := ho.ne
      have ng := opS_no ho
      have ng1 : o ≠ "get" := fun z => ng (.inl z)
      have ng2 : o ≠ "ask" := fun z => ng (.inr z)
      repeat walk_at "wf"
      refine ⟨di, u, kvs, x, inn, rfl, hd, hu', hx, fun j hj => hk j (by subst hj; exact List.mem_cons_self), fun r H0 hr s0 => ?_⟩
      have ha0 := s0.sqT ha
      repeat walk_at "w"
      refine ⟨di, u2, kvs, y, inn, rfl, s0 _ _ hd, dp_ts (TS.of s0) _ _ hy.tup hu2, hy, fun j hj => hk j (by
        subst hj
        show j ∈ intsD ([x] ++ [.int j])
        unfold intsD
        rw [List.filterMap_append]
        exact List.mem_append_right _ List.mem_cons_self), fun r2 H1 hr2 s1 => ?_⟩
      repeat walk_at "w"
      refine w_newI fun p dx H2 n2' s2 f2 => ?_
      refine ⟨p, dx, [.int to, .str o, r, r2], rfl, rfl, f2, fun H3 f3 e3 => ⟨rfl, ?_⟩⟩
      have s3 : Same H1 H3 := But.new s2 n2' e3
      exact q _ H3 ⟨p, dx, "Two", "two", _, [.int to, .str o, r, r2], [.int to, .str o, srcD inn x, srcD inn y], by simp [kinds], rfl, f3, rfl, rfl, .cons (.int _) (.cons (.str _) (.cons (dp_ts ((TS.of s1).trans (TS.of s3)) _ _ (srcD_tup hx) hr) (.cons (dp_ts (TS.of s3) _ _ (srcD_tup hy) hr2) .nil))), by simp [tupAll, tupD, srcD_tup hx, srcD_tup hy]⟩ (s0.trans (s1.trans s3))
theorem ok_law_step [c : Facts K mg] (G__law_source : Fn P w K mg "_law_source" 1 ["one", "inner"] ((spLSrc K))) : Fn P w K mg "_law_step" 2 ["part", "to", "inner"] ((spLStep K)) := by
  obtain ⟨fd, F⟩ := c.d_law_step
  refine Fn.mk' F c.g_law_step sc_law_step (k := 1) (fun vs H Q E h => ?_) (fun _ _ _ _ _ _ us hl => match us, hl with | [_, _, _], _ => rfl) (fun base cdv A outer s H vs Q E hr h => ?_)
  · exact len_law_step h
  · have nd := sc_law_step.nd
    have hu := hu_of hr
    have hr__law_source : Room 1 _ := hr.mono (by omega)
    refine ⟨_, (pss_cons (ps_if (pt_cmpR (op_inA (K := K) rfl) (pe_ix (ix_any (K := K) rfl) (pv 0) pe_int (fun _ _ => rfl)) (pe_lst (pa_cons pe_str (pa_cons pe_str pa_nil))) (by rfl)) (pss_one (ps_ret (pe_tup (pa_cons (pe_ix (ix_any (K := K) rfl) (pv 0) pe_int (fun _ _ => rfl)) (pa_cons (pv 1) (pa_cons (pe_ix (ix_any (K := K) rfl) (pv 0) pe_int (fun _ _ => rfl)) pa_nil)))))) pss_nil)
      (pss_cons (ps_if (pt_cmpR (op_eqA (K := K) rfl hr.units) (pe_ix (ix_any (K := K) rfl) (pv 0) pe_int (fun _ _ => rfl)) pe_str (nomark _)) (pss_one (ps_ret (pe_tup (pa_cons pe_str (pa_cons (pv 1) (pa_cons (pe_fn G__law_source hr__law_source (by rfl) (pa_cons (pe_ix (ix_any (K := K) rfl) (pv 0) pe_int (fun _ _ => rfl)) (pa_cons (pv 2) pa_nil))) pa_nil)))))) pss_nil)
      (pss_one (ps_ret (pe_tup (pa_cons pe_str (pa_cons (pv 1) (pa_cons (pe_ix (ix_any (K := K) rfl) (pv 0) pe_int (fun _ _ => rfl)) (pa_cons (pe_fn G__law_source hr__law_source (by rfl) (pa_cons (pe_ix (ix_any (K := K) rfl) (pv 0) pe_int (fun _ _ => rfl)) (pa_cons (pv 2) pa_nil))) (pa_cons (pe_fn G__law_source hr__law_source (by rfl) (pa_cons (pe_ix (ix_any (K := K) rfl) (pv 0) pe_int (fun _ _ => rfl)) (pa_cons (pv 2) pa_nil))) pa_nil)))))))))), ?_⟩
    try dsimp only [cxOf, Cx.nox, Cx.wish]
    obtain ⟨v, to, di, kvs, d, inn, rfl, hv, hr, hd, hk, q⟩ := h
    rcases hr with ⟨k, n, ks, rfl⟩ | ⟨k, n, ks, rfl⟩ | ⟨x, hx, rfl⟩ | ⟨o, x, y, ho, hx, hy, rfl⟩
    · obtain ⟨a, u, rfl, ha, hu'⟩ := exp_1 hv
      repeat walk_at "w"
      refine w_new fun t0 H0 n0 s0 f0 => ?_
      refine w_inL (SqL.of f0) rfl rfl ?_
      rw [show inV (.str "get") [.str "get", .str "ask"] = true by decide +kernel]
      have ha0 := s0.sqT ha
      repeat walk_at "w"
      refine w_new fun t H1 n1 s1 f1 => ?_
      exact q _ H1 (.tup (SqT.of f1) (.cons (.str _) (.cons (.int _) (.cons (dp_ts (TS.of (s0.trans s1)) _ _ (tupD_sel _ _) hu') .nil)))) (s0.trans s1)
    · obtain ⟨a, u, rfl, ha, hu'⟩ := exp_1 hv
      repeat walk_at "w"
      refine w_new fun t0 H0 n0 s0 f0 => ?_
      refine w_inL (SqL.of f0) rfl rfl ?_
      rw [show inV (.str "ask") [.str "get", .str "ask"] = true by decide +kernel]
      have ha0 := s0.sqT ha
      repeat walk_at "w"
      refine w_new fun t H1 n1 s1 f1 => ?_
      exact q _ H1 (.tup (SqT.of f1) (.cons (.str _) (.cons (.int _) (.cons (dp_ts (TS.of (s0.trans s1)) _ _ (tupD_sel _ _) hu') .nil)))) (s0.trans s1)
    · obtain ⟨a, u, rfl, ha, hu'⟩ := exp_1 hv
      repeat walk_at "w"
      refine w_new fun t0 H0 n0 s0 f0 => ?_
      refine w_inL (SqL.of f0) rfl rfl ?_
      rw [show inV (.str "cell") [.str "get", .str "ask"] = false by decide +kernel]
      have ha0 := s0.sqT ha
      repeat walk_at "wf"
      refine ⟨di, u, kvs, x, inn, rfl, s0 _ _ hd, dp_ts (TS.of s0) _ _ hx.tup hu', hx, fun j hj => hk j (by subst hj; exact List.mem_cons_self), fun r H1 hr s1 => ?_⟩
      repeat walk_at "w"
      refine w_new fun t H2 n2 s2 f2 => ?_
      exact q _ H2 (.tup (SqT.of f2) (.cons (.str _) (.cons (.int _) (.cons (dp_ts (TS.of s2) _ _ (srcD_tup hx) hr) .nil)))) (s0.trans (s1.trans s2))
    · obtain ⟨a, u, u2, rfl, ha, hu', hu2⟩ := exp_2 hv
      obtain ⟨n1, n2, n3, n4, n5⟩ := ho.ne
      have ng := opS_no ho
      repeat walk_at "w"
      refine w_new fun t0 H0 n0 s0 f0 => ?_
      refine w_inL (SqL.of f0) rfl rfl ?_
      rw [show inV (.str o) [.str "get", .str "ask"] = false by
        show (("get" : Str) == o || (("ask" : Str) == o || false)) = false
        rw [Bool.or_false, Bool.or_eq_false_iff, beq_eq_false_iff_ne, beq_eq_false_iff_ne]
        exact ⟨fun z => ng (.inl z.symm), fun z => ng (.inr z.symm)⟩]
      have ha0 := s0.sqT ha
      repeat walk_at "wf"
      refine ⟨di, u, kvs, x, inn, rfl, s0 _ _ hd, dp_ts (TS.of s0) _ _ hx.tup hu', hx, fun j hj => hk j (by subst hj; exact List.mem_cons_self), fun r H1 hr s1 => ?_⟩
      have ha1 := s1.sqT ha0
      repeat walk_at "w"
      refine ⟨di, u2, kvs, y, inn, rfl, s1 _ _ (s0 _ _ hd), dp_ts (TS.of (s0.trans s1)) _ _ hy.tup hu2, hy, fun j hj => hk j (by
        subst hj
        show j ∈ intsD ([x] ++ [.int j])
        unfold intsD
        rw [List.filterMap_append]
        exact List.mem_append_right _ List.mem_cons_self), fun r2 H2 hr2 s2 => ?_⟩
      repeat walk_at "w"
      refine w_new fun t H3 n3' s3 f3 => ?_
      exact q _ H3 (.tup (SqT.of f3) (.cons (.str _) (.cons (.int _) (.cons (.str _) (.cons (dp_ts ((TS.of s2).trans (TS.of s3)) _ _ (srcD_tup hx) hr) (.cons (dp_ts (TS.of s3) _ _ (srcD_tup hy) hr2) .nil)))))) (s0.trans (s1.trans (s2.trans s3)))
end

end J
namespace J
open PySem PySem.Spec PyProof.Rows L2
--plain
/-! ### places handed out and given back -/
structure Sim where
  free : List Int
  inn : Int → Int
  sts : List (List PyData)
def rowF (ss : List SetE) (x : Int) : PyData := (proots ss []).2.getD x.toNat (.int 0)
def simStep (ss : List SetE) (st : Sim) (x : Int) : Sim :=
  ⟨(st.free ++ (ownF ss x).map st.inn).tail, fun y => if y = x then (st.free ++ (ownF ss x).map st.inn).headD 0 else st.inn y, st.sts ++ [stepD ((st.free ++ (ownF ss x).map st.inn).headD 0) st.inn (rowF ss x)]⟩
def rangeI (many : Nat) : List Int := (List.range many).map fun i : Nat => (i : Int)
def sim (ss : List SetE) (many : Nat) (o : List Int) : Sim := o.foldl (simStep ss) ⟨rangeI many, fun _ => 0, []⟩
theorem sim_snoc (ss : List SetE) (many : Nat) (o : List Int) (x : Int) : sim ss many (o ++ [x]) = simStep ss (sim ss many o) x := by
  unfold sim; rw [List.foldl_append]; rfl
theorem sim_take {ss : List SetE} {many : Nat} {o : List Int} {i : Nat} {x : Int} (h : o[i]? = some x) : sim ss many (o.take (i + 1)) = simStep ss (sim ss many (o.take i)) x := by
  rw [take_snoc h, sim_snoc]
def givF (ss : List SetE) (inn : Int → Int) (i : Nat) : List PyData := match ss[i]? with
  | some s => givD inn s (parts s.rests (proots (ss.take i) []).2).1
  | none => []
def dueF (ss : List SetE) (many : Nat) (o : List Int) : List (List PyData) := (sim ss many o).sts ++ (List.range ss.length).map (givF ss (sim ss many o).inn)
theorem held_sum {ss : List SetE} {o : List Int} (h : Full (ownF ss) (nOf ss) o) : ∀ i, i ≤ o.length → ((held (ownF ss) (o.take i).reverse).length : Int) = sumO (ownF ss) (o.take i)
  | 0, _ => by rw [List.take_zero]; rfl
  | i + 1, hi => by
    have ih := held_sum h i (by omega)
    have hx : o[i]? = some o[i] := List.getElem?_eq_getElem hi
    have := h.cnt hx
    unfold cnts' at this
    rw [this, ih, take_snoc hx, sumO_snoc]
theorem held_mem' {own : Int → List Int} : ∀ {R : List Int} {y : Int}, y ∈ held own R → ∀ z ∈ R, y ∈ own z → Val own R → False
  | [], _, h, _, _, _, _ => (List.not_mem_nil h).elim
  | x :: r, y, h, z, hz, hy, v => by
    rw [held] at h
    rcases List.mem_cons.mp h with e | h
    · rcases List.mem_cons.mp hz with ez | hz
      · rw [ez, e] at hy
        exact v.1 (v.2.1 x hy)
      · -- y = x, x ∈ own z, z ∈ r: then x ∈ r
        have key : ∀ (l : List Int), Val own l → z ∈ l → ∀ w ∈ own z, w ∈ l := fun l => by
          induction l with
          | nil => intro _ h; exact (List.not_mem_nil h).elim
          | cons u l ih =>
            intro v h w hw
            rcases List.mem_cons.mp h with rfl | h
            · exact List.mem_cons_of_mem _ (v.2.1 w hw)
            · exact List.mem_cons_of_mem _ (ih v.2.2 h w hw)
        exact v.1 (by rw [← e]; exact key r v.2.2 hz y hy)
    · obtain ⟨h1, h2⟩ := List.mem_filter.mp h
      rcases List.mem_cons.mp hz with ez | hz
      · rw [ez] at hy; simp [hy] at h2
      · exact held_mem' h1 z hz hy v.2.2
theorem perm_split {l o : List Int} (nl : l.Nodup) (no : o.Nodup) (s : ∀ y ∈ o, y ∈ l) : (o ++ l.filter (fun y => !decide (y ∈ o))).Perm l := by
  refine (List.perm_ext_iff_of_nodup ?_ nl).mpr fun a => ?_
  · refine List.nodup_append.mpr ⟨no, nl.filter _, fun a ha b hb e => ?_⟩
    subst e
    have := (List.mem_filter.mp hb).2
    simp [ha] at this
  · rw [List.mem_append, List.mem_filter]
    constructor
    · rintro (h | h)
      · exact s a h
      · exact h.1
    · intro h
      by_cases c : a ∈ o
      · exact .inl c
      · exact .inr ⟨h, by simp [c]⟩
theorem map_upd {f : Int → Int} {x t : Int} : ∀ {l : List Int}, x ∉ l → l.map (fun y => if y = x then t else f y) = l.map f
  | [], _ => rfl
  | a :: l, h => by
    rw [List.map_cons, List.map_cons, map_upd (fun z => h (List.mem_cons_of_mem _ z)), if_neg (fun z => h (by rw [z]; exact List.mem_cons_self))]
structure SimOk (ss : List SetE) (many : Nat) (o : List Int) (i : Nat) : Prop where
  len : ((sim ss many (o.take i)).free.length : Int) = many - ((held (ownF ss) (o.take i).reverse).length : Int)
  nd : ((sim ss many (o.take i)).free ++ (held (ownF ss) (o.take i).reverse).map (sim ss many (o.take i)).inn).Nodup
theorem own_held {ss : List SetE} {o : List Int} (h : Full (ownF ss) (nOf ss) o) {i : Nat} {x : Int} (hx : o[i]? = some x) : ∀ y ∈ ownF ss x, y ∈ held (ownF ss) (o.take i).reverse := fun y hy => by
  have v := h.suf (i + 1)
  rw [rev_snoc hx] at v
  have k := ownF_ok ss
  have bx := (h.mem x).mp (List.mem_of_getElem? hx)
  refine held_mem (v.2.1 y hy) fun z hz hyz => ?_
  have bz := (h.mem z).mp (List.mem_of_mem_take (List.mem_reverse.mp hz))
  have := k.once x z y bx.1 bx.2 bz.1 bz.2 hy hyz
  exact v.1 (by rw [this]; exact hz)
theorem simOk {ss : List SetE} {many : Nat} {o : List Int} (h : Full (ownF ss) (nOf ss) o) (up : ∀ k, sumO (ownF ss) (o.take k) ≤ many) : ∀ i, i ≤ o.length → SimOk ss many o i
  | 0, _ => by
    have e0 : held (ownF ss) (o.take 0).reverse = [] := by rw [List.take_zero]; rfl
    have e1 : (sim ss many (o.take 0)).free = rangeI many := by rw [List.take_zero]; rfl
    refine ⟨by rw [e0, e1]; simp [rangeI], ?_⟩
    rw [e0, e1, List.map_nil, List.append_nil]
    exact List.pairwise_map.mpr (List.nodup_range.imp fun h z => h (by omega))
  | i + 1, hi => by
    obtain ⟨l, n⟩ := simOk h up i (by omega)
    have hx : o[i]? = some o[i] := List.getElem?_eq_getElem hi
    generalize hxe : o[i] = x at hx
    have v := h.suf (i + 1)
    have u1 := up (i + 1)
    rw [← held_sum h (i + 1) hi] at u1
    rw [rev_snoc hx] at v u1
    have oh := own_held h hx
    have bx := (h.mem x).mp (List.mem_of_getElem? hx)
    have own := ownF_ok ss
    have hc := held_cnt own v fun y hy => by
      refine (h.mem y).mp ?_
      rcases List.mem_cons.mp hy with rfl | hy
      · exact List.mem_of_getElem? hx
      · exact List.mem_of_mem_take (List.mem_reverse.mp hy)
    have hn := held_nodup v.2.2
    have pm := perm_split hn (own.nd x bx.1 bx.2) oh
    have ist := sim_take (ss := ss) (many := many) hx
    generalize hst : sim ss many (o.take i) = st at l n ist
    generalize hU : held (ownF ss) (o.take i).reverse = U at l n hc hn pm oh
    have hU' : held (ownF ss) (o.take (i + 1)).reverse = x :: U.filter (fun y => !decide (y ∈ ownF ss x)) := by rw [rev_snoc hx, held, hU]
    have fl : 1 ≤ (st.free ++ (ownF ss x).map st.inn).length := by rw [List.length_append, List.length_map]; omega
    obtain ⟨to, fr, hf⟩ : ∃ to fr, st.free ++ (ownF ss x).map st.inn = to :: fr := by
      cases hq : st.free ++ (ownF ss x).map st.inn with
      | nil => rw [hq] at fl; simp at fl
      | cons a b => exact ⟨a, b, rfl⟩
    have e1 : (sim ss many (o.take (i + 1))).free = fr := by rw [ist, simStep, hf]; rfl
    have e2 : (sim ss many (o.take (i + 1))).inn = fun y => if y = x then to else st.inn y := by rw [ist, simStep, hf]; rfl
    have xU : x ∉ U := fun z => v.1 (by rw [← hU] at z; exact held_sub z)
    refine ⟨?_, ?_⟩
    · have := congrArg List.length hf
      rw [List.length_append, List.length_map, List.length_cons] at this
      rw [e1, rev_snoc hx]
      omega
    · rw [e1, e2, hU', List.map_cons, if_pos rfl, map_upd (fun z => xU (List.mem_filter.mp z).1)]
      have p1 : (st.free ++ U.map st.inn).Perm ((st.free ++ (ownF ss x).map st.inn) ++ (U.filter (fun y => !decide (y ∈ ownF ss x))).map st.inn) := by
        rw [List.append_assoc, ← List.map_append]
        exact (pm.symm.map st.inn).append_left _
      rw [hf] at p1
      have n2 := p1.nodup_iff.mp n
      have p2 : (to :: fr ++ (U.filter (fun y => !decide (y ∈ ownF ss x))).map st.inn).Perm (fr ++ to :: (U.filter (fun y => !decide (y ∈ ownF ss x))).map st.inn) := by
        rw [List.cons_append]
        exact List.perm_middle.symm
      exact p2.nodup_iff.mp n2
/-- the step of the row -/
theorem sim_next {ss : List SetE} {many : Nat} {o : List Int} (h : Full (ownF ss) (nOf ss) o) (up : ∀ k, sumO (ownF ss) (o.take k) ≤ many) {i : Nat} {x : Int} (hx : o[i]? = some x) :
    ∃ to fr, (sim ss many (o.take i)).free ++ (ownF ss x).map (sim ss many (o.take i)).inn = to :: fr ∧ (sim ss many (o.take (i + 1))).free = fr ∧ (sim ss many (o.take (i + 1))).inn = (fun y => if y = x then to else (sim ss many (o.take i)).inn y) ∧
      (sim ss many (o.take (i + 1))).sts = (sim ss many (o.take i)).sts ++ [stepD to (sim ss many (o.take i)).inn (rowF ss x)] ∧ (∀ y ∈ held (ownF ss) (o.take (i + 1)).reverse, y ≠ x → y ∈ held (ownF ss) (o.take i).reverse ∧ (sim ss many (o.take i)).inn y ≠ to) ∧ x ∉ o.take i := by
  have hi := (List.getElem?_eq_some_iff.mp hx).1
  obtain ⟨l, n⟩ := simOk h up i (by omega)
  obtain ⟨l2, n2⟩ := simOk h up (i + 1) hi
  have ist := sim_take (ss := ss) (many := many) hx
  have v := h.suf (i + 1)
  rw [rev_snoc hx] at v
  have u1 := up (i + 1)
  rw [← held_sum h (i + 1) hi] at u1
  have own := ownF_ok ss
  have hc := held_cnt own v fun y hy => by
    refine (h.mem y).mp ?_
    rcases List.mem_cons.mp hy with rfl | hy
    · exact List.mem_of_getElem? hx
    · exact List.mem_of_mem_take (List.mem_reverse.mp hy)
  rw [rev_snoc hx] at u1
  generalize sim ss many (o.take i) = st at l n ist ⊢
  have fl : 1 ≤ (st.free ++ (ownF ss x).map st.inn).length := by rw [List.length_append, List.length_map]; omega
  obtain ⟨to, fr, hf⟩ : ∃ to fr, st.free ++ (ownF ss x).map st.inn = to :: fr := by
    cases hq : st.free ++ (ownF ss x).map st.inn with
    | nil => rw [hq] at fl; simp at fl
    | cons a b => exact ⟨a, b, rfl⟩
  refine ⟨to, fr, hf, by rw [ist, simStep, hf]; rfl, by rw [ist, simStep, hf]; rfl, by rw [ist, simStep, hf]; rfl, fun y hy ne => ?_, fun z => v.1 (List.mem_reverse.mpr z)⟩
  have e2 : (sim ss many (o.take (i + 1))).inn = fun y => if y = x then to else st.inn y := by rw [ist, simStep, hf]; rfl
  have nd2 := (List.nodup_append.mp n2).2.1
  rw [e2, rev_snoc hx, held, List.map_cons, if_pos rfl] at nd2
  rw [rev_snoc hx, held] at hy
  rcases List.mem_cons.mp hy with e | hy
  · exact (ne e).elim
  · refine ⟨(List.mem_filter.mp hy).1, fun z => (List.nodup_cons.mp nd2).1 ?_⟩
    rw [← z]
    exact List.mem_map.mpr ⟨y, hy, if_neg ne⟩
/-- in the end all roots are held -/
theorem root_held {ss : List SetE} {o : List Int} (h : Full (ownF ss) (nOf ss) o) {p : Exp × Int} (hp : p ∈ offs (restsL ss) 0) (hc : 0 < p.1.cnt) : p.2 + p.1.cnt - 1 ∈ held (ownF ss) o.reverse := by
  have ge := offs_ge hp
  refine held_mem (List.mem_reverse.mpr ((h.mem _).mpr ⟨by omega, by unfold nOf; omega⟩)) fun z hz hy => ?_
  have bz := (h.mem z).mp (List.mem_reverse.mp hz)
  obtain ⟨q, hq, q1, q2⟩ := offs_in (es := restsL ss) (b := 0) bz.1 (by have := bz.2; unfold nOf at this; omega)
  have s := own_sub q.1 q.2 (ownF_tr ss q hq) z q1 q2 _ hy
  by_cases e : p = q
  · subst e; omega
  · rcases apart_of offs_apart hp hq e with w | w <;> omega
/-! one sorted list -/
theorem lexI_eq : ∀ {x y : List Int}, lexI x y = false → lexI y x = false → x = y
  | [], [], _, _ => rfl
  | [], _ :: _, h, _ => by cases h
  | _ :: _, [], _, h => by cases h
  | a :: l, b :: m, h1, h2 => by
    unfold lexI at h1 h2
    by_cases e : a = b
    · subst e
      rw [if_pos rfl] at h1 h2
      rw [lexI_eq h1 h2]
    · rw [if_neg e, decide_eq_false_iff_not] at h1
      rw [if_neg (fun z => e z.symm), decide_eq_false_iff_not] at h2
      omega
theorem sorted_uniq {α : Type} {R : α → α → Prop} : ∀ {l m : List α}, l.Perm m → l.Pairwise R → m.Pairwise R → (∀ a ∈ l, ∀ b ∈ l, R a b → R b a → a = b) → l = m
  | [], m, p, _, _, _ => p.nil_eq
  | a :: l, [], p, _, _, _ => by have := p.length_eq; simp at this
  | a :: l, b :: m, p, h1, h2, an => by
    obtain ⟨a1, a2⟩ := List.pairwise_cons.mp h1
    obtain ⟨b1, b2⟩ := List.pairwise_cons.mp h2
    have e : a = b := by
      have ha : a ∈ b :: m := p.mem_iff.mp List.mem_cons_self
      have hb : b ∈ a :: l := p.mem_iff.mpr List.mem_cons_self
      rcases List.mem_cons.mp ha with e | ha
      · exact e
      · rcases List.mem_cons.mp hb with e | hb
        · exact e.symm
        · exact an a List.mem_cons_self b (List.mem_cons_of_mem _ hb) (a1 b hb) (b1 a ha)
    subst e
    rw [sorted_uniq (List.perm_cons _ |>.mp p) a2 b2 fun x hx y hy => an x (List.mem_cons_of_mem _ hx) y (List.mem_cons_of_mem _ hy)]
theorem Srt.uniq {ss : List SetE} {L M : List ((Exp × Int) × Nat)} (h : Srt ss L) (g : Srt ss M) : L = M := by
  refine sorted_uniq (h.perm.trans g.perm.symm) h.pw g.pw fun a ha b hb h1 h2 => ?_
  have e := lexI_eq h1 h2
  unfold entI at e
  simp only [List.cons.injEq] at e
  have i : a.2 = b.2 := by omega
  have ma := List.mem_zipIdx_iff_getElem?.mp (h.perm.mem_iff.mp ha)
  have mb := List.mem_zipIdx_iff_getElem?.mp (h.perm.mem_iff.mp hb)
  rw [i, mb] at ma
  have := Option.some.inj ma
  exact Prod.ext this.symm i

end J
namespace J
open PySem PySem.Spec PyProof.Rows L2
local macro_rules | `(tactic| walk_at "cls") => `(tactic| first
  | with_reducible exact Facts.cl_Step
  | with_reducible exact Facts.cl_Get
  | with_reducible exact Facts.cl_Ask
  | with_reducible exact Facts.cl_Cell
  | with_reducible exact Facts.cl_Two
  | with_reducible exact Facts.cl_Put
  | with_reducible exact Facts.cl_Tell
  | with_reducible exact Facts.cl_Store
  | with_reducible exact Facts.cl_Parts
  | with_reducible exact Facts.cl_Order)
local macro_rules | `(tactic| walk_at "na") => `(tactic| first
  | with_reducible exact Facts.na_Get_to
  | with_reducible exact Facts.na_Get_sel
  | with_reducible exact Facts.na_Ask_to
  | with_reducible exact Facts.na_Ask_sel
  | with_reducible exact Facts.na_Cell_to
  | with_reducible exact Facts.na_Cell_source
  | with_reducible exact Facts.na_Two_to
  | with_reducible exact Facts.na_Two_op
  | with_reducible exact Facts.na_Two_one
  | with_reducible exact Facts.na_Two_other
  | with_reducible exact Facts.na_Put_sel
  | with_reducible exact Facts.na_Put_source
  | with_reducible exact Facts.na_Tell_sel
  | with_reducible exact Facts.na_Tell_source
  | with_reducible exact Facts.na_Store_at
  | with_reducible exact Facts.na_Store_source
  | with_reducible exact Facts.na_Parts_rows
  | with_reducible exact Facts.na_Order_parts
  | with_reducible exact Facts.na_Order_order
  | with_reducible exact Facts.na_Order_needed)
local macro_rules | `(tactic| walk_at "ty") => `(tactic| first
  | with_reducible exact ty_int
  | with_reducible exact ty_bl
  | with_reducible exact ty_str
  | with_reducible exact ty_non
  | ((with_reducible refine' ty_lst ?vv); (case vv => walk_at "tr"))
  | ((with_reducible refine' ty_sqT ?vv); (case vv => walk_at "tr"))
  | ((with_reducible refine' ty_dic ?vv); (case vv => walk_at "tr")))
local macro_rules | `(tactic| walk_at "ix") => `(tactic| first | exact at0 | exact at1 | exact at2 | assumption)
local macro_rules | `(tactic| walk_at "size") => `(tactic| first
  | assumption
  | (show _ < sizeLine; rw [sizeLine_eq]; (try simp only [List.length_cons, List.length_nil, List.length_append, List.length_map]); omega)
  | (show _ ≤ sizeLine; rw [sizeLine_eq]; (try simp only [List.length_cons, List.length_nil, List.length_append, List.length_map]); omega))
local macro_rules | `(tactic| walk_at "side") => `(tactic| first
  | assumption
  | ((with_reducible refine cdw ?_ ?_) <;> omega)
  | omega
  | (exact ⟨by omega, by omega⟩)
  | (exact Or.inl ⟨by omega, by omega⟩)
  | (exact Or.inr ⟨by omega, by omega⟩)
  | decide
  | (simp only [List.length_cons, List.length_nil, List.length_append, List.length_map]; omega)
  | (show _ ≤ _; decide))
local macro_rules | `(tactic| walk_at "as") => `(tactic| with_reducible assumption)
local macro_rules | `(tactic| walk_at "tr") => `(tactic| first
  | with_reducible assumption
  | with_reducible exact upd_same
  | ((with_reducible refine' SqL.of ?hh); (case hh => walk_at "as"))
  | ((with_reducible refine' SqT.of ?hh); (case hh => walk_at "as"))
  | ((with_reducible refine' Same.stm ?ee ?gg); (case ee => walk_at "as"); (case gg => walk_at "tr"))
  | ((with_reducible refine' Same.sqT ?ee ?gg); (case ee => walk_at "as"); (case gg => walk_at "tr"))
  | ((with_reducible refine' Same.sqL ?ee ?gg); (case ee => walk_at "as"); (case gg => walk_at "tr"))
  | ((with_reducible refine' Same.at ?ee ?gg); (case ee => walk_at "as"); (case gg => walk_at "tr"))
  | ((with_reducible refine' But.stm ?ee ?ff ?gg); (case ee => walk_at "as"); (case ff => walk_at "ne"); (case gg => walk_at "tr"))
  | ((with_reducible refine' But.tup ?ee ?ff ?gg); (case ee => walk_at "as"); (case ff => walk_at "tr1"); (case gg => walk_at "tr"))
  | ((with_reducible refine' But.sqT ?ee ?ff ?gg); (case ee => walk_at "as"); (case ff => walk_at "tr1"); (case gg => walk_at "tr"))
  | ((with_reducible refine' But.tupL ?ee ?ff ?gg); (case ee => walk_at "as"); (case ff => walk_at "tr1"); (case gg => walk_at "tr"))
  | ((with_reducible refine' But.sqTL ?ee ?ff ?gg); (case ee => walk_at "as"); (case ff => walk_at "tr1"); (case gg => walk_at "tr"))
  | ((with_reducible refine' But.sqL ?ee ?ff ?gg); (case ee => walk_at "as"); (case ff => walk_at "ne"); (case gg => walk_at "tr"))
  | ((with_reducible refine' But.at ?ee ?ff ?gg); (case ee => walk_at "as"); (case ff => walk_at "ne"); (case gg => walk_at "tr")))
local macro_rules | `(tactic| walk_at "ts") => `(tactic| first
  | with_reducible assumption
  | with_reducible exact TS.refl _
  | ((with_reducible refine' TS.trans ?gg (TS.of ?ee)); (case ee => walk_at "as"); (case gg => walk_at "ts"))
  | ((with_reducible refine' TS.trans ?gg (TS.butS ?ee ?ff)); (case ee => walk_at "as"); (case ff => walk_at "tr1"); (case gg => walk_at "ts"))
  | ((with_reducible refine' TS.trans ?gg (TS.butL ?ee ?ff)); (case ee => walk_at "as"); (case ff => walk_at "tr1"); (case gg => walk_at "ts"))
  | ((with_reducible refine' TS.trans ?gg (TS.butI ?ee ?ff)); (case ee => walk_at "as"); (case ff => walk_at "tr1"); (case gg => walk_at "ts")))
local macro_rules | `(tactic| walk_at "sm") => `(tactic| first
  | with_reducible assumption
  | with_reducible exact Same.refl _
  | ((with_reducible refine' Same.trans ?gg ?ee); (case ee => walk_at "as"); (case gg => walk_at "sm"))
  | ((with_reducible refine' But.new ?gg ?nn ?ee); (case ee => walk_at "as"); (case nn => walk_at "fr"); (case gg => walk_at "sm")))
local macro_rules | `(tactic| walk_at "fr") => `(tactic| first
  | with_reducible assumption
  | ((with_reducible refine' Same.back ?ee ?nn); (case nn => walk_at "as"); (case ee => walk_at "sm"))
  | ((with_reducible refine' But.back ?ee ?ff ?nn); (case nn => walk_at "as"); (case ff => walk_at "ne0"); (case ee => walk_at "bu")))
local macro_rules | `(tactic| walk_at "bu") => `(tactic| first
  | with_reducible assumption
  | with_reducible exact But.refl _ _
  | ((with_reducible refine' But.trans ?gg ?ee); (case ee => walk_at "as"); (case gg => walk_at "bu"))
  | ((with_reducible refine' But.trans ?gg (But.of ?ee)); (case ee => walk_at "as"); (case gg => walk_at "bu"))
  | ((with_reducible refine' But.new2 ?gg ?nn ?ee); (case ee => walk_at "as"); (case nn => walk_at "frB"); (case gg => walk_at "bu")))
local macro_rules | `(tactic| walk_at "frB") => `(tactic| first
  | with_reducible assumption
  | ((with_reducible refine' Same.back ?ee ?nn); (case nn => walk_at "as"); (case ee => walk_at "sm"))
  | ((with_reducible refine' But.back' ?ee ?ff ?nn); (case nn => walk_at "as"); (case ee => walk_at "bu"); (case ff => walk_at "tr1")))
local macro_rules | `(tactic| walk_at "tr1") => `(tactic| first
  | with_reducible assumption
  | ((with_reducible refine' Same.stm ?ee ?gg); (case ee => walk_at "as"); (case gg => walk_at "tr1"))
  | ((with_reducible refine' Same.at ?ee ?gg); (case ee => walk_at "as"); (case gg => walk_at "tr1"))
  | ((with_reducible refine' But.at ?ee ?ff ?gg); (case ee => walk_at "as"); (case ff => walk_at "ne0"); (case gg => walk_at "tr1"))
  | ((with_reducible refine' But.stm ?ee ?ff ?gg); (case ee => walk_at "as"); (case ff => walk_at "ne0"); (case gg => walk_at "tr1")))
local macro_rules | `(tactic| walk_at "ne0") => `(tactic| first
  | with_reducible assumption
  | (with_reducible apply Ne.symm; with_reducible assumption))
local macro_rules | `(tactic| walk_at "ne") => `(tactic| first
  | with_reducible assumption
  | (with_reducible apply Ne.symm; with_reducible assumption)
  | ((with_reducible refine' stm_ne ?hh ?nn); (case nn => walk_at "as"); (case hh => walk_at "tr1"))
  | ((with_reducible refine' ne_of_none ?hh ?nn); (case nn => walk_at "as"); (case hh => walk_at "tr1"))
  | ((with_reducible apply Ne.symm); (with_reducible refine' ne_of_none ?hh ?nn); (case nn => walk_at "as"); (case hh => walk_at "tr1")))
local macro_rules | `(tactic| walk_at "v") => `(tactic| first
  | with_reducible refine w_seq ?_
  | ((with_reducible refine' w_var ?vv ?_); (case vv => exact rfl))
  | with_reducible refine w_c ?_
  | with_reducible refine w_op ?_
  | with_reducible refine w_asg ?_
  | with_reducible refine w_gName ?_
  | with_reducible refine w_ret ?_
  | with_reducible refine w_ifS ?_
  | with_reducible refine w_drop ?_
  | with_reducible refine w_next ?_
  | with_reducible refine w_cons ?_
  | with_reducible refine w_nil ?_
  | with_reducible refine w_call ?_
  | with_reducible refine w_cb ?_
  | with_reducible refine w_rI0 ?_
  | with_reducible refine w_addI ?_
  | with_reducible refine w_eqI ?_
  | with_reducible refine w_neI ?_
  | with_reducible refine w_eqS ?_
  | with_reducible refine w_neS ?_
  | with_reducible refine w_eqB ?_
  | with_reducible refine w_neB ?_
  | with_reducible refine w_chain ?_
  | with_reducible refine w_test ?_
  | with_reducible refine w_tB ?_
  | with_reducible refine w_bl ?_
  | ((with_reducible refine' w_mulI ?vv ?_); (case vv => walk_at "side"))
  | ((with_reducible refine' w_rI ?vv ?_); (case vv => walk_at "side"))
  | with_reducible refine w_int1 ?_
  | with_reducible refine w_int1b ?_
  | with_reducible refine w_tup ?_
  | with_reducible refine w_lst ?_
  | with_reducible refine w_un ?_
  | with_reducible refine w_rU ?_
  | with_reducible refine w_not ?_
  | with_reducible refine w_notV ?_
  | with_reducible refine w_ifE ?_
  | with_reducible refine w_nT ?_
  | with_reducible refine w_nF ?_
  | with_reducible refine iteT ?_
  | with_reducible refine iteF ?_
  | ((with_reducible refine' w_ixT ?vv ?ww ?_); (case vv => walk_at "tr"); (case ww => walk_at "ix"))
  | ((with_reducible refine' w_ixL ?vv ?ww ?_); (case vv => walk_at "tr"); (case ww => walk_at "ix"))
  | with_reducible refine w_gSub ?_
  | ((with_reducible refine' w_setL ?vv ?ww ?_); (case vv => walk_at "tr"); (case ww => first | rfl | decide | assumption))
  | ((with_reducible refine' w_lenL ?vv ?_); (case vv => walk_at "tr"))
  | ((with_reducible refine' w_lenT ?vv ?_); (case vv => walk_at "tr"))
  | with_reducible refine w_max2 ?_
  | with_reducible refine w_max3 ?_
  | with_reducible refine w_din ?_
  | with_reducible refine w_dnotin ?_
  | with_reducible refine w_dput ?_
  | with_reducible refine w_min2 ?_
  | with_reducible refine w_bm ?_
  | with_reducible refine w_bm0 ?_
  | ((with_reducible refine' w_tyL ?vv ?_); (case vv => walk_at "tr"))
  | ((with_reducible refine' w_append ?vv ?ww ?_); (case vv => walk_at "tr"); (case ww => walk_at "size"))
  | ((with_reducible refine' w_size ?vv ?_); (case vv => walk_at "size"))
  | with_reducible refine w_forL ?_
  | with_reducible refine w_forT ?_
  | with_reducible refine w_forR1 ?_
  | with_reducible refine w_forR2 ?_
  | with_reducible refine w_lcL ?_
  | with_reducible refine w_lcT ?_
  | with_reducible refine w_lcR1 ?_
  | with_reducible refine w_yes ?_
  | with_reducible refine w_sl ?_
  | with_reducible refine w_noPart ?_
  | with_reducible refine w_part ?_
  | with_reducible refine w_int ?_
  | ((with_reducible refine' w_slL ?vv ?_); (case vv => walk_at "tr"))
  | ((with_reducible refine' w_seqL ?vv ?ww ?_); (case vv => walk_at "tr"); (case ww => rfl))
  | ((with_reducible refine' w_seqT ?vv ?ww ?_); (case vv => walk_at "tr"); (case ww => rfl))
  | with_reducible refine w_gNil ?_
  | with_reducible refine w_gCons ?_
  | with_reducible refine w_forZ ?_
  | with_reducible refine w_forM ?_
  | with_reducible refine w_forE ?_
  | with_reducible refine w_forV ?_
  | with_reducible refine w_lcZ ?_
  | with_reducible refine w_lcE ?_
  | ((with_reducible refine' w_isi (b := true) ?vv ?ww ?_); (case vv => walk_at "ty"); (case ww => decide +kernel))
  | ((with_reducible refine' w_isi (b := false) ?vv ?ww ?_); (case vv => walk_at "ty"); (case ww => decide +kernel))
  | with_reducible refine w_revL ?_
  | with_reducible refine w_pairN ?_
  | with_reducible refine w_pairC ?_
  | with_reducible refine w_dget ?_
  | with_reducible refine w_met ?_
  | ((with_reducible refine' w_metAt ?vv ?ww ?_); (case vv => walk_at "tr"); (case ww => rfl))
  | with_reducible refine w_mkI ?_
  | with_reducible refine w_fld ?_
  | ((with_reducible refine' w_fldAt ?vv ?cc ?nn ?ww ?_); (case vv => walk_at "tr"); (case cc => walk_at "cls"); (case nn => walk_at "na"); (case ww => rfl))
  | with_reducible refine w_sfld ?_
  | ((with_reducible refine' w_sfldAt ?vv ?cc ?nn ?ll ?ee ?_); (case vv => walk_at "tr"); (case cc => walk_at "cls"); (case nn => walk_at "na"); (case ll => simp); (case ee => rfl))
  | ((with_reducible refine' w_tupL ?vv ?_); (case vv => walk_at "tr"))
  | ((with_reducible refine' w_tupT ?vv ?_); (case vv => walk_at "tr"))
  | ((with_reducible refine' w_listL ?vv ?_); (case vv => walk_at "tr"))
  | ((with_reducible refine' w_listT ?vv ?_); (case vv => walk_at "tr"))
  | with_reducible refine w_tyS ?_
  | with_reducible refine w_retN ?_
  | with_reducible refine w_break ?_
  | with_reducible refine w_cont ?_)
local macro_rules | `(tactic| walk_at "w") => `(tactic| first
  | walk_at "v"
  | with_reducible refine w_or ?_
  | with_reducible refine w_and ?_
  | with_reducible refine w_andV ?_
  | with_reducible refine w_orV ?_)
local macro_rules | `(tactic| walk_at "wd") => `(tactic| first
  | walk_at "w"
  | ((with_reducible refine' w_decT ?vv ?_); (case vv => decide +kernel))
  | ((with_reducible refine' w_decF ?vv ?_); (case vv => decide +kernel)))
local macro_rules | `(tactic| walk_at "tz") => `(tactic| (intro S z; (repeat walk_at "w"); exact z))
local macro_rules | `(tactic| walk_at "wf") => `(tactic| first
  | walk_at "wd"
  | ((with_reducible refine' w_decF ?vv ?_); (case vv => with_reducible assumption)))
theorem parts_src : ∀ (es : List Exp) (ps : List PyData), ∀ x ∈ (parts es ps).1, IsSrc x
  | [], _, _, h => (List.not_mem_nil h).elim
  | e :: es, ps, x, h => by
    rcases List.mem_cons.mp h with rfl | h
    · exact part_src e ps
    · exact parts_src es _ x h
theorem parts_len1 : ∀ (es : List Exp) (ps : List PyData), (parts es ps).1.length = es.length
  | [], _ => rfl
  | e :: es, ps => by rw [parts, List.length_cons, List.length_cons, parts_len1 es]
theorem parts_ints : ∀ (es : List Exp) (ps : List PyData) {j : Int}, j ∈ intsD (parts es ps).1 → ∃ p ∈ offs es ps.length, 0 < p.1.cnt ∧ j = p.2 + p.1.cnt - 1
  | [], _, _, h => (List.not_mem_nil h).elim
  | e :: es, ps, j, h => by
    have e0 : intsD (parts (e :: es) ps).1 = intsD [(e.part ps).1] ++ intsD (parts es (e.part ps).2).1 := by
      rw [parts]; unfold intsD; rw [← List.filterMap_append]; rfl
    rw [e0, (part_own e ps).2] at h
    rcases List.mem_append.mp h with g | g
    · have := rt_mem g
      exact ⟨(e, ps.length), List.mem_cons_self, this.1, this.2⟩
    · obtain ⟨p, hp, a, b⟩ := parts_ints es (e.part ps).2 g
      refine ⟨p, List.mem_cons_of_mem _ ?_, a, b⟩
      rw [e.part_len] at hp
      have e1 : ((ps.length + e.cnt : Nat) : Int) = (ps.length : Int) + e.cnt := by omega
      rw [← e1]; exact hp
theorem offs_mid {ss : List SetE} {i : Nat} {s : SetE} (h : ss[i]? = some s) {p : Exp × Int} (hp : p ∈ offs s.rests (cnts (restsL (ss.take i)) : Nat)) : p ∈ offs (restsL ss) 0 := by
  have e1 : ss = ss.take i ++ s :: ss.drop (i + 1) := by
    obtain ⟨hi, rfl⟩ := List.getElem?_eq_some_iff.mp h
    rw [List.getElem_cons_drop, List.take_append_drop]
  have e2 : restsL ss = restsL (ss.take i) ++ (s.rests ++ restsL (ss.drop (i + 1))) := by
    conv => lhs; rw [e1]
    unfold restsL; rw [List.flatMap_append, List.flatMap_cons]
  rw [e2, offs_app, offs_app]
  refine List.mem_append_right _ (List.mem_append_left _ ?_)
  rw [Int.zero_add]; exact hp
/-- the roots of a set -/
theorem root_ints {ss : List SetE} {i : Nat} {s : SetE} (h : ss[i]? = some s) {j : Int} (hj : j ∈ intsD (parts s.rests (proots (ss.take i) []).2).1) : ∃ p ∈ offs (restsL ss) 0, 0 < p.1.cnt ∧ j = p.2 + p.1.cnt - 1 := by
  obtain ⟨p, hp, a, b⟩ := parts_ints _ _ hj
  rw [proots_cnt] at hp
  exact ⟨p, offs_mid h hp, a, b⟩
theorem rowF_at {ss : List SetE} {i : Nat} {d : PyData} (h : (proots ss []).2[i]? = some d) : rowF ss i = d := by
  unfold rowF
  rw [Int.toNat_natCast, List.getD_eq_getElem?_getD, h]; rfl
theorem PK.at2 {K : PySem.W.Frag} {H : Hp} {l : Addr} {ss : List SetE} {x : Int} (h : PK K H l ss) (h0 : 0 ≤ x) (h1 : x < nOf ss) : ∃ xs v, H l = some (.lst xs) ∧ atI xs x = some v ∧ Dp K H v (rowF ss x) ∧ PRow (rowF ss x) ∧ RowS (rowF ss x) ∧ ownD (rowF ss x) = ownF ss x := by
  obtain ⟨xs, hx, hd, hr⟩ := id h.pl
  have hl : xs.length = (proots ss []).2.length := h.pl.len hx
  rw [proots_cnt] at hl
  unfold nOf at h1
  obtain ⟨v, e1, _, e3⟩ := atI_some (xs := xs) h0 (by omega)
  obtain ⟨d, hd1, hd2⟩ := dpa_at' hd e3
  have e : rowF ss x = d := by have := rowF_at hd1; rw [Int.toNat_of_nonneg h0] at this; exact this
  rw [e]
  refine ⟨xs, v, hx, e1, hd2, proots_prow ss h.ok rows_nil (fun _ q => (List.not_mem_nil q).elim) d (List.mem_of_getElem? hd1), proots_rowS h.ok d (List.mem_of_getElem? hd1), ?_⟩
  have := ownF_at hd1
  rw [← this, Int.toNat_of_nonneg h0]
/-- a list of steps -/
def StpL (K : PySem.W.Frag) (H : Hp) : List V → List (List PyData) → Prop
  | [], [] => True
  | v :: vs, d :: ds => StpO K H v d ∧ StpL K H vs ds
  | _, _ => False
theorem StpL.it {K : PySem.W.Frag} {H H' : Hp} (e : IT H H') : ∀ {vs : List V} {ds : List (List PyData)}, StpL K H vs ds → StpL K H' vs ds
  | [], [], _ => trivial
  | _ :: _, _ :: _, h => ⟨h.1.it e, StpL.it e h.2⟩
  | [], _ :: _, h => h.elim
  | _ :: _, [], h => h.elim
theorem StpL.snoc {K : PySem.W.Frag} {H : Hp} {v : V} {d : List PyData} (g : StpO K H v d) : ∀ {vs : List V} {ds : List (List PyData)}, StpL K H vs ds → StpL K H (vs ++ [v]) (ds ++ [d])
  | [], [], _ => ⟨g, trivial⟩
  | _ :: _, _ :: _, h => ⟨h.1, StpL.snoc g h.2⟩
  | [], _ :: _, h => h.elim
  | _ :: _, [], h => h.elim
theorem StpL.len {K : PySem.W.Frag} {H : Hp} : ∀ {vs : List V} {ds : List (List PyData)}, StpL K H vs ds → vs.length = ds.length
  | [], [], _ => rfl
  | _ :: _, _ :: _, h => congrArg (· + 1) (StpL.len h.2)
  | [], _ :: _, h => h.elim
  | _ :: _, [], h => h.elim
theorem StpL.at {K : PySem.W.Frag} {H : Hp} : ∀ {vs : List V} {ds : List (List PyData)} {i : Nat} {v : V}, StpL K H vs ds → vs[i]? = some v → ∃ d, ds[i]? = some d ∧ StpO K H v d
  | [], [], _, _, _, h => by simp at h
  | _ :: _, [], _, _, h, _ => h.elim
  | [], _ :: _, _, _, h, _ => h.elim
  | v :: vs, w :: ws, 0, x, h, e => ⟨w, rfl, by cases Option.some.inj e; exact h.1⟩
  | v :: vs, w :: ws, i + 1, x, h, e => by
    obtain ⟨y, a, b⟩ := StpL.at (i := i) h.2 (by simpa using e)
    exact ⟨y, by simpa using a, b⟩
def spGiv (K : PySem.W.Frag) : Sp := fun vs H Q _ => ∃ v rv di kvs s xs inn n, vs = [v, rv, .ref di] ∧ Dp K H v (SetE.d s) ∧ OkS n s ∧ Dp K H rv (.tuple xs) ∧ xs.length = s.rests.length ∧ (∀ x ∈ xs, IsSrc x) ∧ H di = some (.dK kvs) ∧ Knows kvs inn (intsD xs) ∧ ∀ r H', StpO K H' r (givD inn s xs) → Same H H' → Q r H'
theorem len_step_giving {K : PySem.W.Frag} {vs H Q E} (h : spGiv K vs H Q E) : vs.length = 3 := by obtain ⟨_, _, _, _, _, _, _, _, rfl, _⟩ := h; rfl
def spLGiv (K : PySem.W.Frag) : Sp := fun vs H Q _ => ∃ v rv di kvs s xs inn n, vs = [v, rv, .ref di] ∧ Dp K H v (SetE.d s) ∧ OkS n s ∧ Dp K H rv (.tuple xs) ∧ xs.length = s.rests.length ∧ (∀ x ∈ xs, IsSrc x) ∧ H di = some (.dK kvs) ∧ Knows kvs inn (intsD xs) ∧ ∀ r H', Dp K H' r (.tuple (givD inn s xs)) → Same H H' → Q r H'
theorem len_law_giving {K : PySem.W.Frag} {vs H Q E} (h : spLGiv K vs H Q E) : vs.length = 3 := by obtain ⟨_, _, _, _, _, _, _, _, rfl, _⟩ := h; rfl
theorem srcs_tup {inn : Int → Int} : ∀ {xs : List PyData}, (∀ x ∈ xs, IsSrc x) → tupAll (xs.map (srcD inn)) = true
  | [], _ => rfl
  | x :: xs, h => by rw [List.map_cons, tupAll, srcD_tup (h x List.mem_cons_self), srcs_tup fun y hy => h y (List.mem_cons_of_mem _ hy)]; rfl
theorem src_tup : ∀ {xs : List PyData}, (∀ x ∈ xs, IsSrc x) → tupAll xs = true
  | [], _ => rfl
  | x :: xs, h => by rw [tupAll, (h x List.mem_cons_self).tup, src_tup fun y hy => h y (List.mem_cons_of_mem _ hy)]; rfl
section
variable {P : Program} {w : World} {K : PySem.W.Frag} {mg : Str → Option Value}
theorem ok_step_giving [c : Facts K mg] (G_as_source : Fn P w K mg "as_source" 1 ["inner", "one"] ((spAsSrc K))) (GM_Put___init__ : FnA P w K mg (He.ma K (He.ga K "Put") "__init__") 1 ["self", "sel", "source"] ((spMkF (He.ga K "Put") ["sel", "source"]))) (GM_Store___init__ : FnA P w K mg (He.ma K (He.ga K "Store") "__init__") 1 ["self", "at", "source"] ((spMkF (He.ga K "Store") ["at", "source"]))) (GM_Tell___init__ : FnA P w K mg (He.ma K (He.ga K "Tell") "__init__") 1 ["self", "sel", "source"] ((spMkF (He.ga K "Tell") ["sel", "source"]))) : Fn P w K mg "step_giving" 3 ["one", "root", "inner"] ((spGiv K)) := by
  obtain ⟨fd, F⟩ := c.d_step_giving
  refine Fn.mk' F c.g_step_giving sc_step_giving (k := 2) (fun vs H Q E h => ?_) (fun _ _ _ _ _ _ us hl => match us, hl with | [_, _, _], _ => rfl) (fun base cdv A outer s H vs Q E hr h => ?_)
  · exact len_step_giving h
  · have nd := sc_step_giving.nd
    have hu := hu_of hr
    have hr_as_source : Room 1 _ := hr.mono (by omega)
    have hrI_Put : Room (1 + 1) _ := hr.mono (by omega)
    have hrI_Store : Room (1 + 1) _ := hr.mono (by omega)
    have hrI_Tell : Room (1 + 1) _ := hr.mono (by omega)
    refine ⟨_, (pss_cons (ps_setLc (i := 3) (own := [("part", 4)]) rfl nd rfl rfl (sw_true rfl rfl rfl (by decide +kernel)) (pi_tup (pv 1)) (blkOk_by (N := N_step_giving) (sc := defScope s_step_giving) (by decide +kernel)) (fun _ _ _ _ _ => (pg_name (i := 4) nd rfl (Or.inl rfl))) (fun _ _ _ _ _ => pts_nil) (fun _ _ _ _ _ => (pe_fn G_as_source hr_as_source (by rfl) (pa_cons (pv 2) (pa_cons (pv 4) pa_nil)))))
      (pss_cons (ps_if (pt_cmpR (op_eqA (K := K) rfl hr.units) (pe_ix (ix_any (K := K) rfl) (pv 0) pe_int (fun _ _ => rfl)) pe_str (nomark _)) (pss_one (ps_ret (pe_mkI GM_Store___init__ rfl c.mk_Store c.gc_Store hrI_Store (by rfl) (pa_cons (pe_ix (ix_any (K := K) rfl) (pv 3) pe_int (fun _ _ => rfl)) (pa_cons (pe_ix (ix_any (K := K) rfl) (pv 3) pe_int (fun _ _ => rfl)) pa_nil))))) pss_nil)
      (pss_cons (ps_if (pt_cmpR (op_eqA (K := K) rfl hr.units) (pe_ix (ix_any (K := K) rfl) (pv 0) pe_int (fun _ _ => rfl)) pe_str (nomark _)) (pss_one (ps_ret (pe_mkI GM_Tell___init__ rfl c.mk_Tell c.gc_Tell hrI_Tell (by rfl) (pa_cons (pe_ix (ix_any (K := K) rfl) (pv 0) pe_int (fun _ _ => rfl)) (pa_cons (pe_ix (ix_any (K := K) rfl) (pv 3) pe_int (fun _ _ => rfl)) pa_nil))))) pss_nil)
      (pss_one (ps_ret (pe_mkI GM_Put___init__ rfl c.mk_Put c.gc_Put hrI_Put (by rfl) (pa_cons (pe_ix (ix_any (K := K) rfl) (pv 0) pe_int (fun _ _ => rfl)) (pa_cons (pe_ix (ix_any (K := K) rfl) (pv 3) pe_int (fun _ _ => rfl)) pa_nil)))))))), ?_⟩
    try dsimp only [cxOf, Cx.nox, Cx.wish]
    obtain ⟨v, rv, di, kvs, s, xs, inn, n, rfl, hv, os, hrv, hxl, hxs, hd, hk, q⟩ := h
    obtain ⟨rp, us, rfl, hrp, hus⟩ := dp_tup hrv
    have hul : us.length = xs.length := dpa_len hus
    have rl : s.rests.length ≤ 2 := by cases s <;> simp [SetE.rests]
    repeat walk_at "w"
    refine lc_T us (fun D i ys H' => Same H H' ∧ DpAll K H' ys ((xs.take i).map (srcD inn))) hrp (fun D H' hD e f => ⟨e, .nil⟩) (fun D hD i ys H' hi hy hp => hp.1.sqT hrp) (fun D hD i x ys H' hx hll hy hp => ?_) (fun D hD ys H' hll hy hp => ?_)
    · obtain ⟨e, hys⟩ := hp
      obtain ⟨d, hd1, hd2⟩ := dpa_at' (dpAll_ts (TS.of e) _ _ (src_tup hxs) hus) hx
      have hsd := hxs d (List.mem_of_getElem? hd1)
      have hil := (List.getElem?_eq_some_iff.mp hd1).1
      repeat walk_at "w"
      refine ⟨di, x, kvs, d, inn, rfl, e _ _ hd, hd2, hsd, fun j hj => hk j (List.mem_filterMap.mpr ⟨d, List.mem_of_getElem? hd1, by rw [hj]; rfl⟩), fun r H2 hr s2 => ?_⟩
      refine lc_end (s2 _ _ hy) hll (by rw [sizeLine_eq]; omega) fun H3 e3 f3 => ⟨But.new (e.trans s2) hD e3, ?_⟩
      have t3 : TS H2 H3 := TS.butL e3 (s2 _ _ hy)
      rw [take_snoc hd1, List.map_append]
      exact dpa_app (dpAll_ts ((TS.of s2).trans t3) _ _ (srcs_tup fun y hy => hxs y (List.mem_of_mem_take hy)) hys) (dpa_one (dp_ts t3 _ _ (srcD_tup hsd) hr))
    · obtain ⟨e, hys⟩ := hp
      rw [hul, List.take_length] at hys
      cases s with
      | cell a b =>
        obtain ⟨p, u, u2, rfl, hp, hu', hu2⟩ := exp_2 hv
        match xs, hxl, hxs, hys with
        | [x, y], _, hxs, hys =>
          obtain ⟨y1, r1, rfl, hy1, hr1⟩ := dpa_cons hys
          obtain ⟨y2, r2, rfl, hy2, hr2⟩ := dpa_cons hr1
          cases dpa_nil hr2
          have hp2 := e.sqT hp
          repeat walk_at "wf"
          refine w_newI fun o dx H1 n1 s1 f1 => ?_
          refine ⟨o, dx, [y1, y2], rfl, rfl, f1, fun H2 f2 e2 => ⟨rfl, ?_⟩⟩
          have s2 : Same H' H2 := But.new s1 n1 e2
          have ix := srcD_tup (inn := inn) (hxs x List.mem_cons_self)
          have iy := srcD_tup (inn := inn) (hxs y (List.mem_cons_of_mem _ List.mem_cons_self))
          exact q _ H2 ⟨o, dx, "Store", "store", _, [y1, y2], [srcD inn x, srcD inn y], by simp [kinds], rfl, f2, rfl, rfl, .cons (dp_ts (TS.of s2) _ _ ix hy1) (.cons (dp_ts (TS.of s2) _ _ iy hy2) .nil), by simp [tupAll, ix, iy]⟩ (e.trans s2)
      | sel m k j e1 =>
        obtain ⟨p, u, u2, rfl, hp, hu', hu2⟩ := exp_2 hv
        match xs, hxl, hxs, hys with
        | [x], _, hxs, hys =>
          obtain ⟨y1, r1, rfl, hy1, hr1⟩ := dpa_cons hys
          cases dpa_nil hr1
          have hp2 := e.sqT hp
          have ix := srcD_tup (inn := inn) (hxs x List.mem_cons_self)
          cases m with
          | true =>
            repeat walk_at "wd"
            refine w_newI fun o dx H1 n1 s1 f1 => ?_
            refine ⟨o, dx, [u, y1], rfl, rfl, f1, fun H2 f2 e2 => ⟨rfl, ?_⟩⟩
            have s2 : Same H' H2 := But.new s1 n1 e2
            exact q _ H2 ⟨o, dx, "Tell", "tell", _, [u, y1], [selD k j, srcD inn x], by simp [kinds], rfl, f2, rfl, rfl, .cons (dp_ts (TS.of (e.trans s2)) _ _ (tupD_sel _ _) hu') (.cons (dp_ts (TS.of s2) _ _ ix hy1) .nil), by simp [tupAll, ix, tupD_sel]⟩ (e.trans s2)
          | false =>
            repeat walk_at "wd"
            refine w_newI fun o dx H1 n1 s1 f1 => ?_
            refine ⟨o, dx, [u, y1], rfl, rfl, f1, fun H2 f2 e2 => ⟨rfl, ?_⟩⟩
            have s2 : Same H' H2 := But.new s1 n1 e2
            exact q _ H2 ⟨o, dx, "Put", "put", _, [u, y1], [selD k j, srcD inn x], by simp [kinds], rfl, f2, rfl, rfl, .cons (dp_ts (TS.of (e.trans s2)) _ _ (tupD_sel _ _) hu') (.cons (dp_ts (TS.of s2) _ _ ix hy1) .nil), by simp [tupAll, ix, tupD_sel]⟩ (e.trans s2)
theorem ok_law_giving [c : Facts K mg] (G__law_source : Fn P w K mg "_law_source" 1 ["one", "inner"] ((spLSrc K))) : Fn P w K mg "_law_giving" 2 ["one", "root", "inner"] ((spLGiv K)) := by
  obtain ⟨fd, F⟩ := c.d_law_giving
  refine Fn.mk' F c.g_law_giving sc_law_giving (k := 1) (fun vs H Q E h => ?_) (fun _ _ _ _ _ _ us hl => match us, hl with | [_, _, _], _ => rfl) (fun base cdv A outer s H vs Q E hr h => ?_)
  · exact len_law_giving h
  · have nd := sc_law_giving.nd
    have hu := hu_of hr
    have hr__law_source : Room 1 _ := hr.mono (by omega)
    refine ⟨_, (pss_cons (ps_if (pt_cmpR (op_eqA (K := K) rfl hr.units) (pe_ix (ix_any (K := K) rfl) (pv 0) pe_int (fun _ _ => rfl)) pe_str (nomark _)) (pss_one (ps_ret (pe_tup (pa_cons pe_str (pa_cons (pe_fn G__law_source hr__law_source (by rfl) (pa_cons (pe_ix (ix_any (K := K) rfl) (pv 1) pe_int (fun _ _ => rfl)) (pa_cons (pv 2) pa_nil))) (pa_cons (pe_fn G__law_source hr__law_source (by rfl) (pa_cons (pe_ix (ix_any (K := K) rfl) (pv 1) pe_int (fun _ _ => rfl)) (pa_cons (pv 2) pa_nil))) pa_nil)))))) pss_nil)
      (pss_one (ps_ret (pe_tup (pa_cons (pe_ix (ix_any (K := K) rfl) (pe_lst (pa_cons pe_str (pa_cons pe_str pa_nil))) (pe_callTy call_int1A (by rfl) c.f_int boot_int (pa_cons (pe_cmpR (op_eqA (K := K) rfl hr.units) (pe_ix (ix_any (K := K) rfl) (pv 0) pe_int (fun _ _ => rfl)) pe_str (nomark _)) pa_nil)) (fun _ _ => rfl)) (pa_cons (pe_ix (ix_any (K := K) rfl) (pv 0) pe_int (fun _ _ => rfl)) (pa_cons (pe_fn G__law_source hr__law_source (by rfl) (pa_cons (pe_ix (ix_any (K := K) rfl) (pv 1) pe_int (fun _ _ => rfl)) (pa_cons (pv 2) pa_nil))) pa_nil))))))), ?_⟩
    try dsimp only [cxOf, Cx.nox, Cx.wish]
    obtain ⟨v, rv, di, kvs, s, xs, inn, n, rfl, hv, os, hrv, hxl, hxs, hd, hk, q⟩ := h
    obtain ⟨rp, us, rfl, hrp, hus⟩ := dp_tup hrv
    cases s with
    | cell a b =>
      obtain ⟨p, u, u2, rfl, hp, hu', hu2⟩ := exp_2 hv
      match xs, hxl, hxs, hus, hk with
      | [x, y], _, hxs, hus, hk =>
        obtain ⟨y1, r1, rfl, hy1, hr1⟩ := dpa_cons hus
        obtain ⟨y2, r2, rfl, hy2, hr2⟩ := dpa_cons hr1
        cases dpa_nil hr2
        have ix := hxs x List.mem_cons_self
        have iy := hxs y (List.mem_cons_of_mem _ List.mem_cons_self)
        repeat walk_at "wf"
        refine ⟨di, y1, kvs, x, inn, rfl, hd, hy1, ix, fun j hj => hk j (List.mem_filterMap.mpr ⟨x, List.mem_cons_self, by rw [hj]; rfl⟩), fun r H2 hr s2 => ?_⟩
        have hrp2 := s2.sqT hrp
        repeat walk_at "w"
        refine ⟨di, y2, kvs, y, inn, rfl, s2 _ _ hd, dp_ts (TS.of s2) _ _ iy.tup hy2, iy, fun j hj => hk j (List.mem_filterMap.mpr ⟨y, List.mem_cons_of_mem _ List.mem_cons_self, by rw [hj]; rfl⟩), fun r3 H3 hr3 s3 => ?_⟩
        repeat walk_at "w"
        refine w_new fun t H4 n4 s4 f4 => ?_
        exact q _ H4 (.tup (SqT.of f4) (.cons (.str _) (.cons (dp_ts (TS.of (s3.trans s4)) _ _ (srcD_tup ix) hr) (.cons (dp_ts (TS.of s4) _ _ (srcD_tup iy) hr3) .nil)))) (s2.trans (s3.trans s4))
    | sel m k j e1 =>
      obtain ⟨p, u, u2, rfl, hp, hu', hu2⟩ := exp_2 hv
      match xs, hxl, hxs, hus, hk with
      | [x], _, hxs, hus, hk =>
        obtain ⟨y1, r1, rfl, hy1, hr1⟩ := dpa_cons hus
        cases dpa_nil hr1
        have ix := hxs x List.mem_cons_self
        have nc : (if m then ("mark" : Str) else "place") ≠ "cell" := by cases m <;> decide +kernel
        repeat walk_at "wf"
        refine w_new fun t0 H0 n0 s0 f0 => ?_
        have hp0 := s0.sqT hp
        have hrp0 := s0.sqT hrp
        repeat walk_at "w"
        refine kind_at (SqL.of f0) ?_
        repeat walk_at "w"
        refine ⟨di, y1, kvs, x, inn, rfl, s0 _ _ hd, dp_ts (TS.of s0) _ _ ix.tup hy1, ix, fun j hj => hk j (List.mem_filterMap.mpr ⟨x, List.mem_cons_self, by rw [hj]; rfl⟩), fun r H2 hr s2 => ?_⟩
        repeat walk_at "w"
        refine w_new fun t H4 n4 s4 f4 => ?_
        have ek : (if decide ((if m = true then ("mark" : Str) else "place") = "mark") = true then ("tell" : Str) else "put") = if m then ("tell" : Str) else "put" := by cases m <;> decide +kernel
        rw [ek] at f4
        exact q _ H4 (.tup (SqT.of f4) (.cons (.str _) (.cons (dp_ts (TS.of (s0.trans (s2.trans s4))) _ _ (tupD_sel _ _) hu') (.cons (dp_ts (TS.of s4) _ _ (srcD_tup ix) hr) .nil)))) (s0.trans (s2.trans s4))
end

end J
namespace J
open PySem PySem.Spec PyProof.Rows L2
local macro_rules | `(tactic| walk_at "cls") => `(tactic| first
  | with_reducible exact Facts.cl_Step
  | with_reducible exact Facts.cl_Get
  | with_reducible exact Facts.cl_Ask
  | with_reducible exact Facts.cl_Cell
  | with_reducible exact Facts.cl_Two
  | with_reducible exact Facts.cl_Put
  | with_reducible exact Facts.cl_Tell
  | with_reducible exact Facts.cl_Store
  | with_reducible exact Facts.cl_Parts
  | with_reducible exact Facts.cl_Order)
local macro_rules | `(tactic| walk_at "na") => `(tactic| first
  | with_reducible exact Facts.na_Get_to
  | with_reducible exact Facts.na_Get_sel
  | with_reducible exact Facts.na_Ask_to
  | with_reducible exact Facts.na_Ask_sel
  | with_reducible exact Facts.na_Cell_to
  | with_reducible exact Facts.na_Cell_source
  | with_reducible exact Facts.na_Two_to
  | with_reducible exact Facts.na_Two_op
  | with_reducible exact Facts.na_Two_one
  | with_reducible exact Facts.na_Two_other
  | with_reducible exact Facts.na_Put_sel
  | with_reducible exact Facts.na_Put_source
  | with_reducible exact Facts.na_Tell_sel
  | with_reducible exact Facts.na_Tell_source
  | with_reducible exact Facts.na_Store_at
  | with_reducible exact Facts.na_Store_source
  | with_reducible exact Facts.na_Parts_rows
  | with_reducible exact Facts.na_Order_parts
  | with_reducible exact Facts.na_Order_order
  | with_reducible exact Facts.na_Order_needed)
local macro_rules | `(tactic| walk_at "ty") => `(tactic| first
  | with_reducible exact ty_int
  | with_reducible exact ty_bl
  | with_reducible exact ty_str
  | with_reducible exact ty_non
  | ((with_reducible refine' ty_lst ?vv); (case vv => walk_at "tr"))
  | ((with_reducible refine' ty_sqT ?vv); (case vv => walk_at "tr"))
  | ((with_reducible refine' ty_dic ?vv); (case vv => walk_at "tr")))
local macro_rules | `(tactic| walk_at "ix") => `(tactic| first | exact at0 | exact at1 | exact at2 | assumption)
local macro_rules | `(tactic| walk_at "size") => `(tactic| first
  | assumption
  | (show _ < sizeLine; rw [sizeLine_eq]; (try simp only [List.length_cons, List.length_nil, List.length_append, List.length_map]); omega)
  | (show _ ≤ sizeLine; rw [sizeLine_eq]; (try simp only [List.length_cons, List.length_nil, List.length_append, List.length_map]); omega))
local macro_rules | `(tactic| walk_at "side") => `(tactic| first
  | assumption
  | ((with_reducible refine cdw ?_ ?_) <;> omega)
  | omega
  | (exact ⟨by omega, by omega⟩)
  | (exact Or.inl ⟨by omega, by omega⟩)
  | (exact Or.inr ⟨by omega, by omega⟩)
  | decide
  | (simp only [List.length_cons, List.length_nil, List.length_append, List.length_map]; omega)
  | (show _ ≤ _; decide))
local macro_rules | `(tactic| walk_at "as") => `(tactic| with_reducible assumption)
local macro_rules | `(tactic| walk_at "tr") => `(tactic| first
  | with_reducible assumption
  | with_reducible exact upd_same
  | ((with_reducible refine' SqL.of ?hh); (case hh => walk_at "as"))
  | ((with_reducible refine' SqT.of ?hh); (case hh => walk_at "as"))
  | ((with_reducible refine' Same.stm ?ee ?gg); (case ee => walk_at "as"); (case gg => walk_at "tr"))
  | ((with_reducible refine' Same.sqT ?ee ?gg); (case ee => walk_at "as"); (case gg => walk_at "tr"))
  | ((with_reducible refine' Same.sqL ?ee ?gg); (case ee => walk_at "as"); (case gg => walk_at "tr"))
  | ((with_reducible refine' Same.at ?ee ?gg); (case ee => walk_at "as"); (case gg => walk_at "tr"))
  | ((with_reducible refine' But.stm ?ee ?ff ?gg); (case ee => walk_at "as"); (case ff => walk_at "ne"); (case gg => walk_at "tr"))
  | ((with_reducible refine' But.tup ?ee ?ff ?gg); (case ee => walk_at "as"); (case ff => walk_at "tr1"); (case gg => walk_at "tr"))
  | ((with_reducible refine' But.sqT ?ee ?ff ?gg); (case ee => walk_at "as"); (case ff => walk_at "tr1"); (case gg => walk_at "tr"))
  | ((with_reducible refine' But.tupL ?ee ?ff ?gg); (case ee => walk_at "as"); (case ff => walk_at "tr1"); (case gg => walk_at "tr"))
  | ((with_reducible refine' But.sqTL ?ee ?ff ?gg); (case ee => walk_at "as"); (case ff => walk_at "tr1"); (case gg => walk_at "tr"))
  | ((with_reducible refine' But.sqL ?ee ?ff ?gg); (case ee => walk_at "as"); (case ff => walk_at "ne"); (case gg => walk_at "tr"))
  | ((with_reducible refine' But.at ?ee ?ff ?gg); (case ee => walk_at "as"); (case ff => walk_at "ne"); (case gg => walk_at "tr")))
local macro_rules | `(tactic| walk_at "ts") => `(tactic| first
  | with_reducible assumption
  | with_reducible exact TS.refl _
  | ((with_reducible refine' TS.trans ?gg (TS.of ?ee)); (case ee => walk_at "as"); (case gg => walk_at "ts"))
  | ((with_reducible refine' TS.trans ?gg (TS.butS ?ee ?ff)); (case ee => walk_at "as"); (case ff => walk_at "tr1"); (case gg => walk_at "ts"))
  | ((with_reducible refine' TS.trans ?gg (TS.butL ?ee ?ff)); (case ee => walk_at "as"); (case ff => walk_at "tr1"); (case gg => walk_at "ts"))
  | ((with_reducible refine' TS.trans ?gg (TS.butI ?ee ?ff)); (case ee => walk_at "as"); (case ff => walk_at "tr1"); (case gg => walk_at "ts")))
local macro_rules | `(tactic| walk_at "sm") => `(tactic| first
  | with_reducible assumption
  | with_reducible exact Same.refl _
  | ((with_reducible refine' Same.trans ?gg ?ee); (case ee => walk_at "as"); (case gg => walk_at "sm"))
  | ((with_reducible refine' But.new ?gg ?nn ?ee); (case ee => walk_at "as"); (case nn => walk_at "fr"); (case gg => walk_at "sm")))
local macro_rules | `(tactic| walk_at "fr") => `(tactic| first
  | with_reducible assumption
  | ((with_reducible refine' Same.back ?ee ?nn); (case nn => walk_at "as"); (case ee => walk_at "sm"))
  | ((with_reducible refine' But.back ?ee ?ff ?nn); (case nn => walk_at "as"); (case ff => walk_at "ne0"); (case ee => walk_at "bu")))
local macro_rules | `(tactic| walk_at "bu") => `(tactic| first
  | with_reducible assumption
  | with_reducible exact But.refl _ _
  | ((with_reducible refine' But.trans ?gg ?ee); (case ee => walk_at "as"); (case gg => walk_at "bu"))
  | ((with_reducible refine' But.trans ?gg (But.of ?ee)); (case ee => walk_at "as"); (case gg => walk_at "bu"))
  | ((with_reducible refine' But.new2 ?gg ?nn ?ee); (case ee => walk_at "as"); (case nn => walk_at "frB"); (case gg => walk_at "bu")))
local macro_rules | `(tactic| walk_at "frB") => `(tactic| first
  | with_reducible assumption
  | ((with_reducible refine' Same.back ?ee ?nn); (case nn => walk_at "as"); (case ee => walk_at "sm"))
  | ((with_reducible refine' But.back' ?ee ?ff ?nn); (case nn => walk_at "as"); (case ee => walk_at "bu"); (case ff => walk_at "tr1")))
local macro_rules | `(tactic| walk_at "tr1") => `(tactic| first
  | with_reducible assumption
  | ((with_reducible refine' Same.stm ?ee ?gg); (case ee => walk_at "as"); (case gg => walk_at "tr1"))
  | ((with_reducible refine' Same.at ?ee ?gg); (case ee => walk_at "as"); (case gg => walk_at "tr1"))
  | ((with_reducible refine' But.at ?ee ?ff ?gg); (case ee => walk_at "as"); (case ff => walk_at "ne0"); (case gg => walk_at "tr1"))
  | ((with_reducible refine' But.stm ?ee ?ff ?gg); (case ee => walk_at "as"); (case ff => walk_at "ne0"); (case gg => walk_at "tr1")))
local macro_rules | `(tactic| walk_at "ne0") => `(tactic| first
  | with_reducible assumption
  | (with_reducible apply Ne.symm; with_reducible assumption))
local macro_rules | `(tactic| walk_at "ne") => `(tactic| first
  | with_reducible assumption
  | (with_reducible apply Ne.symm; with_reducible assumption)
  | ((with_reducible refine' stm_ne ?hh ?nn); (case nn => walk_at "as"); (case hh => walk_at "tr1"))
  | ((with_reducible refine' ne_of_none ?hh ?nn); (case nn => walk_at "as"); (case hh => walk_at "tr1"))
  | ((with_reducible apply Ne.symm); (with_reducible refine' ne_of_none ?hh ?nn); (case nn => walk_at "as"); (case hh => walk_at "tr1")))
local macro_rules | `(tactic| walk_at "v") => `(tactic| first
  | with_reducible refine w_seq ?_
  | ((with_reducible refine' w_var ?vv ?_); (case vv => exact rfl))
  | with_reducible refine w_c ?_
  | with_reducible refine w_op ?_
  | with_reducible refine w_asg ?_
  | with_reducible refine w_gName ?_
  | with_reducible refine w_ret ?_
  | with_reducible refine w_ifS ?_
  | with_reducible refine w_drop ?_
  | with_reducible refine w_next ?_
  | with_reducible refine w_cons ?_
  | with_reducible refine w_nil ?_
  | with_reducible refine w_call ?_
  | with_reducible refine w_cb ?_
  | with_reducible refine w_rI0 ?_
  | with_reducible refine w_addI ?_
  | with_reducible refine w_eqI ?_
  | with_reducible refine w_neI ?_
  | with_reducible refine w_eqS ?_
  | with_reducible refine w_neS ?_
  | with_reducible refine w_eqB ?_
  | with_reducible refine w_neB ?_
  | with_reducible refine w_chain ?_
  | with_reducible refine w_test ?_
  | with_reducible refine w_tB ?_
  | with_reducible refine w_bl ?_
  | ((with_reducible refine' w_mulI ?vv ?_); (case vv => walk_at "side"))
  | ((with_reducible refine' w_rI ?vv ?_); (case vv => walk_at "side"))
  | with_reducible refine w_int1 ?_
  | with_reducible refine w_int1b ?_
  | with_reducible refine w_tup ?_
  | with_reducible refine w_lst ?_
  | with_reducible refine w_un ?_
  | with_reducible refine w_rU ?_
  | with_reducible refine w_not ?_
  | with_reducible refine w_notV ?_
  | with_reducible refine w_ifE ?_
  | with_reducible refine w_nT ?_
  | with_reducible refine w_nF ?_
  | with_reducible refine iteT ?_
  | with_reducible refine iteF ?_
  | ((with_reducible refine' w_ixT ?vv ?ww ?_); (case vv => walk_at "tr"); (case ww => walk_at "ix"))
  | ((with_reducible refine' w_ixL ?vv ?ww ?_); (case vv => walk_at "tr"); (case ww => walk_at "ix"))
  | with_reducible refine w_gSub ?_
  | ((with_reducible refine' w_setL ?vv ?ww ?_); (case vv => walk_at "tr"); (case ww => first | rfl | decide | assumption))
  | ((with_reducible refine' w_lenL ?vv ?_); (case vv => walk_at "tr"))
  | ((with_reducible refine' w_lenT ?vv ?_); (case vv => walk_at "tr"))
  | with_reducible refine w_max2 ?_
  | with_reducible refine w_max3 ?_
  | with_reducible refine w_din ?_
  | with_reducible refine w_dnotin ?_
  | with_reducible refine w_dput ?_
  | with_reducible refine w_min2 ?_
  | with_reducible refine w_bm ?_
  | with_reducible refine w_bm0 ?_
  | ((with_reducible refine' w_tyL ?vv ?_); (case vv => walk_at "tr"))
  | ((with_reducible refine' w_append ?vv ?ww ?_); (case vv => walk_at "tr"); (case ww => walk_at "size"))
  | ((with_reducible refine' w_size ?vv ?_); (case vv => walk_at "size"))
  | with_reducible refine w_forL ?_
  | with_reducible refine w_forT ?_
  | with_reducible refine w_forR1 ?_
  | with_reducible refine w_forR2 ?_
  | with_reducible refine w_lcL ?_
  | with_reducible refine w_lcT ?_
  | with_reducible refine w_lcR1 ?_
  | with_reducible refine w_yes ?_
  | with_reducible refine w_sl ?_
  | with_reducible refine w_noPart ?_
  | with_reducible refine w_part ?_
  | with_reducible refine w_int ?_
  | ((with_reducible refine' w_slL ?vv ?_); (case vv => walk_at "tr"))
  | ((with_reducible refine' w_seqL ?vv ?ww ?_); (case vv => walk_at "tr"); (case ww => rfl))
  | ((with_reducible refine' w_seqT ?vv ?ww ?_); (case vv => walk_at "tr"); (case ww => rfl))
  | with_reducible refine w_gNil ?_
  | with_reducible refine w_gCons ?_
  | with_reducible refine w_forZ ?_
  | with_reducible refine w_forM ?_
  | with_reducible refine w_forE ?_
  | with_reducible refine w_forV ?_
  | with_reducible refine w_lcZ ?_
  | with_reducible refine w_lcE ?_
  | ((with_reducible refine' w_isi (b := true) ?vv ?ww ?_); (case vv => walk_at "ty"); (case ww => decide +kernel))
  | ((with_reducible refine' w_isi (b := false) ?vv ?ww ?_); (case vv => walk_at "ty"); (case ww => decide +kernel))
  | with_reducible refine w_revL ?_
  | with_reducible refine w_pairN ?_
  | with_reducible refine w_pairC ?_
  | with_reducible refine w_dget ?_
  | with_reducible refine w_met ?_
  | ((with_reducible refine' w_metAt ?vv ?ww ?_); (case vv => walk_at "tr"); (case ww => rfl))
  | with_reducible refine w_mkI ?_
  | with_reducible refine w_fld ?_
  | ((with_reducible refine' w_fldAt ?vv ?cc ?nn ?ww ?_); (case vv => walk_at "tr"); (case cc => walk_at "cls"); (case nn => walk_at "na"); (case ww => rfl))
  | with_reducible refine w_sfld ?_
  | ((with_reducible refine' w_sfldAt ?vv ?cc ?nn ?ll ?ee ?_); (case vv => walk_at "tr"); (case cc => walk_at "cls"); (case nn => walk_at "na"); (case ll => simp); (case ee => rfl))
  | ((with_reducible refine' w_tupL ?vv ?_); (case vv => walk_at "tr"))
  | ((with_reducible refine' w_tupT ?vv ?_); (case vv => walk_at "tr"))
  | ((with_reducible refine' w_listL ?vv ?_); (case vv => walk_at "tr"))
  | ((with_reducible refine' w_listT ?vv ?_); (case vv => walk_at "tr"))
  | with_reducible refine w_tyS ?_
  | with_reducible refine w_retN ?_
  | with_reducible refine w_break ?_
  | with_reducible refine w_cont ?_)
local macro_rules | `(tactic| walk_at "w") => `(tactic| first
  | walk_at "v"
  | with_reducible refine w_or ?_
  | with_reducible refine w_and ?_
  | with_reducible refine w_andV ?_
  | with_reducible refine w_orV ?_)
local macro_rules | `(tactic| walk_at "wd") => `(tactic| first
  | walk_at "w"
  | ((with_reducible refine' w_decT ?vv ?_); (case vv => decide +kernel))
  | ((with_reducible refine' w_decF ?vv ?_); (case vv => decide +kernel)))
local macro_rules | `(tactic| walk_at "tz") => `(tactic| (intro S z; (repeat walk_at "w"); exact z))
local macro_rules | `(tactic| walk_at "wf") => `(tactic| first
  | walk_at "wd"
  | ((with_reducible refine' w_decF ?vv ?_); (case vv => with_reducible assumption)))
theorem w_extend3 {H : Hp} {Q : VK} {l b : Addr} {xs zs : List V} (h1 : H l = some (.lst xs)) (h2 : H b = some (.lst zs)) (h : xs.length + zs.length ≤ sizeLine) (k : ChgO l (.lst (xs ++ zs)) H (Q .non)) : rExtend (.ref l) [.ref b] H Q := ⟨l, b, xs, zs, rfl, rfl, h1, h2, h, k⟩
theorem w_pop0 {H : Hp} {Q : VK} {l : Addr} {y : V} {ys : List V} (h : H l = some (.lst (y :: ys))) (k : ChgO l (.lst ys) H (Q y)) : rPopAt (.ref l) [.int 0] H Q :=
  ⟨l, y :: ys, 0, 0, y, rfl, rfl, h, by decide, by decide, by unfold seqIndex?; simp, rfl, k⟩
theorem PL.len' {K : PySem.W.Frag} {H : Hp} {r : Addr} {ps : List PyData} (h : PL K H r ps) : ∃ xs, H r = some (.lst xs) ∧ DpAll K H xs ps ∧ Rows ps ∧ xs.length = ps.length := by
  obtain ⟨xs, a, b, c⟩ := id h
  exact ⟨xs, a, b, c, h.len a⟩
def spStepsOf (K : PySem.W.Frag) : Sp := fun vs H Q _ => ∃ v ss many, vs = [v, .int ((many : Nat) : Int)] ∧ many ≤ 200 ∧ Dp K H v (setsD ss) ∧ ss.length ≤ 4 ∧ (∀ x ∈ ss, OkS 4 x) ∧ (∀ L, Srt ss L → topN L L.length ≤ (many : Int)) ∧
  ∀ q H' L vs, Srt ss L → H' q = some (.lst vs) → StpL K H' vs (dueF ss many (ordL L)) → Same H H' → H q = none → Q (.ref q) H'
theorem len_steps_of {K : PySem.W.Frag} {vs H Q E} (h : spStepsOf K vs H Q E) : vs.length = 2 := by obtain ⟨_, _, _, rfl, _⟩ := h; rfl
section
variable {P : Program} {w : World} {K : PySem.W.Frag} {mg : Str → Option Value}
theorem ok_steps_of [c : Facts K mg] (G_best_order : Fn P w K mg "best_order" 9 ["sets"] ((spBest K))) (G_own_parts : Fn P w K mg "own_parts" 1 ["part"] ((spOwnP K))) (G_parts_and_roots : Fn P w K mg "parts_and_roots" 6 ["sets"] ((spPR K))) (G_step_for : Fn P w K mg "step_for" 3 ["part", "to", "inner"] ((spStepFor K))) (G_step_giving : Fn P w K mg "step_giving" 3 ["one", "root", "inner"] ((spGiv K))) : Fn P w K mg "steps_of" 10 ["sets", "many"] ((spStepsOf K)) := by
  obtain ⟨fd, F⟩ := c.d_steps_of
  refine Fn.mk' F c.g_steps_of sc_steps_of (k := 9) (fun vs H Q E h => ?_) (fun _ _ _ _ _ _ us hl => match us, hl with | [_, _], _ => rfl) (fun base cdv A outer s H vs Q E hr h => ?_)
  · exact len_steps_of h
  · have nd := sc_steps_of.nd
    have hu := hu_of hr
    have hr_best_order : Room 9 _ := hr.mono (by omega)
    have hr_own_parts : Room 1 _ := hr.mono (by omega)
    have hr_parts_and_roots : Room 6 _ := hr.mono (by omega)
    have hr_step_for : Room 3 _ := hr.mono (by omega)
    have hr_step_giving : Room 3 _ := hr.mono (by omega)
    refine ⟨_, (pss_cons (ps_asg (pe_fn G_parts_and_roots hr_parts_and_roots (by rfl) (pa_cons (pv 0) pa_nil)) (pg_seq 2 (K := K) rfl rfl (pgs_cons (pg_name (i := 2) nd rfl (Or.inl rfl)) (pgs_cons (pg_name (i := 3) nd rfl (Or.inl rfl)) pgs_nil))))
      (pss_cons (ps_set (i := 4) nd rfl (Or.inl rfl) (pe_callTy (call_listRng rfl) (by rfl) c.f_list boot_list (pa_cons (pe_callTy call_rng1 (by rfl) c.f_range boot_range (pa_cons (pv 1) pa_nil)) pa_nil)))
      (pss_cons (ps_set (i := 5) nd rfl (Or.inr rfl) pe_dnewK)
      (pss_cons (ps_set (i := 6) nd rfl (Or.inl rfl) (pe_lst pa_nil))
      (pss_cons (ps_for PassesOwn.never rfl (pi_list (pe_fn G_best_order hr_best_order (by rfl) (pa_cons (pv 0) pa_nil))) (pg_name (i := 7) nd rfl (Or.inl rfl)) (pss_cons (ps_expr (pe_bm PySem.F.plainAttrs_list PySem.F.slot_list_extend PySem.F.type_list_extend mt_extend (pv 4) (pa_cons (pe_lc (own := [("own", 11)]) rfl nd (pi_list (pe_fn G_own_parts hr_own_parts (by rfl) (pa_cons (pe_ix (ix_any (K := K) rfl) (pv 2) (pv 7) (fun _ _ => rfl)) pa_nil))) (blkOk_by (N := N_steps_of) (sc := defScope s_steps_of) (by decide +kernel)) (fun _ _ _ _ _ => (pg_name (i := 11) nd rfl (Or.inl rfl))) (fun _ _ _ _ _ => pts_nil) (fun _ _ _ _ _ => (pe_dget hu (pv 5) (pv 11) (fun _ _ => rfl)))) pa_nil)))
      (pss_cons (ps_set (i := 8) nd rfl (Or.inl rfl) (pe_bm PySem.F.plainAttrs_list PySem.F.slot_list_pop PySem.F.type_list_pop mt_popAt (pv 4) (pa_cons pe_int pa_nil)))
      (pss_cons (ps_expr (pe_bm PySem.F.plainAttrs_list PySem.F.slot_list_append PySem.F.type_list_append mt_append (pv 6) (pa_cons (pe_fn G_step_for hr_step_for (by rfl) (pa_cons (pe_ix (ix_any (K := K) rfl) (pv 2) (pv 7) (fun _ _ => rfl)) (pa_cons (pv 8) (pa_cons (pv 5) pa_nil)))) pa_nil)))
      (pss_one (ps_dput hu (pv 5) (pv 7) (pv 8) rfl))))))
      (pss_cons (ps_for PassesOwn.never rfl (pi_zipM (K := K) true false rfl (by rfl) c.f_zip (pa_cons (pv 0) (pa_cons (pv 3) pa_nil))) (pg_seq 2 (K := K) rfl rfl (pgs_cons (pg_name (i := 9) nd rfl (Or.inl rfl)) (pgs_cons (pg_name (i := 10) nd rfl (Or.inl rfl)) pgs_nil))) (pss_one (ps_expr (pe_bm PySem.F.plainAttrs_list PySem.F.slot_list_append PySem.F.type_list_append mt_append (pv 6) (pa_cons (pe_fn G_step_giving hr_step_giving (by rfl) (pa_cons (pv 9) (pa_cons (pv 10) (pa_cons (pv 5) pa_nil)))) pa_nil)))))
      (pss_one (ps_ret (pv 6))))))))), ?_⟩
    try dsimp only [cxOf, Cx.nox, Cx.wish]
    obtain ⟨v, ss, many, rfl, hm, hv, hl, ho, up, q⟩ := h
    have hz : sizeLine = 16777216 := sizeLine_eq
    repeat walk_at "w"
    refine ⟨v, ss, rfl, hv, hl, ho, fun t l r H1 ht hP hR nl nr s1 nlr => ?_⟩
    have pk1 : PK K H1 l ss := ⟨hP, ho, hl⟩
    repeat walk_at "w"
    refine w_rng1 ?_
    refine w_new fun pr H2 n2 s2 f2 => ?_
    repeat walk_at "w"
    refine w_listRng f2 (by omega) (by omega) ?_
    refine w_new fun fr H3 n3 s3 f3 => ?_
    repeat walk_at "w"
    refine w_dnew ?_
    refine w_new fun di H4 n4 s4 f4 => ?_
    repeat walk_at "w"
    refine w_new fun sp H5 n5 s5 f5 => ?_
    repeat walk_at "w"
    have s15 : Same H1 H5 := s2.trans (s3.trans (s4.trans s5))
    refine ⟨v, ss, rfl, dp_ts (TS.of (s1.trans s15)) _ _ (setsD_t ss) hv, hl, ho, fun qo H6 L srt hq s6 nq => ?_⟩
    have full := srt.full
    have hup : ∀ k, sumO (ownF ss) ((ordL L).take k) ≤ many := fun k => by have := srt.up k; have := up L srt; omega
    generalize hoL : ordL L = o at full hup hq
    have hol : o.length ≤ 120 := by have := full.len; have := nOf_le ho hl; omega
    have e3 : (List.range ((many : Nat) : Int).toNat).map (fun i : Nat => V.int (i : Int)) = (rangeI many).map V.int := by unfold rangeI; rw [List.map_map, Int.toNat_natCast]; rfl
    rw [e3] at f3
    obtain ⟨lxs, hlx, _⟩ := pk1.len
    obtain ⟨rxs, hrx, _⟩ := hR.len'
    have s16 : Same H1 H6 := s15.trans s6
    have nfr : H1 fr = none := s2.free n3
    have ndi : H1 di = none := (s2.trans s3).free n4
    have nsp : H1 sp = none := (s2.trans (s3.trans s4)).free n5
    have nfd : fr ≠ di := ne_of_none f3 n4
    have nfs : fr ≠ sp := ne_of_none (s4 _ _ f3) n5
    have nds : di ≠ sp := ne_of_none f4 n5
    have nqf : qo ≠ fr := fun z => by rw [z, (s4.trans s5) _ _ f3] at nq; cases nq
    have nqd : qo ≠ di := fun z => by rw [z, s5 _ _ f4] at nq; cases nq
    have nqs : qo ≠ sp := fun z => by rw [z, f5] at nq; cases nq
    have f36 : H6 fr = some (.lst ((rangeI many).map V.int)) := s6 _ _ (s5 _ _ (s4 _ _ f3))
    have f46 : H6 di = some (.dK []) := s6 _ _ (s5 _ _ f4)
    have f56 : H6 sp = some (.lst []) := s6 _ _ f5
    refine fl_list (o.map V.int) (fun i σ H' => ∃ o7 o8 o9 o10 o11 kvs vs, σ = [some v, some (.int ((many : Nat) : Int)), some (.ref l), some (.ref r), some (.ref fr), some (.ref di), some (.ref sp), o7, o8, o9, o10, o11] ∧ H' fr = some (.lst ((sim ss many (o.take i)).free.map V.int)) ∧
        H' di = some (.dK kvs) ∧ kvs.length ≤ i ∧ (∀ j ∈ o.take i, valV kvs (.inl j) = some (.int ((sim ss many (o.take i)).inn j))) ∧ H' sp = some (.lst vs) ∧ StpL K H' vs (sim ss many (o.take i)).sts ∧ vs.length ≤ i ∧ H' qo = some (.lst (o.map V.int)) ∧ Same H1 H') (SqL.of hq)
      ⟨_, _, _, _, _, [], [], rfl, f36, f46, Nat.le_refl _, fun j hj => by simp at hj, f56, trivial, Nat.le_refl _, hq, s16⟩ (fun i σ H' hi hp => ?_) (fun i x σ H' hx hp => ?_) (fun σ H' hp => ?_)
    · obtain ⟨_, _, _, _, _, _, _, _, _, _, _, _, _, _, _, g, _⟩ := hp
      exact SqL.of g
    · obtain ⟨o7, o8, o9, o10, o11, kvs, vs, rfl, hfr, hdi, hkl, hkn, hsp, hst, hvl, hqo, e⟩ := hp
      rw [List.getElem?_map] at hx
      obtain ⟨x, hx', rfl⟩ := Option.map_eq_some_iff.mp hx
      have bx := (full.mem x).mp (List.mem_of_getElem? hx')
      have hil := (List.getElem?_eq_some_iff.mp hx').1
      obtain ⟨to, frr, hf, e1, e2, e3, _, xno⟩ := sim_next full hup hx'
      have oh := own_held full hx'
      have oin : ∀ y ∈ ownF ss x, y ∈ o.take i := fun y hy => List.mem_reverse.mp (held_sub (oh y hy))
      obtain ⟨sl, _⟩ := simOk full hup i (by omega)
      have hsl : (sim ss many (o.take i)).free.length ≤ 200 := by omega
      obtain ⟨xs2, v2, hx2, ha2, hd2, hr2, hrs2, ho2⟩ := (pk1.sm e).at2 bx.1 bx.2
      have ol2 : (ownF ss x).length ≤ 2 := by
        rw [← ho2]
        obtain ⟨s', items, er, _, _, _, l2, _⟩ := hr2
        rw [er, PRow.own]
        exact Nat.le_trans (List.length_filterMap_le _ _) l2
      repeat walk_at "w"
      refine ⟨v2, _, rfl, hd2, hr2, fun w1 H7 f7 s7 n7 => ?_⟩
      rw [ho2] at f7
      have hdi7 := s7 _ _ hdi
      refine lc_L ((ownF ss x).map V.int) (fun D j ys H'' => Same H7 H'' ∧ ys = (((ownF ss x).take j).map (sim ss many (o.take i)).inn).map V.int) (SqL.of f7) (fun D H'' hD e f => ⟨e, rfl⟩) (fun D hD j ys H'' hj hy hp => SqL.of (hp.1 _ _ f7)) (fun D hD j y ys H'' hyj hll hys hp2 => ?_) (fun D hD ys H'' hll hys hp2 => ?_)
      · obtain ⟨e8, rfl⟩ := hp2
        rw [List.getElem?_map] at hyj
        obtain ⟨y, hy', rfl⟩ := Option.map_eq_some_iff.mp hyj
        have hjl := (List.getElem?_eq_some_iff.mp hy').1
        repeat walk_at "w"
        refine w_dgotI (e8 _ _ hdi7) (hkn y (oin y (List.mem_of_getElem? hy'))) ?_
        refine lc_end hys hll (by rw [hz]; omega) fun H9 e9 f9 => ⟨But.new e8 hD e9, ?_⟩
        rw [take_snoc hy', List.map_append, List.map_append]; rfl
      · obtain ⟨e8, rfl⟩ := hp2
        rw [List.length_map, List.take_length] at hys
        have e78 := s7.trans e8
        repeat walk_at "w"
        refine w_extend3 (e78 _ _ hfr) hys (by rw [hz, List.length_map, List.length_map, List.length_map]; omega) ?_
        rw [← List.map_append, hf]
        refine w_chg fun H9 e9 f9 => ?_
        have it9 : IT H' H9 := (IT.of e78).trans (IT.butL e9 (e78 _ _ hfr))
        repeat walk_at "w"
        refine w_pop0 f9 ?_
        refine w_chg fun Ha ea fa => ?_
        have ita : IT H' Ha := it9.trans (IT.butL ea f9)
        have sa : Same H1 Ha := But.new (But.new (e.trans e78) nfr e9) nfr ea
        have hdia : Ha di = some (.dK kvs) := ea _ _ nfd.symm (e9 _ _ nfd.symm (e78 _ _ hdi))
        have hspa : Ha sp = some (.lst vs) := ea _ _ nfs.symm (e9 _ _ nfs.symm (e78 _ _ hsp))
        have hqoa : Ha qo = some (.lst (o.map V.int)) := ea _ _ nqf (e9 _ _ nqf (e78 _ _ hqo))
        obtain ⟨xs3, v3, hx3, ha3, hd3, hr3, hrs3, ho3⟩ := (pk1.sm sa).at2 bx.1 bx.2
        repeat walk_at "w"
        refine ⟨v3, to, di, kvs, _, (sim ss many (o.take i)).inn, rfl, hd3, hrs3, hdia, fun j hj => hkn j (oin j (by rw [← ho3]; exact hj)), fun sv Hb hsv sb => ?_⟩
        repeat walk_at "w"
        refine w_chg fun Hc ec fc => ?_
        repeat walk_at "w"
        have hdic : Hc di = some (.dK kvs) := ec _ _ nds (sb _ _ hdia)
        refine ⟨di, _, rfl, DPut.k (k := .inl x) hdic (by rw [hz]; omega), ?_⟩
        have ed : But di Hc (upd Hc di (.dK (putK kvs (.inl x) (.int to)))) := But.upd _ _ _
        generalize hHd : upd Hc di (.dK (putK kvs (.inl x) (.int to))) = Hd at ed
        have hdid : Hd di = some (.dK (putK kvs (.inl x) (.int to))) := by rw [← hHd]; exact upd_same
        have itb : IT Ha Hb := IT.of sb
        have itc : IT Hb Hc := IT.butL ec (sb _ _ hspa)
        have itd : IT Hc Hd := IT.butD ed hdic
        have sd : Same H1 Hd := But.new (But.new (sa.trans sb) nsp ec) ndi ed
        refine ⟨_, _, _, _, _, putK kvs (.inl x) (.int to), vs ++ [sv], rfl, ?_, hdid, ?_, fun j hj => ?_, ed _ _ nds.symm fc, ?_, by rw [List.length_append]; simpa using hvl, ed _ _ nqd (ec _ _ nqs (sb _ _ hqoa)), sd⟩
        · rw [e1]
          exact ed _ _ nfd (ec _ _ nfs (sb _ _ fa))
        · have := length_putK kvs (.inl x : Key) (V.int to)
          omega
        · rw [valV_put, e2]
          by_cases z : j = x
          · subst z; simp
          · rw [if_neg (fun g => z (by cases g; rfl))]
            rw [take_snoc hx'] at hj
            rcases List.mem_append.mp hj with g | g
            · rw [hkn j g]; simp [z]
            · exact (z (List.mem_singleton.mp g)).elim
        · rw [e3]
          exact ((hst.it (ita.trans itb)).snoc hsv).it (itc.trans itd)
    · obtain ⟨o7, o8, o9, o10, o11, kvs, vs, rfl, hfr, hdi, hkl, hkn, hsp, hst, hvl, hqo, e⟩ := hp
      rw [List.length_map, List.take_length] at hkn hst
      rw [List.length_map] at hkl hvl
      obtain ⟨a, xs, rfl, ha, hxs⟩ := set_d hv
      have hxl : xs.length = ss.length := by rw [dpa_len hxs, List.length_map]
      obtain ⟨ys, hy, hyd, hyr, hyl⟩ := (hR.same e).len'
      rw [(proots_len ss [] ho).2] at hyl
      have nrs : r ≠ sp := fun z => by rw [z, nsp] at hrx; cases hrx
      repeat walk_at "w"
      refine fl_zipM (xs := xs) (ys := ys) (fun i σ H9 => ∃ vs o9 o10, σ = [some (.ref a), some (.int ((many : Nat) : Int)), some (.ref l), some (.ref r), some (.ref fr), some (.ref di), some (.ref sp), o7, o8, o9, o10, o11] ∧ But sp H' H9 ∧ H9 sp = some (.lst vs) ∧ vs.length ≤ o.length + i ∧ StpL K H9 vs ((sim ss many o).sts ++ (List.range i).map (givF ss (sim ss many o).inn))) ((s1.trans e).sqT ha) (SqL.of hy)
        ⟨vs, _, _, rfl, But.refl _ _, hsp, by omega, by simpa using hst⟩ (fun i σ H9 hi hp => ?_) (fun i x y T σ H8 H9 hx hyy hp nT s9 hT => ?_) (fun σ H9 hp => ?_)
      · obtain ⟨_, _, _, _, b, _⟩ := hp
        exact ⟨(TS.butL b hsp).sqT ((s1.trans e).sqT ha), SqL.of (b _ _ nrs hy)⟩
      · obtain ⟨vs, o9, o10, rfl, b, hsp8, hvl8, hst8⟩ := hp
        have hi' : i < ss.length := by have := (List.getElem?_eq_some_iff.mp hx).1; omega
        obtain ⟨s, hs⟩ : ∃ s, ss[i]? = some s := ⟨_, List.getElem?_eq_getElem hi'⟩
        have os := ho s (List.mem_of_getElem? hs)
        have it9 : IT H' H9 := (IT.butL b hsp).trans (IT.of s9)
        have hxd : Dp K H9 x s.d := by
          obtain ⟨d, hd1, hd2⟩ := dpa_at' (dpAll_ts ((TS.of (s1.trans e)).trans it9.1) _ _ (setsD_tup ss) hxs) hx
          rw [List.getElem?_map, hs] at hd1
          cases Option.some.inj hd1
          exact hd2
        have hydd : Dp K H9 y (.tuple (J.parts s.rests (proots (ss.take i) []).2).1) := by
          obtain ⟨d, hd1, hd2⟩ := dpa_at' (dpAll_ts it9.1 _ _ (rows_all hyr).1 hyd) hyy
          rw [proots_at ss [] hs] at hd1
          cases Option.some.inj hd1
          exact hd2
        have hdi9 : H9 di = some (.dK kvs) := s9 _ _ (b _ _ nds hdi)
        repeat walk_at "w"
        refine ⟨x, y, di, kvs, s, _, (sim ss many o).inn, 4, rfl, hxd, os, hydd, parts_len1 _ _, parts_src _ _, hdi9, fun j hj => ?_, fun sv Ha hsv sa => ?_⟩
        · obtain ⟨p, hp, hc, rfl⟩ := root_ints hs hj
          have ge := offs_ge hp
          exact hkn _ ((full.mem _).mpr ⟨by omega, by unfold nOf; omega⟩)
        · have hspa := sa _ _ (s9 _ _ hsp8)
          repeat walk_at "w"
          refine w_chg fun Hb eb fb => ?_
          repeat walk_at "w"
          have itb : IT Ha Hb := IT.butL eb hspa
          refine ⟨vs ++ [sv], _, _, rfl, (b.trans (But.of (s9.trans sa))).trans eb, fb, by rw [List.length_append, List.length_singleton]; omega, ?_⟩
          have eg : givF ss (sim ss many o).inn i = givD (sim ss many o).inn s (J.parts s.rests (proots (ss.take i) []).2).1 := by unfold givF; rw [hs]
          rw [List.range_succ, List.map_append, ← List.append_assoc]
          show StpL K Hb (vs ++ [sv]) (_ ++ [givF ss (sim ss many o).inn i])
          rw [eg]
          exact ((hst8.it (IT.of (s9.trans sa))).snoc hsv).it itb
      · obtain ⟨vs, o9, o10, rfl, b, hsp9, hvl9, hst9⟩ := hp
        rw [hxl, hyl, Nat.min_self] at hst9
        repeat walk_at "w"
        exact q sp H9 L vs srt hsp9 (by rw [hoL]; exact hst9) (s1.trans (But.new e nsp b)) (s1.free nsp)
end

end J
namespace J
open PySem PySem.Spec PyProof.Rows L2
--plain
/-! ### list(reversed(list)) -/
section
open PySem PySem.Spec PyProof.Rows
variable {prog : Program} {w : World} {A : Around} {E : Value → Shared → Prop} {s : Shared}
theorem extend_rev {it l S : Addr} {items : Array Value} {R : Result → Shared → Prop} (hh : A.handled = none) (hit : s.heap.IsRevIter it l ((items.size : Int) - 1)) (hl : s.heap.IsList l items) (hne : l ≠ it) (hn : items.size ≤ sizeLine) (res : Value) (c : Nat)
    (hSi : S ≠ it) (hSl : S ≠ l) (hS : s.heap.get? S = some { cls := .type "list", data := .seq #[] c })
    (hR : ∀ (h' : Heap) (tk : Nat) (acc : Array Value) (c' : Nat), (∀ b o, b ≠ S → b ≠ it → s.heap.get? b = some o → h'.get? b = some o) → h'.get? S = some { cls := .type "list", dict := none, data := .seq acc c', slots := #[] } →
      ItemsOf (fun i v => items[items.size - 1 - i]? = some v) acc items.size → R (.ok (.ret res)) { s with heap := h', toks := tk }) :
    wpAny (model prog w) A.in1 (Builtin.List.listExtendWith (.ref S) (.ref it) res)
      (fun fin s' => match fin with | .done f => R (.ok f) s' | .again c' => c'.quiet = true ∧ codeAny (model prog w) A c' R s') (fun e s' => R (.error e) s') s := by
  have W := (Walks.listRev (prog := prog) (w := w) (A := A.in1) hh it l hne items).toS
  have hSf : S ∉ [it, l] := by simp only [List.mem_cons, List.not_mem_nil, or_false, not_or]; exact ⟨hSi, hSl⟩
  have hT : s.TypeIs (.ref it) "list_reverseiterator" := hit.typeIs
  have h1 : Builtin.List.listSameRef (.ref S) (.ref it) = false := by simp [Builtin.List.listSameRef, hSi]
  unfold Builtin.List.listExtendWith
  refine wpAny_bind (wpAny_typeOf hT ?_)
  rw [if_neg (by rw [h1]; decide)]
  refine wpAny_bind (wpAny_pyIter_revIter hit ?_)
  refine wpAny_bind (wpAny_holding ?_)
  unfold Builtin.List.listLengthHint
  refine wpAny_bind (wpAny_specialOf hT RT.nolen_lri ?_)
  show wpAny _ A.in1 (specialOf (Value.ref it) (Str.ofString "__length_hint__") >>= _) _ _ _
  refine wpAny_bind (wpAny_specialOf hT RT.hint_lri ?_)
  generalize hid : ("list_reverseiterator.__length_hint__" : String) = id0
  wp_delta
  rw [show splitId id0 = some ("list_reverseiterator", "__length_hint__") from by subst hid; decide +kernel]
  subst hid
  refine wpAny_bind (wpAny_isInstance (b := true) hT (by rw [isSubtype_type]; kernel_rfl) ?_)
  refine wpAny_pure ?_
  rw [if_neg (by decide)]
  have e0 : ((items.size : Nat) : Int) - 1 - ((0 : Nat) : Int) = (items.size : Int) - 1 := by omega
  refine wpAny_pure ⟨plainId_quiet F.plain_extend_loop _, codeAny_extend_loopS W hn _ hSf _ items.size 0 _ _ _ rfl (Nat.zero_le _) ⟨Nat.zero_le _, by rw [e0]; exact hit, hl⟩ hS (ItemsOf.nil _) fun s' acc' c' hm hS' hacc => ?_⟩
  rw [Moved.eq_with hm]
  refine hR s'.heap s'.toks acc' c' (fun b o hb hb2 e => hm.heap b o (fun hmem => ?_) e) hS' hacc
  rcases List.mem_cons.mp hmem with e' | hmem
  · exact hb e'
  · exact hb2 (List.mem_singleton.mp hmem)
theorem list_init_rev {it l S : Addr} {items : Array Value} {R : Result → Shared → Prop} (hh : A.handled = none) (hit : s.heap.IsRevIter it l ((items.size : Int) - 1)) (hl : s.heap.IsList l items) (hne : l ≠ it) (hn : items.size ≤ sizeLine)
    (hSi : S ≠ it) (hSl : S ≠ l) (hS : s.heap.get? S = some { cls := .type "list", data := .seq #[] })
    (hR : ∀ (h' : Heap) (tk : Nat) (acc : Array Value) (c' : Nat), (∀ b o, b ≠ S → b ≠ it → s.heap.get? b = some o → h'.get? b = some o) → h'.get? S = some { cls := .type "list", dict := none, data := .seq acc c', slots := #[] } →
      ItemsOf (fun i v => items[items.size - 1 - i]? = some v) acc items.size → R (.ok (.ret .none)) { s with heap := h', toks := tk }) :
    wpAny (model prog w) A.in1 (Builtin.«list.__init__» ⟨[.ref S, .ref it], []⟩)
      (fun fin s' => match fin with | .done f => R (.ok f) s' | .again c' => c'.quiet = true ∧ codeAny (model prog w) A c' R s') (fun e s' => R (.error e) s') s := by
  show wpAny _ _ (do let old ← Builtin.List.listItems (.ref S); Builtin.List.listUpdate (.ref S) (fun _ => #[]); letGo old.toList.reverse; Builtin.List.listExtendWith (.ref S) (.ref it) .none) _ _ s
  refine wpAny_bind ?_
  unfold Builtin.List.listItems
  refine wpAny_bind (wpAny_seqItems hS rfl (wpAny_pure ?_))
  show wpAny _ _ (updateSeq S (fun _ => #[]) >>= fun _ => letGo (#[] : Array Value).toList.reverse >>= fun _ => Builtin.List.listExtendWith (.ref S) (.ref it) .none) _ _ s
  refine wpAny_bind (wpAny_updateSeq hS rfl ?_)
  have hS2 := Heap.get?_update_self (Obj.mapSeq (fun _ => (#[] : Array Value))) hS rfl
  have oth : ∀ b o, b ≠ S → s.heap.get? b = some o → (s.heap.update S (Obj.mapSeq (fun _ => (#[] : Array Value)))).get? b = some o :=
    fun b o hb e => (Heap.get?_update_other _ _ (Ne.symm hb)).trans e
  refine wpAny_bind (wpAny_letGo ?_)
  obtain ⟨ol, hol, hrest⟩ := id hl
  refine extend_rev (s := { s with heap := s.heap.update S (Obj.mapSeq (fun _ => (#[] : Array Value))) }) hh (hit.at fun o e => oth it o (Ne.symm hSi) e) ⟨ol, oth l _ (Ne.symm hSl) hol, hrest⟩ hne hn .none _ hSi hSl hS2 fun h' tk acc c' hk hS' hacc => ?_
  exact hR h' tk acc c' (fun b o hb hb2 e => hk b o hb hb2 (oth b o hb e)) hS' hacc
theorem call_list_rev {it l : Addr} {items : Array Value} {Q : Value → Shared → Prop} (hh : A.handled = none) (hit : s.heap.IsRevIter it l ((items.size : Int) - 1)) (hl : s.heap.IsList l items) (hne : l ≠ it) (hn : items.size ≤ sizeLine)
    (hQ : ∀ (h' : Heap) (tk : Nat) (acc : Array Value) (c' : Nat), (∀ b o, b ≠ it → s.heap.get? b = some o → h'.get? b = some o) → h'.get? s.heap.objs.size = some { cls := .type "list", dict := none, data := .seq acc c', slots := #[] } →
      ItemsOf (fun i v => items[items.size - 1 - i]? = some v) acc items.size → Q (.ref s.heap.objs.size) { s with heap := h', toks := tk }) :
    wpAny (model prog w) A (call (.type "list") [.ref it]) Q E s := by
  refine callType_codes (Q₁ := fun obj s₁ => obj = .ref s.heap.objs.size ∧ s₁ = { s with heap := s.heap.push { cls := .type "list", data := .seq #[] } }) PySem.F.called_list (PySem.F.typeCall_list_1 _) PySem.F.entry_list_init
    (code_list_new _ ⟨rfl, rfl⟩) fun obj s₁ h₁ => ?_
  obtain ⟨rfl, rfl⟩ := h₁
  have hS : (s.heap.push { cls := .type "list", data := .seq #[] }).get? s.heap.objs.size = some { cls := .type "list", data := .seq #[] } := Heap.get?_push_size _ rfl
  obtain ⟨oi, hoi, _⟩ := id hit
  obtain ⟨ol, hol, _⟩ := id hl
  refine ⟨⟨_, hS, rfl⟩, PySem.F.args_list_init_2 _ _, list_init_rev (A := A.in1) (s := { s with heap := s.heap.push { cls := .type "list", data := .seq #[] } }) hh (hit.at fun o e => Heap.get?_push_of_some _ e) (hl.push _) hne hn (Nat.ne_of_gt (Heap.lt_size hoi)) (Nat.ne_of_gt (Heap.lt_size hol)) hS fun h' tk acc c' hk hS' hacc => ?_⟩
  exact ⟨rfl, hQ h' tk acc c' (fun b o hb e => hk b o (Nat.ne_of_lt (Heap.lt_size e)) hb (Heap.get?_push_of_some _ e)) hS' hacc⟩
end
section
open PySem PySem.Spec PyProof.Rows
variable {X : Cx} {K : PySem.W.Frag}
def tListRev (K : PySem.W.Frag) (te : TE) : TE := fun σ H Q => te σ H fun v H1 => ∃ (a : Addr) (xs : List V), v = .ref a ∧ SqL K H1 a xs ∧ NewO (.lst xs.reverse) H1 Q
theorem pe_listRev {e : Expr} {te : TE} {p p2 pos pos2 : Pos} (hK : X.K = K) (hc : X.calm = true) (hg : Gl X "list") (hm : X.mg "list" = none) (hg2 : Gl X "reversed") (hm2 : X.mg "reversed" = none) (he : PE X e te)
    (hs : starEach [e] X.env = (false, eval e X.env) :: starEach [] X.env := by rfl)
    (hs2 : starEach [.Call (.Name "reversed" p2) [e] [] pos2] X.env = (false, eval (.Call (.Name "reversed" p2) [e] [] pos2) X.env) :: starEach [] X.env := by rfl) :
    PE X (.Call (.Name "list" p) [.Call (.Name "reversed" p2) [e] [] pos2] [] pos) (tListRev K te) := by
  subst hK
  refine ⟨fun pins s σ H Q I h => ?_⟩
  refine Call_ (ld_blt I hg hm boot_list (PyProof.Rows.callWith_type1 (args_cons (Call_ (ld_blt I hg2 hm2 PyProof.Rows.boot_reversed (PyProof.Rows.callWith_type1 (args_cons (thn (he.run pins s σ H _ I h) fun u s1 ⟨v, H1, I1, r1, q1⟩ => args_nil ?_) hs) hs rfl))) hs2) hs2 rfl))
  obtain ⟨a, xs, ev, hq, q⟩ := q1
  subst ev
  obtain rfl : u = Value.ref a := r1
  obtain ⟨its, rv, p', hz⟩ := I1.list hq
  refine call_reversed_list p'.isList (args_nil ?_)
  have k0 : ∀ b o, s1.heap.get? b = some o → (s1.heap.push (revObj a ((its.toArray.size : Int) - 1))).get? b = some o := fun b o e => Heap.get?_push_of_some _ e
  have I2 : Inv X pins σ H1 { s1 with heap := s1.heap.push (revObj a ((its.toArray.size : Int) - 1)) } := I1.kept (t' := s1.toks) k0
  obtain ⟨f0, f1, f2, f3, f4, f5⟩ := I1.fpOk (H' := H1) (b := s1.heap.objs.size) (Nat.le_refl _) (I1.hok.fresh (Nat.le_refl _))
  have hl := p'.isList
  obtain ⟨ol, hol, _⟩ := id hl
  have hne : a ≠ s1.heap.objs.size := Nat.ne_of_lt (Heap.lt_size hol)
  have hn : its.toArray.size ≤ sizeLine := by rw [List.size_toArray, ← rv.length]; exact hz
  refine call_list_rev (s := { s1 with heap := s1.heap.push (revObj a ((its.toArray.size : Int) - 1)) }) (I1.ok.hd hc) ⟨_, Heap.get?_push_size _ rfl, rfl, rfl⟩ (hl.push _) hne hn fun h' tk acc c' hk hS hi => ?_
  exact ⟨.ref _, upd H1 _ (.lst xs.reverse), I2.turnedNew (t' := tk) (ch := [s1.heap.objs.size]) (fun b o hb e => hk b o (fun z => hb (by simp [z])) e) (fun b hb => by rw [List.mem_singleton.mp hb]; exact ⟨f0, f1, f2, f3, f4, f5⟩) (Nat.le_refl _)
    (show ObjOk X.prog X.w _ _ _ (.lst xs.reverse) from ⟨by rw [List.length_reverse]; exact hz, acc.toList, c', RT.vals_rev rv hi, by rw [Array.toArray_toList]; exact hS⟩), rfl, q _ (I2.hok.fresh (Nat.le_refl _))⟩
theorem w_listRev {σ : L2.St} {H : Hp} {Q : VK} {te : TE} (k : te σ H fun x H1 => ∃ a xs, x = .ref a ∧ SqL K H1 a xs ∧ NewO (.lst xs.reverse) H1 Q) : tListRev K te σ H Q := k
end

end J
namespace J
open PySem PySem.Spec PyProof.Rows L2
local macro_rules | `(tactic| walk_at "cls") => `(tactic| first
  | with_reducible exact Facts.cl_Step
  | with_reducible exact Facts.cl_Get
  | with_reducible exact Facts.cl_Ask
  | with_reducible exact Facts.cl_Cell
  | with_reducible exact Facts.cl_Two
  | with_reducible exact Facts.cl_Put
  | with_reducible exact Facts.cl_Tell
  | with_reducible exact Facts.cl_Store
  | with_reducible exact Facts.cl_Parts
  | with_reducible exact Facts.cl_Order)
local macro_rules | `(tactic| walk_at "na") => `(tactic| first
  | with_reducible exact Facts.na_Get_to
  | with_reducible exact Facts.na_Get_sel
  | with_reducible exact Facts.na_Ask_to
  | with_reducible exact Facts.na_Ask_sel
  | with_reducible exact Facts.na_Cell_to
  | with_reducible exact Facts.na_Cell_source
  | with_reducible exact Facts.na_Two_to
  | with_reducible exact Facts.na_Two_op
  | with_reducible exact Facts.na_Two_one
  | with_reducible exact Facts.na_Two_other
  | with_reducible exact Facts.na_Put_sel
  | with_reducible exact Facts.na_Put_source
  | with_reducible exact Facts.na_Tell_sel
  | with_reducible exact Facts.na_Tell_source
  | with_reducible exact Facts.na_Store_at
  | with_reducible exact Facts.na_Store_source
  | with_reducible exact Facts.na_Parts_rows
  | with_reducible exact Facts.na_Order_parts
  | with_reducible exact Facts.na_Order_order
  | with_reducible exact Facts.na_Order_needed)
local macro_rules | `(tactic| walk_at "ty") => `(tactic| first
  | with_reducible exact ty_int
  | with_reducible exact ty_bl
  | with_reducible exact ty_str
  | with_reducible exact ty_non
  | ((with_reducible refine' ty_lst ?vv); (case vv => walk_at "tr"))
  | ((with_reducible refine' ty_sqT ?vv); (case vv => walk_at "tr"))
  | ((with_reducible refine' ty_dic ?vv); (case vv => walk_at "tr")))
local macro_rules | `(tactic| walk_at "ix") => `(tactic| first | exact at0 | exact at1 | exact at2 | assumption)
local macro_rules | `(tactic| walk_at "size") => `(tactic| first
  | assumption
  | (show _ < sizeLine; rw [sizeLine_eq]; (try simp only [List.length_cons, List.length_nil, List.length_append, List.length_map]); omega)
  | (show _ ≤ sizeLine; rw [sizeLine_eq]; (try simp only [List.length_cons, List.length_nil, List.length_append, List.length_map]); omega))
local macro_rules | `(tactic| walk_at "side") => `(tactic| first
  | assumption
  | ((with_reducible refine cdw ?_ ?_) <;> omega)
  | omega
  | (exact ⟨by omega, by omega⟩)
  | (exact Or.inl ⟨by omega, by omega⟩)
  | (exact Or.inr ⟨by omega, by omega⟩)
  | decide
  | (simp only [List.length_cons, List.length_nil, List.length_append, List.length_map]; omega)
  | (show _ ≤ _; decide))
local macro_rules | `(tactic| walk_at "as") => `(tactic| with_reducible assumption)
local macro_rules | `(tactic| walk_at "tr") => `(tactic| first
  | with_reducible assumption
  | with_reducible exact upd_same
  | ((with_reducible refine' SqL.of ?hh); (case hh => walk_at "as"))
  | ((with_reducible refine' SqT.of ?hh); (case hh => walk_at "as"))
  | ((with_reducible refine' Same.stm ?ee ?gg); (case ee => walk_at "as"); (case gg => walk_at "tr"))
  | ((with_reducible refine' Same.sqT ?ee ?gg); (case ee => walk_at "as"); (case gg => walk_at "tr"))
  | ((with_reducible refine' Same.sqL ?ee ?gg); (case ee => walk_at "as"); (case gg => walk_at "tr"))
  | ((with_reducible refine' Same.at ?ee ?gg); (case ee => walk_at "as"); (case gg => walk_at "tr"))
  | ((with_reducible refine' But.stm ?ee ?ff ?gg); (case ee => walk_at "as"); (case ff => walk_at "ne"); (case gg => walk_at "tr"))
  | ((with_reducible refine' But.tup ?ee ?ff ?gg); (case ee => walk_at "as"); (case ff => walk_at "tr1"); (case gg => walk_at "tr"))
  | ((with_reducible refine' But.sqT ?ee ?ff ?gg); (case ee => walk_at "as"); (case ff => walk_at "tr1"); (case gg => walk_at "tr"))
  | ((with_reducible refine' But.tupL ?ee ?ff ?gg); (case ee => walk_at "as"); (case ff => walk_at "tr1"); (case gg => walk_at "tr"))
  | ((with_reducible refine' But.sqTL ?ee ?ff ?gg); (case ee => walk_at "as"); (case ff => walk_at "tr1"); (case gg => walk_at "tr"))
  | ((with_reducible refine' But.sqL ?ee ?ff ?gg); (case ee => walk_at "as"); (case ff => walk_at "ne"); (case gg => walk_at "tr"))
  | ((with_reducible refine' But.at ?ee ?ff ?gg); (case ee => walk_at "as"); (case ff => walk_at "ne"); (case gg => walk_at "tr")))
local macro_rules | `(tactic| walk_at "ts") => `(tactic| first
  | with_reducible assumption
  | with_reducible exact TS.refl _
  | ((with_reducible refine' TS.trans ?gg (TS.of ?ee)); (case ee => walk_at "as"); (case gg => walk_at "ts"))
  | ((with_reducible refine' TS.trans ?gg (TS.butS ?ee ?ff)); (case ee => walk_at "as"); (case ff => walk_at "tr1"); (case gg => walk_at "ts"))
  | ((with_reducible refine' TS.trans ?gg (TS.butL ?ee ?ff)); (case ee => walk_at "as"); (case ff => walk_at "tr1"); (case gg => walk_at "ts"))
  | ((with_reducible refine' TS.trans ?gg (TS.butI ?ee ?ff)); (case ee => walk_at "as"); (case ff => walk_at "tr1"); (case gg => walk_at "ts")))
local macro_rules | `(tactic| walk_at "sm") => `(tactic| first
  | with_reducible assumption
  | with_reducible exact Same.refl _
  | ((with_reducible refine' Same.trans ?gg ?ee); (case ee => walk_at "as"); (case gg => walk_at "sm"))
  | ((with_reducible refine' But.new ?gg ?nn ?ee); (case ee => walk_at "as"); (case nn => walk_at "fr"); (case gg => walk_at "sm")))
local macro_rules | `(tactic| walk_at "fr") => `(tactic| first
  | with_reducible assumption
  | ((with_reducible refine' Same.back ?ee ?nn); (case nn => walk_at "as"); (case ee => walk_at "sm"))
  | ((with_reducible refine' But.back ?ee ?ff ?nn); (case nn => walk_at "as"); (case ff => walk_at "ne0"); (case ee => walk_at "bu")))
local macro_rules | `(tactic| walk_at "bu") => `(tactic| first
  | with_reducible assumption
  | with_reducible exact But.refl _ _
  | ((with_reducible refine' But.trans ?gg ?ee); (case ee => walk_at "as"); (case gg => walk_at "bu"))
  | ((with_reducible refine' But.trans ?gg (But.of ?ee)); (case ee => walk_at "as"); (case gg => walk_at "bu"))
  | ((with_reducible refine' But.new2 ?gg ?nn ?ee); (case ee => walk_at "as"); (case nn => walk_at "frB"); (case gg => walk_at "bu")))
local macro_rules | `(tactic| walk_at "frB") => `(tactic| first
  | with_reducible assumption
  | ((with_reducible refine' Same.back ?ee ?nn); (case nn => walk_at "as"); (case ee => walk_at "sm"))
  | ((with_reducible refine' But.back' ?ee ?ff ?nn); (case nn => walk_at "as"); (case ee => walk_at "bu"); (case ff => walk_at "tr1")))
local macro_rules | `(tactic| walk_at "tr1") => `(tactic| first
  | with_reducible assumption
  | ((with_reducible refine' Same.stm ?ee ?gg); (case ee => walk_at "as"); (case gg => walk_at "tr1"))
  | ((with_reducible refine' Same.at ?ee ?gg); (case ee => walk_at "as"); (case gg => walk_at "tr1"))
  | ((with_reducible refine' But.at ?ee ?ff ?gg); (case ee => walk_at "as"); (case ff => walk_at "ne0"); (case gg => walk_at "tr1"))
  | ((with_reducible refine' But.stm ?ee ?ff ?gg); (case ee => walk_at "as"); (case ff => walk_at "ne0"); (case gg => walk_at "tr1")))
local macro_rules | `(tactic| walk_at "ne0") => `(tactic| first
  | with_reducible assumption
  | (with_reducible apply Ne.symm; with_reducible assumption))
local macro_rules | `(tactic| walk_at "ne") => `(tactic| first
  | with_reducible assumption
  | (with_reducible apply Ne.symm; with_reducible assumption)
  | ((with_reducible refine' stm_ne ?hh ?nn); (case nn => walk_at "as"); (case hh => walk_at "tr1"))
  | ((with_reducible refine' ne_of_none ?hh ?nn); (case nn => walk_at "as"); (case hh => walk_at "tr1"))
  | ((with_reducible apply Ne.symm); (with_reducible refine' ne_of_none ?hh ?nn); (case nn => walk_at "as"); (case hh => walk_at "tr1")))
local macro_rules | `(tactic| walk_at "v") => `(tactic| first
  | with_reducible refine w_seq ?_
  | ((with_reducible refine' w_var ?vv ?_); (case vv => exact rfl))
  | with_reducible refine w_c ?_
  | with_reducible refine w_op ?_
  | with_reducible refine w_asg ?_
  | with_reducible refine w_gName ?_
  | with_reducible refine w_ret ?_
  | with_reducible refine w_ifS ?_
  | with_reducible refine w_drop ?_
  | with_reducible refine w_next ?_
  | with_reducible refine w_cons ?_
  | with_reducible refine w_nil ?_
  | with_reducible refine w_call ?_
  | with_reducible refine w_cb ?_
  | with_reducible refine w_rI0 ?_
  | with_reducible refine w_addI ?_
  | with_reducible refine w_eqI ?_
  | with_reducible refine w_neI ?_
  | with_reducible refine w_eqS ?_
  | with_reducible refine w_neS ?_
  | with_reducible refine w_eqB ?_
  | with_reducible refine w_neB ?_
  | with_reducible refine w_chain ?_
  | with_reducible refine w_test ?_
  | with_reducible refine w_tB ?_
  | with_reducible refine w_bl ?_
  | ((with_reducible refine' w_mulI ?vv ?_); (case vv => walk_at "side"))
  | ((with_reducible refine' w_rI ?vv ?_); (case vv => walk_at "side"))
  | with_reducible refine w_int1 ?_
  | with_reducible refine w_int1b ?_
  | with_reducible refine w_tup ?_
  | with_reducible refine w_lst ?_
  | with_reducible refine w_un ?_
  | with_reducible refine w_rU ?_
  | with_reducible refine w_not ?_
  | with_reducible refine w_notV ?_
  | with_reducible refine w_ifE ?_
  | with_reducible refine w_nT ?_
  | with_reducible refine w_nF ?_
  | with_reducible refine iteT ?_
  | with_reducible refine iteF ?_
  | ((with_reducible refine' w_ixT ?vv ?ww ?_); (case vv => walk_at "tr"); (case ww => walk_at "ix"))
  | ((with_reducible refine' w_ixL ?vv ?ww ?_); (case vv => walk_at "tr"); (case ww => walk_at "ix"))
  | with_reducible refine w_gSub ?_
  | ((with_reducible refine' w_setL ?vv ?ww ?_); (case vv => walk_at "tr"); (case ww => first | rfl | decide | assumption))
  | ((with_reducible refine' w_lenL ?vv ?_); (case vv => walk_at "tr"))
  | ((with_reducible refine' w_lenT ?vv ?_); (case vv => walk_at "tr"))
  | with_reducible refine w_max2 ?_
  | with_reducible refine w_max3 ?_
  | with_reducible refine w_din ?_
  | with_reducible refine w_dnotin ?_
  | with_reducible refine w_dput ?_
  | with_reducible refine w_min2 ?_
  | with_reducible refine w_bm ?_
  | with_reducible refine w_bm0 ?_
  | ((with_reducible refine' w_tyL ?vv ?_); (case vv => walk_at "tr"))
  | ((with_reducible refine' w_append ?vv ?ww ?_); (case vv => walk_at "tr"); (case ww => walk_at "size"))
  | ((with_reducible refine' w_size ?vv ?_); (case vv => walk_at "size"))
  | with_reducible refine w_forL ?_
  | with_reducible refine w_forT ?_
  | with_reducible refine w_forR1 ?_
  | with_reducible refine w_forR2 ?_
  | with_reducible refine w_lcL ?_
  | with_reducible refine w_lcT ?_
  | with_reducible refine w_lcR1 ?_
  | with_reducible refine w_yes ?_
  | with_reducible refine w_sl ?_
  | with_reducible refine w_noPart ?_
  | with_reducible refine w_part ?_
  | with_reducible refine w_int ?_
  | ((with_reducible refine' w_slL ?vv ?_); (case vv => walk_at "tr"))
  | ((with_reducible refine' w_seqL ?vv ?ww ?_); (case vv => walk_at "tr"); (case ww => rfl))
  | ((with_reducible refine' w_seqT ?vv ?ww ?_); (case vv => walk_at "tr"); (case ww => rfl))
  | with_reducible refine w_gNil ?_
  | with_reducible refine w_gCons ?_
  | with_reducible refine w_forZ ?_
  | with_reducible refine w_forM ?_
  | with_reducible refine w_forE ?_
  | with_reducible refine w_forV ?_
  | with_reducible refine w_lcZ ?_
  | with_reducible refine w_lcE ?_
  | ((with_reducible refine' w_isi (b := true) ?vv ?ww ?_); (case vv => walk_at "ty"); (case ww => decide +kernel))
  | ((with_reducible refine' w_isi (b := false) ?vv ?ww ?_); (case vv => walk_at "ty"); (case ww => decide +kernel))
  | with_reducible refine w_revL ?_
  | with_reducible refine w_pairN ?_
  | with_reducible refine w_pairC ?_
  | with_reducible refine w_dget ?_
  | with_reducible refine w_met ?_
  | ((with_reducible refine' w_metAt ?vv ?ww ?_); (case vv => walk_at "tr"); (case ww => rfl))
  | with_reducible refine w_mkI ?_
  | with_reducible refine w_fld ?_
  | ((with_reducible refine' w_fldAt ?vv ?cc ?nn ?ww ?_); (case vv => walk_at "tr"); (case cc => walk_at "cls"); (case nn => walk_at "na"); (case ww => rfl))
  | with_reducible refine w_sfld ?_
  | ((with_reducible refine' w_sfldAt ?vv ?cc ?nn ?ll ?ee ?_); (case vv => walk_at "tr"); (case cc => walk_at "cls"); (case nn => walk_at "na"); (case ll => simp); (case ee => rfl))
  | ((with_reducible refine' w_tupL ?vv ?_); (case vv => walk_at "tr"))
  | ((with_reducible refine' w_tupT ?vv ?_); (case vv => walk_at "tr"))
  | ((with_reducible refine' w_listL ?vv ?_); (case vv => walk_at "tr"))
  | ((with_reducible refine' w_listT ?vv ?_); (case vv => walk_at "tr"))
  | with_reducible refine w_tyS ?_
  | with_reducible refine w_retN ?_
  | with_reducible refine w_break ?_
  | with_reducible refine w_cont ?_)
local macro_rules | `(tactic| walk_at "w") => `(tactic| first
  | walk_at "v"
  | with_reducible refine w_or ?_
  | with_reducible refine w_and ?_
  | with_reducible refine w_andV ?_
  | with_reducible refine w_orV ?_)
local macro_rules | `(tactic| walk_at "wd") => `(tactic| first
  | walk_at "w"
  | ((with_reducible refine' w_decT ?vv ?_); (case vv => decide +kernel))
  | ((with_reducible refine' w_decF ?vv ?_); (case vv => decide +kernel)))
local macro_rules | `(tactic| walk_at "tz") => `(tactic| (intro S z; (repeat walk_at "w"); exact z))
local macro_rules | `(tactic| walk_at "wf") => `(tactic| first
  | walk_at "wd"
  | ((with_reducible refine' w_decF ?vv ?_); (case vv => with_reducible assumption)))
/-! ### the law's own needs -/
theorem lc_enum {K : PySem.W.Frag} {σ : L2.St} {H : Hp} {a : Addr} {xs : List V} {te : TE} {tt : TT} {Q : VK} {i0 j0 : Nat} (hij : i0 ≠ j0) (Pv : Addr → Nat → List V → Hp → Prop) (hx : SqL K H a xs) (h0 : ∀ D H', H D = none → Same H H' → H' D = some (.lst []) → Pv D 0 [] H')
    (hG : ∀ D, H D = none → ∀ i zs H', i ≤ xs.length → H' D = some (.lst zs) → Pv D i zs H' → SqL K H' a xs)
    (hs : ∀ D, H D = none → ∀ (i : Nat) x zs H0 H', xs[i]? = some x → zs.length ≤ i → H0 D = some (.lst zs) → Pv D i zs H0 → Same H0 H' → tt (((wipe σ [i0, j0]).set i0 (some (.int (i : Nat)))).set j0 (some x)) H' fun b H3 => if b = true then te (((wipe σ [i0, j0]).set i0 (some (.int (i : Nat)))).set j0 (some x)) H3 fun y H4 => LcEnd D (Pv D) i y H4 else LcSkip D (Pv D) i H3)
    (hd : ∀ D, H D = none → ∀ zs H', zs.length ≤ xs.length → H' D = some (.lst zs) → Pv D xs.length zs H' → Q (.ref D) H') :
    ∃ p us, [V.ref a] = [.ref p] ∧ SqL K H p us ∧ ∀ D, H D = none → WLc (Ite K p) (gSeq K 2 (gCons (gName i0) (gCons (gName j0) gNil))) tt te [i0, j0] σ D H Q :=
  ⟨a, xs, rfl, hx, wlc_it walk_enum Pv h0 hG (fun D hD i v zs H0 H' hi hl e p ⟨T, x, y, ev, nT, e2, h1, h2⟩ => by
    subst ev e2
    obtain rfl : V.int (i : Nat) = x := Option.some.inj h1
    exact w_seqT (SqT.of upd_same) rfl (w_gCons (w_gName (w_gCons (w_gName (w_gNil ⟨wipe2 _ _ _ _ _ hij, hs D hD i y zs H0 _ h2 hl e p (Same.one nT)⟩)))))) hd⟩
theorem need_le : ∀ e : Exp, e.need ≤ e.cnt
  | .num _ | .fld _ | .plc _ _ | .mrk _ _ => by simp [Exp.need, Exp.cnt]
  | .cell a => by have := need_le a; simp only [Exp.need, Exp.cnt]; omega
  | .two _ a b => by
    have := need_le a
    have := need_le b
    simp only [Exp.need, Exp.cnt]
    split <;> omega
theorem offs_fst1 : ∀ (es : List Exp) (b : Int), (offs es b).map Prod.fst = es
  | [], _ => rfl
  | e :: es, b => by rw [offs, List.map_cons, offs_fst1 es]
theorem topN_up (L : List ((Exp × Int) × Nat)) : ∀ (n j : Nat) p, j < n → L[j]? = some p → (j : Int) + (p.1.1.need : Nat) ≤ topN L n
  | 0, j, p, h, _ => by omega
  | n + 1, j, p, h, e => by
    rw [topN]
    by_cases z : j = n
    · subst z
      have : needAt L j = (p.1.1.need : Nat) := by unfold needAt; rw [e]
      omega
    · have := topN_up L n j p (by omega) e
      omega
def posN (es : List Exp) : List Int := (es.map fun e => ((e.need : Nat) : Int)).filter fun n => decide (n > 0)
theorem posN_pos (es : List Exp) (b : Int) : (pos es b).map (fun p => ((p.1.need : Nat) : Int)) = posN es := by
  unfold posN pos
  conv => rhs; rw [← offs_fst1 es b]
  rw [List.map_map, List.filter_map]
  congr 1
  refine List.filter_congr fun p _ => ?_
  show decide _ = decide _
  rw [decide_eq_decide]
  show (0 : Nat) < p.1.need ↔ ((p.1.need : Nat) : Int) > 0
  omega
theorem Srt.needs {ss : List SetE} {L : List ((Exp × Int) × Nat)} {xs : List Int} (h : Srt ss L) (hp : xs.Perm (posN (restsL ss))) (hw : xs.Pairwise (· ≤ ·)) : L.map (fun p => ((p.1.1.need : Nat) : Int)) = xs.reverse := by
  have h1 : (L.map fun p => ((p.1.1.need : Nat) : Int)).Perm (posN (restsL ss)) := by
    have := h.perm.map fun p => ((p.1.1.need : Nat) : Int)
    rw [← posN_pos _ 0]
    have e : ((pos (restsL ss) 0).zipIdx.map fun p => ((p.1.1.need : Nat) : Int)) = (pos (restsL ss) 0).map (fun p => ((p.1.need : Nat) : Int)) := by
      conv => rhs; rw [← List.zipIdx_map_fst 0 (pos (restsL ss) 0)]
      rw [List.map_map]; rfl
    rw [e] at this
    exact this
  refine sorted_uniq (R := fun a b : Int => b ≤ a) (h1.trans (hp.symm.trans (List.reverse_perm xs).symm)) (List.pairwise_map.mpr (h.pw.imp fun {a b} z => ?_)) (List.pairwise_reverse.mpr hw) fun a _ b _ h1 h2 => by omega
  unfold entI lexI at z
  by_cases g : (0 - ((b.1.1.need : Nat) : Int)) = 0 - ((a.1.1.need : Nat) : Int)
  · omega
  · rw [if_neg g, decide_eq_false_iff_not] at z
    omega
theorem Srt.top {ss : List SetE} {L : List ((Exp × Int) × Nat)} {xs : List Int} {m : Int} (h : Srt ss L) (e : L.map (fun p => ((p.1.1.need : Nat) : Int)) = xs) (hm : m = 0 ∨ ∃ (k : Nat) (x : Int), xs[k]? = some x ∧ m = x + k) (h0 : 0 ≤ m) (hy : ∀ (k : Nat) (x : Int), xs[k]? = some x → x + k ≤ m) : topN L L.length = m := by
  have ge := topN_ge0 L L.length
  have a : topN L L.length ≤ m := by
    rcases topN_att L L.length (Nat.le_refl _) with z | ⟨j, p, hj, hp, z⟩
    · omega
    · have := hy j ((p.1.1.need : Nat) : Int) (by rw [← e, List.getElem?_map, hp]; rfl)
      omega
  have b : m ≤ topN L L.length := by
    rcases hm with z | ⟨k, x, hx, z⟩
    · omega
    · rw [← e, List.getElem?_map] at hx
      obtain ⟨p, hp, hpx⟩ := Option.map_eq_some_iff.mp hx
      have := topN_up L L.length k p (List.getElem?_eq_some_iff.mp hp).1 hp
      omega
  omega
def addK (l : List Int) : List Int := l.zipIdx.map fun p => p.1 + (p.2 : Nat)
theorem addK_snoc (l : List Int) (x : Int) : addK (l ++ [x]) = addK l ++ [x + (l.length : Nat)] := by
  unfold addK; rw [List.zipIdx_append, List.map_append]; simp
theorem addK_len (l : List Int) : (addK l).length = l.length := by unfold addK; simp
theorem addK_mem {l : List Int} {k : Nat} {x : Int} (h : l[k]? = some x) : x + k ∈ addK l := by
  unfold addK
  exact List.mem_map.mpr ⟨(x, k), List.mem_zipIdx_iff_getElem?.mpr h, rfl⟩
theorem addK_ex {l : List Int} {m : Int} (h : m ∈ addK l) : ∃ (k : Nat) (x : Int), l[k]? = some x ∧ m = x + k := by
  unfold addK at h
  obtain ⟨p, hp, rfl⟩ := List.mem_map.mp h
  exact ⟨p.2, p.1, List.mem_zipIdx_iff_getElem?.mp hp, rfl⟩
def spLNeed (K : PySem.W.Frag) (n : Nat) : Sp := fun vs H Q _ => ∃ v e, vs = [v] ∧ Dp K H v (Exp.d e) ∧ OkE n e ∧ ∀ H', Same H H' → Q (.int (e.need : Nat)) H'
theorem len_law_need {K : PySem.W.Frag} {n : Nat} {vs H Q E} (h : spLNeed K n vs H Q E) : vs.length = 1 := by obtain ⟨_, _, rfl, _⟩ := h; rfl
theorem no_law_need {K : PySem.W.Frag} {vs H Q E} (h : spLNeed K 0 vs H Q E) : False := by obtain ⟨_, _, _, _, h, _⟩ := h; exact okE_0 h
def spTrees (K : PySem.W.Frag) : Sp := fun vs H Q _ => ∃ v ss, vs = [v] ∧ Dp K H v (setsD ss) ∧ ss.length ≤ 4 ∧ (∀ x ∈ ss, OkS 4 x) ∧ ∀ p us H', H' p = some (.lst us) → DpAll K H' us ((restsL ss).map Exp.d) → Same H H' → H p = none → Q (.ref p) H'
theorem len_law_trees {K : PySem.W.Frag} {vs H Q E} (h : spTrees K vs H Q E) : vs.length = 1 := by obtain ⟨_, _, rfl, _⟩ := h; rfl
def spLNeeds (K : PySem.W.Frag) : Sp := fun vs H Q _ => ∃ v ss, vs = [v] ∧ Dp K H v (setsD ss) ∧ ss.length ≤ 4 ∧ (∀ x ∈ ss, OkS 4 x) ∧ ∀ (m : Int) H', 0 ≤ m → m ≤ 100 → (∀ L, Srt ss L → topN L L.length = m) → Same H H' → Q (.int m) H'
theorem len_law_needs {K : PySem.W.Frag} {vs H Q E} (h : spLNeeds K vs H Q E) : vs.length = 1 := by obtain ⟨_, _, rfl, _⟩ := h; rfl
theorem restsL_len : ∀ {ss : List SetE}, ss.length ≤ 4 → (restsL ss).length ≤ 8 := by
  have key : ∀ ss : List SetE, (restsL ss).length ≤ 2 * ss.length := fun ss => by
    induction ss with
    | nil => exact Nat.le_refl _
    | cons s ss ih =>
      have e : restsL (s :: ss) = s.rests ++ restsL ss := List.flatMap_cons
      have : s.rests.length ≤ 2 := by cases s <;> simp [SetE.rests]
      rw [e, List.length_append, List.length_cons]; omega
  intro ss h
  have := key ss
  omega
section
variable {P : Program} {w : World} {K : PySem.W.Frag} {mg : Str → Option Value}
theorem in_two {a b s : Str} : inV (.str s) [.str a, .str b] = decide (s = a ∨ s = b) := by
  show ((a == s) || ((b == s) || false)) = _
  rw [Bool.or_false, Bool.eq_iff_iff, Bool.or_eq_true, beq_iff_eq, beq_iff_eq, decide_eq_true_eq]
  constructor
  · rintro (g | g)
    · exact .inl g.symm
    · exact .inr g.symm
  · rintro (g | g)
    · exact .inl g.symm
    · exact .inr g.symm
theorem ok_law_need [c : Facts K mg] : ∀ n : Nat, Fn P w K mg "_law_need" (n + 1) ["e"] ((spLNeed K n))
  | 0 => by
    obtain ⟨fd, F⟩ := c.d_law_need
    exact Fn.mk' (k := 0) F c.g_law_need sc_law_need (fun vs H Q E h => (no_law_need h).elim) (fun _ _ _ _ _ _ us hl => match us, hl with | [_], _ => rfl) (fun base cdv A outer s H vs Q E hr h => (no_law_need h).elim)
  | n + 1 => by
    have G__law_need := ok_law_need n
    obtain ⟨fd, F⟩ := c.d_law_need
    refine Fn.mk' F c.g_law_need sc_law_need (k := n + 1) (fun vs H Q E h => ?_) (fun _ _ _ _ _ _ us hl => match us, hl with | [_], _ => rfl) (fun base cdv A outer s H vs Q E hr h => ?_)
    · exact len_law_need h
    · have nd := sc_law_need.nd
      have hu := hu_of hr
      have hr__law_need : Room (n + 1) _ := hr.mono (by omega)
      refine ⟨_, (pss_cons (ps_if (pt_cmpR (op_inA (K := K) rfl) (pe_ix (ix_any (K := K) rfl) (pv 0) pe_int (fun _ _ => rfl)) (pe_lst (pa_cons pe_str (pa_cons pe_str pa_nil))) (by rfl)) (pss_one (ps_ret pe_int)) pss_nil)
      (pss_cons (ps_if (pt_cmpR (op_inA (K := K) rfl) (pe_ix (ix_any (K := K) rfl) (pv 0) pe_int (fun _ _ => rfl)) (pe_lst (pa_cons pe_str (pa_cons pe_str pa_nil))) (by rfl)) (pss_one (ps_ret pe_int)) pss_nil)
      (pss_cons (ps_set (i := 1) nd rfl (Or.inl rfl) (pe_callB cr_sorted (by rfl) c.f_sorted boot_sorted (pa_cons (pe_lc (own := [("one", 2)]) rfl nd (pi_tup (pe_slice (sl_any (K := K) rfl) (pv 0) (po_some pe_int) po_none)) (blkOk_by (N := N_law_need) (sc := defScope s_law_need) (by decide +kernel)) (fun _ _ _ _ _ => (pg_name (i := 2) nd rfl (Or.inl rfl))) (fun _ _ _ _ _ => pts_nil) (fun _ _ _ _ _ => (pe_fn G__law_need hr__law_need (by rfl) (pa_cons (pv 2) pa_nil)))) pa_nil)))
      (pss_cons (ps_if (PW.pt (pw_and (pt_cmpR (op_eqA (K := K) rfl hr.units) (pe_callB (call_lenA (K := K) rfl) (by rfl) c.f_len boot_len (pa_cons (pv 1) pa_nil)) pe_int (nomark _)) (pw_and1 (pt_cmpR (op_eqA (K := K) rfl hr.units) (pe_ix (ix_any (K := K) rfl) (pv 1) pe_int (fun _ _ => rfl)) (pe_ix (ix_any (K := K) rfl) (pv 1) pe_int (fun _ _ => rfl)) (nomark _))))) (pss_one (ps_ret (pe_op (op_addA (K := K) rfl) (pe_ix (ix_any (K := K) rfl) (pv 1) pe_int (fun _ _ => rfl)) pe_int))) pss_nil)
      (pss_one (ps_ret (pe_callB (call_max2A rfl) (by rfl) c.f_max boot_max (pa_cons pe_int (pa_cons (pe_ix (ix_any (K := K) rfl) (pv 1) (pe_un un_neg pe_int) (fun _ _ => rfl)) pa_nil))))))))), ?_⟩
      try dsimp only [cxOf, Cx.nox, Cx.wish]
      obtain ⟨v, e, rfl, hv, oe, q⟩ := h
      cases e with
      | num j =>
        obtain ⟨p, u, rfl, hp, hu'⟩ := exp_1 hv
        repeat walk_at "w"
        refine w_new fun p0 H0 n0 s0 f0 => ?_
        refine w_inL (SqL.of f0) rfl rfl ?_
        rw [in_two, decide_eq_true (by decide +kernel)]
        repeat walk_at "w"
        exact q H0 s0
      | fld j =>
        obtain ⟨p, u, rfl, hp, hu'⟩ := exp_1 hv
        repeat walk_at "w"
        refine w_new fun p0 H0 n0 s0 f0 => ?_
        refine w_inL (SqL.of f0) rfl rfl ?_
        rw [in_two, decide_eq_true (by decide +kernel)]
        repeat walk_at "w"
        exact q H0 s0
      | plc k j =>
        obtain ⟨p, u, rfl, hp, hu'⟩ := exp_1 hv
        repeat walk_at "w"
        refine w_new fun p0 H0 n0 s0 f0 => ?_
        refine w_inL (SqL.of f0) rfl rfl ?_
        rw [in_two, decide_eq_false (by decide +kernel)]
        have hp0 := s0.sqT hp
        repeat walk_at "w"
        refine w_new fun p1 H1 n1 s1 f1 => ?_
        refine w_inL (SqL.of f1) rfl rfl ?_
        rw [in_two, decide_eq_true (by decide +kernel)]
        repeat walk_at "w"
        exact q H1 (s0.trans s1)
      | mrk k j =>
        obtain ⟨p, u, rfl, hp, hu'⟩ := exp_1 hv
        repeat walk_at "w"
        refine w_new fun p0 H0 n0 s0 f0 => ?_
        refine w_inL (SqL.of f0) rfl rfl ?_
        rw [in_two, decide_eq_false (by decide +kernel)]
        have hp0 := s0.sqT hp
        repeat walk_at "w"
        refine w_new fun p1 H1 n1 s1 f1 => ?_
        refine w_inL (SqL.of f1) rfl rfl ?_
        rw [in_two, decide_eq_true (by decide +kernel)]
        repeat walk_at "w"
        exact q H1 (s0.trans s1)
      | cell a =>
        obtain ⟨p, u, rfl, hp, hu'⟩ := exp_1 hv
        repeat walk_at "w"
        refine w_new fun p0 H0 n0 s0 f0 => ?_
        refine w_inL (SqL.of f0) rfl rfl ?_
        rw [in_two, decide_eq_false (by decide +kernel)]
        have hp0 := s0.sqT hp
        repeat walk_at "w"
        refine w_new fun p1 H1 n1 s1 f1 => ?_
        refine w_inL (SqL.of f1) rfl rfl ?_
        rw [in_two, decide_eq_false (by decide +kernel)]
        have hp1 := s1.sqT hp0
        repeat walk_at "w"
        refine w_slT1 (σ := []) hp1 ?_
        refine w_new fun p2 H2 n2 s2 f2 => ?_
        have hu2 := dp_ts (TS.of (s0.trans (s1.trans s2))) _ _ a.tup hu'
        refine lc_T [u] (fun D i ys H' => Same H2 H' ∧ ys = ([V.int (a.need : Nat)]).take i) (SqT.of f2) (fun D H' hD e f => ⟨e, rfl⟩) (fun D hD i ys H' hi hy hp => SqT.of (hp.1 _ _ f2)) (fun D hD i x ys H' hx hll hy hp => ?_) (fun D hD ys H' hll hy hp => ?_)
        · obtain ⟨e2, rfl⟩ := hp
          match i, hx with
          | 0, hx =>
            cases Option.some.inj hx
            repeat walk_at "w"
            refine ⟨u, a, rfl, dp_ts (TS.of e2) _ _ a.tup hu2, okE_cell oe, fun H3 s3 => ?_⟩
            exact lc_end (s3 _ _ hy) hll (by rw [sizeLine_eq]; simp) fun H4 e4 f4 => ⟨But.new (e2.trans s3) hD e4, rfl⟩
          | i + 1, hx => simp at hx
        · obtain ⟨e2, rfl⟩ := hp
          repeat walk_at "w"
          refine ⟨D, [((a.need : Nat) : Int)], rfl, SqL.of hy, by simp, fun ns' p3 hpm hpw np => ?_⟩
          have e5 : ns' = [((a.need : Nat) : Int)] := List.perm_singleton.mp hpm
          subst e5
          have s4 := Same.one (o := .lst (([((a.need : Nat) : Int)]).map V.int)) np
          have f4 : (upd H' p3 (.lst (([((a.need : Nat) : Int)]).map V.int))) p3 = some (.lst [V.int (a.need : Nat)]) := upd_same
          generalize upd H' p3 (.lst (([((a.need : Nat) : Int)]).map V.int)) = H4 at s4 f4
          repeat walk_at "w"
          rw [decide_eq_false (show ¬ ((([V.int (a.need : Nat)].length : Nat) : Int) = 2) by simp)]
          repeat walk_at "w"
          refine w_ixL (v := .int (a.need : Nat)) (SqL.of f4) rfl ?_
          repeat walk_at "w"
          rw [show max (1 : Int) (a.need : Nat) = (((Exp.cell a).need : Nat) : Int) by simp only [Exp.need]; omega]
          exact q H4 (s0.trans (s1.trans (s2.trans (e2.trans s4))))
      | two o a b =>
        obtain ⟨p, u, u2, rfl, hp, hu', hu2'⟩ := exp_2 hv
        obtain ⟨oo, oa, ob⟩ := okE_two oe
        obtain ⟨n1, n2, n3, n4, n5⟩ := oo.ne
        repeat walk_at "w"
        refine w_new fun p0 H0 n0 s0 f0 => ?_
        refine w_inL (SqL.of f0) rfl rfl ?_
        rw [in_two, decide_eq_false (by simp [n1, n2])]
        have hp0 := s0.sqT hp
        repeat walk_at "w"
        refine w_new fun p1 H1 n1 s1 f1 => ?_
        refine w_inL (SqL.of f1) rfl rfl ?_
        rw [in_two, decide_eq_false (by simp [n3, n4])]
        have hp1 := s1.sqT hp0
        repeat walk_at "w"
        refine w_slT1 (σ := []) hp1 ?_
        refine w_new fun p2 H2 n2 s2 f2 => ?_
        have s02 := s0.trans (s1.trans s2)
        have hu2 := dp_ts (TS.of s02) _ _ a.tup hu'
        have hu3 := dp_ts (TS.of s02) _ _ b.tup hu2'
        refine lc_T [u, u2] (fun D i ys H' => Same H2 H' ∧ ys = ([V.int (a.need : Nat), V.int (b.need : Nat)]).take i) (SqT.of f2) (fun D H' hD e f => ⟨e, rfl⟩) (fun D hD i ys H' hi hy hp => SqT.of (hp.1 _ _ f2)) (fun D hD i x ys H' hx hll hy hp => ?_) (fun D hD ys H' hll hy hp => ?_)
        · obtain ⟨e2, rfl⟩ := hp
          match i, hx with
          | 0, hx =>
            cases Option.some.inj hx
            repeat walk_at "w"
            refine ⟨u, a, rfl, dp_ts (TS.of e2) _ _ a.tup hu2, oa, fun H3 s3 => ?_⟩
            exact lc_end (s3 _ _ hy) hll (by rw [sizeLine_eq]; simp) fun H4 e4 f4 => ⟨But.new (e2.trans s3) hD e4, rfl⟩
          | 1, hx =>
            cases Option.some.inj hx
            repeat walk_at "w"
            refine ⟨u2, b, rfl, dp_ts (TS.of e2) _ _ b.tup hu3, ob, fun H3 s3 => ?_⟩
            exact lc_end (s3 _ _ hy) hll (by rw [sizeLine_eq]; simp) fun H4 e4 f4 => ⟨But.new (e2.trans s3) hD e4, rfl⟩
          | i + 2, hx => simp at hx
        · obtain ⟨e2, rfl⟩ := hp
          repeat walk_at "w"
          refine ⟨D, [((a.need : Nat) : Int), ((b.need : Nat) : Int)], rfl, SqL.of hy, by simp, fun ns' p3 hpm hpw np => ?_⟩
          obtain ⟨x, y, rfl, hxy⟩ : ∃ x y : Int, ns' = [x, y] ∧ x ≤ y ∧ ((x = (a.need : Nat) ∧ y = (b.need : Nat)) ∨ (x = (b.need : Nat) ∧ y = (a.need : Nat))) := by
            have hl := hpm.length_eq
            match ns', hl with
            | [x, y], _ =>
              refine ⟨x, y, rfl, (List.pairwise_cons.mp hpw).1 y List.mem_cons_self, ?_⟩
              have hx := hpm.mem_iff.mp (List.mem_cons_self (a := x) (l := [y]))
              rcases List.mem_cons.mp hx with hx | hx
              · subst hx
                have := List.perm_singleton.mp ((List.perm_cons _).mp hpm)
                exact .inl ⟨rfl, by simpa using this⟩
              · have hx := List.mem_singleton.mp hx
                subst hx
                have := List.perm_singleton.mp ((List.perm_cons _).mp (hpm.trans (List.Perm.swap _ _ _)))
                exact .inr ⟨rfl, by simpa using this⟩
          have s4 := Same.one (o := .lst (([x, y]).map V.int)) np
          have f4 : (upd H' p3 (.lst (([x, y]).map V.int))) p3 = some (.lst [V.int x, V.int y]) := upd_same
          generalize upd H' p3 (.lst (([x, y]).map V.int)) = H4 at s4 f4
          have sH := s02.trans (e2.trans s4)
          repeat walk_at "v"
          refine w_andP ((([V.int x, V.int y].length : Nat) : Int) = 2) (x = y) (by walk_at "tz") (by walk_at "tz") (fun c hc => ?_)
          refine ite2 (fun h1 => ?_) (fun h1 => ?_)
          · have g := (hc.mp h1).2
            repeat walk_at "w"
            rw [show x + 1 = (((Exp.two o a b).need : Nat) : Int) by simp only [Exp.need]; split <;> omega]
            exact q H4 sH
          · have g : ¬ (x = y) := fun z => h1 (hc.mpr ⟨rfl, z⟩)
            repeat walk_at "w"
            refine w_ixL (v := .int y) (SqL.of f4) rfl ?_
            repeat walk_at "w"
            rw [show max (1 : Int) y = (((Exp.two o a b).need : Nat) : Int) by simp only [Exp.need]; rw [if_neg (by omega)]; omega]
            exact q H4 sH
theorem ok_law_trees [c : Facts K mg] : Fn P w K mg "_law_trees" 1 ["sets"] ((spTrees K)) := by
  obtain ⟨fd, F⟩ := c.d_law_trees
  refine Fn.mk' F c.g_law_trees sc_law_trees (k := 0) (fun vs H Q E h => ?_) (fun _ _ _ _ _ _ us hl => match us, hl with | [_], _ => rfl) (fun base cdv A outer s H vs Q E hr h => ?_)
  · exact len_law_trees h
  · have nd := sc_law_trees.nd
    have hu := hu_of hr
    refine ⟨_, (pss_cons (ps_set (i := 1) nd rfl (Or.inl rfl) (pe_lst pa_nil))
      (pss_cons (ps_for PassesOwn.never rfl (pi_tup (pv 0)) (pg_name (i := 2) nd rfl (Or.inl rfl)) (pss_cons (ps_if (pt_cmpR (op_eqA (K := K) rfl hr.units) (pe_ix (ix_any (K := K) rfl) (pv 2) pe_int (fun _ _ => rfl)) pe_str (nomark _)) (pss_one (ps_expr (pe_bm PySem.F.plainAttrs_list PySem.F.slot_list_append PySem.F.type_list_append mt_append (pv 1) (pa_cons (pe_ix (ix_any (K := K) rfl) (pv 2) pe_int (fun _ _ => rfl)) pa_nil)))) pss_nil)
      (pss_one (ps_expr (pe_bm PySem.F.plainAttrs_list PySem.F.slot_list_append PySem.F.type_list_append mt_append (pv 1) (pa_cons (pe_ix (ix_any (K := K) rfl) (pv 2) pe_int (fun _ _ => rfl)) pa_nil))))))
      (pss_one (ps_ret (pv 1))))), ?_⟩
    try dsimp only [cxOf, Cx.nox, Cx.wish]
    obtain ⟨v, ss, rfl, hv, hl, ho, q⟩ := h
    obtain ⟨a, xs, rfl, ha, hxs⟩ := set_d hv
    have hxl : xs.length = ss.length := by rw [dpa_len hxs, List.length_map]
    repeat walk_at "w"
    refine w_new fun tr H1 n1 s1 f1 => ?_
    repeat walk_at "w"
    refine fl_tup xs (fun i σ H' => ∃ us o, σ = [some (.ref a), some (.ref tr), o] ∧ But tr H1 H' ∧ H' tr = some (.lst us) ∧ DpAll K H' us ((restsL (ss.take i)).map Exp.d) ∧ us.length ≤ 2 * i) (s1.sqT ha)
      ⟨[], _, rfl, But.refl _ _, f1, .nil, Nat.le_refl _⟩ (fun i σ H' hi hp => ?_) (fun i x σ H' hi hp => ?_) (fun σ H' hp => ?_)
    · obtain ⟨us, o, rfl, b, _⟩ := hp
      exact (TS.butL b f1).sqT (s1.sqT ha)
    · obtain ⟨us, o, rfl, b, htr, hus, hul⟩ := hp
      have hi' : i < ss.length := by have := (List.getElem?_eq_some_iff.mp hi).1; omega
      obtain ⟨s, hs⟩ : ∃ s, ss[i]? = some s := ⟨_, List.getElem?_eq_getElem hi'⟩
      have hx : Dp K H' x s.d := by
        obtain ⟨d, hd1, hd2⟩ := dpa_at' (dpAll_ts ((TS.of s1).trans (TS.butL b f1)) _ _ (setsD_tup ss) hxs) hi
        rw [List.getElem?_map, hs] at hd1
        cases Option.some.inj hd1
        exact hd2
      have er : restsL (ss.take (i + 1)) = restsL (ss.take i) ++ s.rests := by
        rw [take_snoc hs]; unfold restsL; rw [List.flatMap_append]; simp
      rw [er, List.map_append]
      cases s with
      | cell e1 e2 =>
        obtain ⟨p, u, u2, rfl, hp, hu', hu2⟩ := exp_2 hx
        repeat walk_at "wf"
        refine w_chg fun H2 b2 f2 => ?_
        have t2 : TS H' H2 := TS.butL b2 htr
        have hp2 := t2.sqT hp
        repeat walk_at "w"
        refine w_chg fun H3 b3 f3 => ?_
        have t3 : TS H2 H3 := TS.butL b3 f2
        refine ⟨us ++ [u] ++ [u2], _, rfl, b.trans (b2.trans b3), f3, ?_, by rw [List.length_append, List.length_append, List.length_singleton, List.length_singleton]; omega⟩
        rw [List.append_assoc]
        exact dpa_app (dpAll_ts (t2.trans t3) _ _ (exps_tup _) hus) (.cons (dp_ts (t2.trans t3) _ _ e1.tup hu') (.cons (dp_ts (t2.trans t3) _ _ e2.tup hu2) .nil))
      | sel m k j e1 =>
        obtain ⟨p, u, u2, rfl, hp, hu', hu2⟩ := exp_2 hx
        have nc : (if m then ("mark" : Str) else "place") ≠ "cell" := by cases m <;> decide +kernel
        repeat walk_at "wf"
        refine w_chg fun H2 b2 f2 => ?_
        have t2 : TS H' H2 := TS.butL b2 htr
        refine ⟨us ++ [u2], _, rfl, b.trans b2, f2, ?_, by rw [List.length_append, List.length_singleton]; omega⟩
        exact dpa_app (dpAll_ts t2 _ _ (exps_tup _) hus) (.cons (dp_ts t2 _ _ e1.tup hu2) .nil)
    · obtain ⟨us, o, rfl, b, htr, hus, hul⟩ := hp
      rw [hxl, List.take_length] at hus
      repeat walk_at "w"
      exact q tr us H' htr hus (But.new s1 n1 b) n1
theorem ok_law_needs [c : Facts K mg] (G__law_need : Fn P w K mg "_law_need" 5 ["e"] ((spLNeed K 4))) (G__law_trees : Fn P w K mg "_law_trees" 1 ["sets"] ((spTrees K))) : Fn P w K mg "_law_needs" 6 ["sets"] ((spLNeeds K)) := by
  obtain ⟨fd, F⟩ := c.d_law_needs
  refine Fn.mk' F c.g_law_needs sc_law_needs (k := 5) (fun vs H Q E h => ?_) (fun _ _ _ _ _ _ us hl => match us, hl with | [_], _ => rfl) (fun base cdv A outer s H vs Q E hr h => ?_)
  · exact len_law_needs h
  · have nd := sc_law_needs.nd
    have hu := hu_of hr
    have hr__law_need : Room 5 _ := hr.mono (by omega)
    have hr__law_trees : Room 1 _ := hr.mono (by omega)
    refine ⟨_, (pss_cons (ps_setLc (i := 1) (own := [("tree", 2)]) rfl nd rfl rfl (sw_true rfl rfl rfl (by decide +kernel)) (pi_list (pe_fn G__law_trees hr__law_trees (by rfl) (pa_cons (pv 0) pa_nil))) (blkOk_by (N := N_law_needs) (sc := defScope s_law_needs) (by decide +kernel)) (fun _ _ _ _ _ => (pg_name (i := 2) nd rfl (Or.inl rfl))) (fun _ _ _ _ _ => pts_nil) (fun _ _ _ _ _ => (pe_fn G__law_need hr__law_need (by rfl) (pa_cons (pv 2) pa_nil))))
      (pss_cons (ps_set (i := 1) nd rfl (Or.inl rfl) (pe_listRev (K := K) rfl rfl (by rfl) c.f_list (by rfl) c.f_reversed (pe_callB cr_sorted (by rfl) c.f_sorted boot_sorted (pa_cons (pe_lc (own := [("need", 3)]) rfl nd (pi_list (pv 1)) (blkOk_by (N := N_law_needs) (sc := defScope s_law_needs) (by decide +kernel)) (fun _ _ _ _ _ => (pg_name (i := 3) nd rfl (Or.inl rfl))) (fun _ _ _ _ _ => pts_one (pt_cmpR op_gt (pv 3) pe_int (nomark _))) (fun _ _ _ _ _ => (pv 3))) pa_nil))))
      (pss_one (ps_ret (pe_callB (call_maxL (K := K) rfl rfl) (by rfl) c.f_max boot_max (pa_cons (pe_op (op_addA (K := K) rfl) (pe_lst (pa_cons pe_int pa_nil)) (pe_lc (own := [("k", 4), ("need", 3)]) rfl nd (pi_enum (by rfl) c.f_enumerate (pa_cons (pv 1) pa_nil)) (blkOk_by (N := N_law_needs) (sc := defScope s_law_needs) (by decide +kernel)) (fun _ _ _ _ _ => (pg_seq 2 (K := K) rfl rfl (pgs_cons (pg_name (i := 4) nd rfl (Or.inl rfl)) (pgs_cons (pg_name (i := 3) nd rfl (Or.inl rfl)) pgs_nil)))) (fun _ _ _ _ _ => pts_nil) (fun _ _ _ _ _ => (pe_op (op_addA (K := K) rfl) (pv 3) (pv 4))))) pa_nil)))))), ?_⟩
    try dsimp only [cxOf, Cx.nox, Cx.wish]
    obtain ⟨v, ss, rfl, hv, hl, ho, q⟩ := h
    repeat walk_at "w"
    refine ⟨v, ss, rfl, hv, hl, ho, fun tp us H1 htp hus s1 n1 => ?_⟩
    have oke : ∀ e ∈ restsL ss, OkE 4 e := fun e he => by
      obtain ⟨s, hs, hse⟩ := List.mem_flatMap.mp he
      exact okS_rests (ho s hs) e hse
    have rl : (restsL ss).length ≤ 8 := restsL_len hl
    have hul : us.length = (restsL ss).length := by rw [dpa_len hus, List.length_map]
    refine lc_L us (fun D i ys H' => Same H1 H' ∧ ys = (((restsL ss).take i).map fun e : Exp => V.int (e.need : Nat))) (SqL.of htp) (fun D H' hD e f => ⟨e, rfl⟩) (fun D hD i ys H' hi hy hp => SqL.of (hp.1 _ _ htp)) (fun D hD i x ys H' hx hll hy hp => ?_) (fun D hD ys H' hll hy hp => ?_)
    · obtain ⟨e2, rfl⟩ := hp
      obtain ⟨d, hd1, hd2⟩ := dpa_at' (dpAll_ts (TS.of e2) _ _ (exps_tup _) hus) hx
      rw [List.getElem?_map] at hd1
      obtain ⟨e, he, rfl⟩ := Option.map_eq_some_iff.mp hd1
      have hil := (List.getElem?_eq_some_iff.mp he).1
      repeat walk_at "w"
      refine ⟨x, e, rfl, hd2, oke e (List.mem_of_getElem? he), fun H3 s3 => ?_⟩
      refine lc_end (s3 _ _ hy) hll (by rw [sizeLine_eq]; omega) fun H4 e4 f4 => ⟨But.new (e2.trans s3) hD e4, ?_⟩
      rw [take_snoc he, List.map_append]; rfl
    · obtain ⟨e2, rfl⟩ := hp
      rw [hul, List.take_length] at hy
      repeat walk_at "w"
      refine w_listRev ?_
      repeat walk_at "w"
      refine lc_L ((restsL ss).map fun e : Exp => V.int (e.need : Nat)) (fun D' i ys H2 => Same H' H2 ∧ ys = (posN ((restsL ss).take i)).map V.int) (SqL.of hy) (fun D H' hD e f => ⟨e, rfl⟩) (fun D' hD i ys H2 hi hy2 hp => SqL.of (hp.1 _ _ hy)) (fun D' hD' i x ys H2 hx hll2 hy2 hp => ?_) (fun D' hD' ys H2 hll2 hy2 hp => ?_)
      · obtain ⟨e3, rfl⟩ := hp
        rw [List.getElem?_map] at hx
        obtain ⟨e, he, rfl⟩ := Option.map_eq_some_iff.mp hx
        have hil := (List.getElem?_eq_some_iff.mp he).1
        have ep : posN ((restsL ss).take (i + 1)) = posN ((restsL ss).take i) ++ (if ((e.need : Nat) : Int) > 0 then [((e.need : Nat) : Int)] else []) := by
          unfold posN
          rw [take_snoc he, List.map_append, List.filter_append]
          congr 1
          by_cases z : ((e.need : Nat) : Int) > 0
          · rw [if_pos z]
            show List.filter _ [_] = _
            rw [List.filter_cons, if_pos (decide_eq_true z)]; rfl
          · rw [if_neg z]
            show List.filter _ [_] = _
            rw [List.filter_cons, if_neg (by rw [decide_eq_false z]; decide)]; rfl
        repeat walk_at "w"
        refine ite2 (fun h1 => ?_) (fun h1 => ?_)
        · rw [decide_eq_true_eq] at h1
          repeat walk_at "w"
          refine lc_end hy2 hll2 (by rw [sizeLine_eq]; omega) fun H4 e4 f4 => ⟨But.new e3 hD' e4, ?_⟩
          rw [ep, if_pos h1, List.map_append]; rfl
        · rw [decide_eq_true_eq] at h1
          refine lc_skip hy2 hll2 ⟨e3, ?_⟩
          rw [ep, if_neg h1, List.append_nil]
      · obtain ⟨e3, rfl⟩ := hp
        simp only [List.length_map, List.take_length] at hll2 hy2
        repeat walk_at "w"
        refine ⟨D', posN (restsL ss), rfl, SqL.of hy2, by omega, fun ns' p3 hpm hpw np => ?_⟩
        have s4 := Same.one (o := .lst (ns'.map V.int)) np
        have f4 : (upd H2 p3 (.lst (ns'.map V.int))) p3 = some (.lst (ns'.map V.int)) := upd_same
        generalize upd H2 p3 (.lst (ns'.map V.int)) = H4 at s4 f4
        refine ⟨p3, _, rfl, SqL.of f4, ?_⟩
        rw [← List.map_reverse]
        refine w_new fun nd H5 n5 s5 f5 => ?_
        repeat walk_at "w"
        refine w_new fun zp H6 n6 s6 f6 => ?_
        repeat walk_at "w"
        have sH : Same H H6 := s1.trans (e2.trans (e3.trans (s4.trans (s5.trans s6))))
        have hnl : ns'.length ≤ 8 := by rw [hpm.length_eq]; omega
        refine lc_enum (by decide) (fun D i zs H' => Same H6 H' ∧ zs = (addK (ns'.reverse.take i)).map V.int) (SqL.of (s6 _ _ f5)) (fun D H' hD e f => ⟨e, rfl⟩) (fun D hD i zs H' hi hy hp => SqL.of (hp.1 _ _ (s6 _ _ f5))) (fun D hD i x zs H7 H8 hx hll3 hy3 hp s8 => ?_) (fun D hD zs H7 hll3 hy3 hp => ?_)
        · obtain ⟨e7, rfl⟩ := hp
          rw [List.getElem?_map] at hx
          obtain ⟨x, hx', rfl⟩ := Option.map_eq_some_iff.mp hx
          have hil := (List.getElem?_eq_some_iff.mp hx').1
          rw [List.length_reverse] at hil
          repeat walk_at "w"
          refine lc_end (s8 _ _ hy3) hll3 (by rw [sizeLine_eq]; omega) fun H9 e9 f9 => ⟨But.new (e7.trans s8) hD e9, ?_⟩
          rw [take_snoc hx', addK_snoc, List.map_append, List.length_take, List.length_reverse, Nat.min_eq_left (by omega)]; rfl
        · obtain ⟨e7, rfl⟩ := hp
          rw [List.length_map, List.take_length] at hy3
          refine w_addL (xs := [.int 0]) (e7 _ _ f6) hy3 (by rw [sizeLine_eq, List.length_map, addK_len, List.length_reverse]; simp; omega) ?_
          refine w_new fun mp H8 n8 s8 f8 => ?_
          repeat walk_at "w"
          refine w_maxL (ns := 0 :: addK ns'.reverse) (SqL.of f8) (by simp) fun m hm hmy => ?_
          have h0 := hmy 0 List.mem_cons_self
          have hall : ∀ (k : Nat) (x : Int), ns'.reverse[k]? = some x → x + k ≤ m := fun k x hx => hmy _ (List.mem_cons_of_mem _ (addK_mem hx))
          have hm2 : m = 0 ∨ ∃ (k : Nat) (x : Int), ns'.reverse[k]? = some x ∧ m = x + k := by
            rcases List.mem_cons.mp hm with z | z
            · exact .inl z
            · exact .inr (addK_ex z)
          refine q m H8 h0 ?_ (fun L srt => srt.top (srt.needs hpm hpw) hm2 h0 hall) (sH.trans (e7.trans s8))
          rcases hm2 with z | ⟨k, x, hx, z⟩
          · omega
          · have hk := (List.getElem?_eq_some_iff.mp hx).1
            rw [List.length_reverse] at hk
            have hxm := hpm.mem_iff.mp (List.mem_reverse.mp (List.mem_of_getElem? hx))
            have hxm2 := (List.mem_filter.mp hxm).1
            obtain ⟨e, he, rfl⟩ := List.mem_map.mp hxm2
            have := need_le e
            have := cnt4 (oke e he) (Nat.le_refl 4)
            omega
end

end J
namespace J
open PySem PySem.Spec PyProof.Rows L2
local macro_rules | `(tactic| walk_at "cls") => `(tactic| first
  | with_reducible exact Facts.cl_Step
  | with_reducible exact Facts.cl_Get
  | with_reducible exact Facts.cl_Ask
  | with_reducible exact Facts.cl_Cell
  | with_reducible exact Facts.cl_Two
  | with_reducible exact Facts.cl_Put
  | with_reducible exact Facts.cl_Tell
  | with_reducible exact Facts.cl_Store
  | with_reducible exact Facts.cl_Parts
  | with_reducible exact Facts.cl_Order)
local macro_rules | `(tactic| walk_at "na") => `(tactic| first
  | with_reducible exact Facts.na_Get_to
  | with_reducible exact Facts.na_Get_sel
  | with_reducible exact Facts.na_Ask_to
  | with_reducible exact Facts.na_Ask_sel
  | with_reducible exact Facts.na_Cell_to
  | with_reducible exact Facts.na_Cell_source
  | with_reducible exact Facts.na_Two_to
  | with_reducible exact Facts.na_Two_op
  | with_reducible exact Facts.na_Two_one
  | with_reducible exact Facts.na_Two_other
  | with_reducible exact Facts.na_Put_sel
  | with_reducible exact Facts.na_Put_source
  | with_reducible exact Facts.na_Tell_sel
  | with_reducible exact Facts.na_Tell_source
  | with_reducible exact Facts.na_Store_at
  | with_reducible exact Facts.na_Store_source
  | with_reducible exact Facts.na_Parts_rows
  | with_reducible exact Facts.na_Order_parts
  | with_reducible exact Facts.na_Order_order
  | with_reducible exact Facts.na_Order_needed)
local macro_rules | `(tactic| walk_at "ty") => `(tactic| first
  | with_reducible exact ty_int
  | with_reducible exact ty_bl
  | with_reducible exact ty_str
  | with_reducible exact ty_non
  | ((with_reducible refine' ty_lst ?vv); (case vv => walk_at "tr"))
  | ((with_reducible refine' ty_sqT ?vv); (case vv => walk_at "tr"))
  | ((with_reducible refine' ty_dic ?vv); (case vv => walk_at "tr")))
local macro_rules | `(tactic| walk_at "ix") => `(tactic| first | exact at0 | exact at1 | exact at2 | assumption)
local macro_rules | `(tactic| walk_at "size") => `(tactic| first
  | assumption
  | (show _ < sizeLine; rw [sizeLine_eq]; (try simp only [List.length_cons, List.length_nil, List.length_append, List.length_map]); omega)
  | (show _ ≤ sizeLine; rw [sizeLine_eq]; (try simp only [List.length_cons, List.length_nil, List.length_append, List.length_map]); omega))
local macro_rules | `(tactic| walk_at "side") => `(tactic| first
  | assumption
  | ((with_reducible refine cdw ?_ ?_) <;> omega)
  | omega
  | (exact ⟨by omega, by omega⟩)
  | (exact Or.inl ⟨by omega, by omega⟩)
  | (exact Or.inr ⟨by omega, by omega⟩)
  | decide
  | (simp only [List.length_cons, List.length_nil, List.length_append, List.length_map]; omega)
  | (show _ ≤ _; decide))
local macro_rules | `(tactic| walk_at "as") => `(tactic| with_reducible assumption)
local macro_rules | `(tactic| walk_at "tr") => `(tactic| first
  | with_reducible assumption
  | with_reducible exact upd_same
  | ((with_reducible refine' SqL.of ?hh); (case hh => walk_at "as"))
  | ((with_reducible refine' SqT.of ?hh); (case hh => walk_at "as"))
  | ((with_reducible refine' Same.stm ?ee ?gg); (case ee => walk_at "as"); (case gg => walk_at "tr"))
  | ((with_reducible refine' Same.sqT ?ee ?gg); (case ee => walk_at "as"); (case gg => walk_at "tr"))
  | ((with_reducible refine' Same.sqL ?ee ?gg); (case ee => walk_at "as"); (case gg => walk_at "tr"))
  | ((with_reducible refine' Same.at ?ee ?gg); (case ee => walk_at "as"); (case gg => walk_at "tr"))
  | ((with_reducible refine' But.stm ?ee ?ff ?gg); (case ee => walk_at "as"); (case ff => walk_at "ne"); (case gg => walk_at "tr"))
  | ((with_reducible refine' But.tup ?ee ?ff ?gg); (case ee => walk_at "as"); (case ff => walk_at "tr1"); (case gg => walk_at "tr"))
  | ((with_reducible refine' But.sqT ?ee ?ff ?gg); (case ee => walk_at "as"); (case ff => walk_at "tr1"); (case gg => walk_at "tr"))
  | ((with_reducible refine' But.tupL ?ee ?ff ?gg); (case ee => walk_at "as"); (case ff => walk_at "tr1"); (case gg => walk_at "tr"))
  | ((with_reducible refine' But.sqTL ?ee ?ff ?gg); (case ee => walk_at "as"); (case ff => walk_at "tr1"); (case gg => walk_at "tr"))
  | ((with_reducible refine' But.sqL ?ee ?ff ?gg); (case ee => walk_at "as"); (case ff => walk_at "ne"); (case gg => walk_at "tr"))
  | ((with_reducible refine' But.at ?ee ?ff ?gg); (case ee => walk_at "as"); (case ff => walk_at "ne"); (case gg => walk_at "tr")))
local macro_rules | `(tactic| walk_at "ts") => `(tactic| first
  | with_reducible assumption
  | with_reducible exact TS.refl _
  | ((with_reducible refine' TS.trans ?gg (TS.of ?ee)); (case ee => walk_at "as"); (case gg => walk_at "ts"))
  | ((with_reducible refine' TS.trans ?gg (TS.butS ?ee ?ff)); (case ee => walk_at "as"); (case ff => walk_at "tr1"); (case gg => walk_at "ts"))
  | ((with_reducible refine' TS.trans ?gg (TS.butL ?ee ?ff)); (case ee => walk_at "as"); (case ff => walk_at "tr1"); (case gg => walk_at "ts"))
  | ((with_reducible refine' TS.trans ?gg (TS.butI ?ee ?ff)); (case ee => walk_at "as"); (case ff => walk_at "tr1"); (case gg => walk_at "ts")))
local macro_rules | `(tactic| walk_at "sm") => `(tactic| first
  | with_reducible assumption
  | with_reducible exact Same.refl _
  | ((with_reducible refine' Same.trans ?gg ?ee); (case ee => walk_at "as"); (case gg => walk_at "sm"))
  | ((with_reducible refine' But.new ?gg ?nn ?ee); (case ee => walk_at "as"); (case nn => walk_at "fr"); (case gg => walk_at "sm")))
local macro_rules | `(tactic| walk_at "fr") => `(tactic| first
  | with_reducible assumption
  | ((with_reducible refine' Same.back ?ee ?nn); (case nn => walk_at "as"); (case ee => walk_at "sm"))
  | ((with_reducible refine' But.back ?ee ?ff ?nn); (case nn => walk_at "as"); (case ff => walk_at "ne0"); (case ee => walk_at "bu")))
local macro_rules | `(tactic| walk_at "bu") => `(tactic| first
  | with_reducible assumption
  | with_reducible exact But.refl _ _
  | ((with_reducible refine' But.trans ?gg ?ee); (case ee => walk_at "as"); (case gg => walk_at "bu"))
  | ((with_reducible refine' But.trans ?gg (But.of ?ee)); (case ee => walk_at "as"); (case gg => walk_at "bu"))
  | ((with_reducible refine' But.new2 ?gg ?nn ?ee); (case ee => walk_at "as"); (case nn => walk_at "frB"); (case gg => walk_at "bu")))
local macro_rules | `(tactic| walk_at "frB") => `(tactic| first
  | with_reducible assumption
  | ((with_reducible refine' Same.back ?ee ?nn); (case nn => walk_at "as"); (case ee => walk_at "sm"))
  | ((with_reducible refine' But.back' ?ee ?ff ?nn); (case nn => walk_at "as"); (case ee => walk_at "bu"); (case ff => walk_at "tr1")))
local macro_rules | `(tactic| walk_at "tr1") => `(tactic| first
  | with_reducible assumption
  | ((with_reducible refine' Same.stm ?ee ?gg); (case ee => walk_at "as"); (case gg => walk_at "tr1"))
  | ((with_reducible refine' Same.at ?ee ?gg); (case ee => walk_at "as"); (case gg => walk_at "tr1"))
  | ((with_reducible refine' But.at ?ee ?ff ?gg); (case ee => walk_at "as"); (case ff => walk_at "ne0"); (case gg => walk_at "tr1"))
  | ((with_reducible refine' But.stm ?ee ?ff ?gg); (case ee => walk_at "as"); (case ff => walk_at "ne0"); (case gg => walk_at "tr1")))
local macro_rules | `(tactic| walk_at "ne0") => `(tactic| first
  | with_reducible assumption
  | (with_reducible apply Ne.symm; with_reducible assumption))
local macro_rules | `(tactic| walk_at "ne") => `(tactic| first
  | with_reducible assumption
  | (with_reducible apply Ne.symm; with_reducible assumption)
  | ((with_reducible refine' stm_ne ?hh ?nn); (case nn => walk_at "as"); (case hh => walk_at "tr1"))
  | ((with_reducible refine' ne_of_none ?hh ?nn); (case nn => walk_at "as"); (case hh => walk_at "tr1"))
  | ((with_reducible apply Ne.symm); (with_reducible refine' ne_of_none ?hh ?nn); (case nn => walk_at "as"); (case hh => walk_at "tr1")))
local macro_rules | `(tactic| walk_at "v") => `(tactic| first
  | with_reducible refine w_seq ?_
  | ((with_reducible refine' w_var ?vv ?_); (case vv => exact rfl))
  | with_reducible refine w_c ?_
  | with_reducible refine w_op ?_
  | with_reducible refine w_asg ?_
  | with_reducible refine w_gName ?_
  | with_reducible refine w_ret ?_
  | with_reducible refine w_ifS ?_
  | with_reducible refine w_drop ?_
  | with_reducible refine w_next ?_
  | with_reducible refine w_cons ?_
  | with_reducible refine w_nil ?_
  | with_reducible refine w_call ?_
  | with_reducible refine w_cb ?_
  | with_reducible refine w_rI0 ?_
  | with_reducible refine w_addI ?_
  | with_reducible refine w_eqI ?_
  | with_reducible refine w_neI ?_
  | with_reducible refine w_eqS ?_
  | with_reducible refine w_neS ?_
  | with_reducible refine w_eqB ?_
  | with_reducible refine w_neB ?_
  | with_reducible refine w_chain ?_
  | with_reducible refine w_test ?_
  | with_reducible refine w_tB ?_
  | with_reducible refine w_bl ?_
  | ((with_reducible refine' w_mulI ?vv ?_); (case vv => walk_at "side"))
  | ((with_reducible refine' w_rI ?vv ?_); (case vv => walk_at "side"))
  | with_reducible refine w_int1 ?_
  | with_reducible refine w_int1b ?_
  | with_reducible refine w_tup ?_
  | with_reducible refine w_lst ?_
  | with_reducible refine w_un ?_
  | with_reducible refine w_rU ?_
  | with_reducible refine w_not ?_
  | with_reducible refine w_notV ?_
  | with_reducible refine w_ifE ?_
  | with_reducible refine w_nT ?_
  | with_reducible refine w_nF ?_
  | with_reducible refine iteT ?_
  | with_reducible refine iteF ?_
  | ((with_reducible refine' w_ixT ?vv ?ww ?_); (case vv => walk_at "tr"); (case ww => walk_at "ix"))
  | ((with_reducible refine' w_ixL ?vv ?ww ?_); (case vv => walk_at "tr"); (case ww => walk_at "ix"))
  | with_reducible refine w_gSub ?_
  | ((with_reducible refine' w_setL ?vv ?ww ?_); (case vv => walk_at "tr"); (case ww => first | rfl | decide | assumption))
  | ((with_reducible refine' w_lenL ?vv ?_); (case vv => walk_at "tr"))
  | ((with_reducible refine' w_lenT ?vv ?_); (case vv => walk_at "tr"))
  | with_reducible refine w_max2 ?_
  | with_reducible refine w_max3 ?_
  | with_reducible refine w_din ?_
  | with_reducible refine w_dnotin ?_
  | with_reducible refine w_dput ?_
  | with_reducible refine w_min2 ?_
  | with_reducible refine w_bm ?_
  | with_reducible refine w_bm0 ?_
  | ((with_reducible refine' w_tyL ?vv ?_); (case vv => walk_at "tr"))
  | ((with_reducible refine' w_append ?vv ?ww ?_); (case vv => walk_at "tr"); (case ww => walk_at "size"))
  | ((with_reducible refine' w_size ?vv ?_); (case vv => walk_at "size"))
  | with_reducible refine w_forL ?_
  | with_reducible refine w_forT ?_
  | with_reducible refine w_forR1 ?_
  | with_reducible refine w_forR2 ?_
  | with_reducible refine w_lcL ?_
  | with_reducible refine w_lcT ?_
  | with_reducible refine w_lcR1 ?_
  | with_reducible refine w_yes ?_
  | with_reducible refine w_sl ?_
  | with_reducible refine w_noPart ?_
  | with_reducible refine w_part ?_
  | with_reducible refine w_int ?_
  | ((with_reducible refine' w_slL ?vv ?_); (case vv => walk_at "tr"))
  | ((with_reducible refine' w_seqL ?vv ?ww ?_); (case vv => walk_at "tr"); (case ww => rfl))
  | ((with_reducible refine' w_seqT ?vv ?ww ?_); (case vv => walk_at "tr"); (case ww => rfl))
  | with_reducible refine w_gNil ?_
  | with_reducible refine w_gCons ?_
  | with_reducible refine w_forZ ?_
  | with_reducible refine w_forM ?_
  | with_reducible refine w_forE ?_
  | with_reducible refine w_forV ?_
  | with_reducible refine w_lcZ ?_
  | with_reducible refine w_lcE ?_
  | ((with_reducible refine' w_isi (b := true) ?vv ?ww ?_); (case vv => walk_at "ty"); (case ww => decide +kernel))
  | ((with_reducible refine' w_isi (b := false) ?vv ?ww ?_); (case vv => walk_at "ty"); (case ww => decide +kernel))
  | with_reducible refine w_revL ?_
  | with_reducible refine w_pairN ?_
  | with_reducible refine w_pairC ?_
  | with_reducible refine w_dget ?_
  | with_reducible refine w_met ?_
  | ((with_reducible refine' w_metAt ?vv ?ww ?_); (case vv => walk_at "tr"); (case ww => rfl))
  | with_reducible refine w_mkI ?_
  | with_reducible refine w_fld ?_
  | ((with_reducible refine' w_fldAt ?vv ?cc ?nn ?ww ?_); (case vv => walk_at "tr"); (case cc => walk_at "cls"); (case nn => walk_at "na"); (case ww => rfl))
  | with_reducible refine w_sfld ?_
  | ((with_reducible refine' w_sfldAt ?vv ?cc ?nn ?ll ?ee ?_); (case vv => walk_at "tr"); (case cc => walk_at "cls"); (case nn => walk_at "na"); (case ll => simp); (case ee => rfl))
  | ((with_reducible refine' w_tupL ?vv ?_); (case vv => walk_at "tr"))
  | ((with_reducible refine' w_tupT ?vv ?_); (case vv => walk_at "tr"))
  | ((with_reducible refine' w_listL ?vv ?_); (case vv => walk_at "tr"))
  | ((with_reducible refine' w_listT ?vv ?_); (case vv => walk_at "tr"))
  | with_reducible refine w_tyS ?_
  | with_reducible refine w_retN ?_
  | with_reducible refine w_break ?_
  | with_reducible refine w_cont ?_)
local macro_rules | `(tactic| walk_at "w") => `(tactic| first
  | walk_at "v"
  | with_reducible refine w_or ?_
  | with_reducible refine w_and ?_
  | with_reducible refine w_andV ?_
  | with_reducible refine w_orV ?_)
local macro_rules | `(tactic| walk_at "wd") => `(tactic| first
  | walk_at "w"
  | ((with_reducible refine' w_decT ?vv ?_); (case vv => decide +kernel))
  | ((with_reducible refine' w_decF ?vv ?_); (case vv => decide +kernel)))
local macro_rules | `(tactic| walk_at "tz") => `(tactic| (intro S z; (repeat walk_at "w"); exact z))
local macro_rules | `(tactic| walk_at "wf") => `(tactic| first
  | walk_at "wd"
  | ((with_reducible refine' w_decF ?vv ?_); (case vv => with_reducible assumption)))
section
variable {P : Program} {w : World} {K : PySem.W.Frag} {mg : Str → Option Value}
theorem ok_law_own [c : Facts K mg] : Fn P w K mg "_law_own" 1 ["part"] ((spOwnP K)) := by
  obtain ⟨fd, F⟩ := c.d_law_own
  refine Fn.mk' F c.g_law_own sc_law_own (k := 0) (fun vs H Q E h => ?_) (fun _ _ _ _ _ _ us hl => match us, hl with | [_], _ => rfl) (fun base cdv A outer s H vs Q E hr h => ?_)
  · exact len_law_own h
  · have nd := sc_law_own.nd
    have hu := hu_of hr
    refine ⟨_, (pss_cons (ps_if (pt_cmpR (op_inA (K := K) rfl) (pe_ix (ix_any (K := K) rfl) (pv 0) pe_int (fun _ _ => rfl)) (pe_lst (pa_cons pe_str (pa_cons pe_str pa_nil))) (by rfl)) (pss_one (ps_ret (pe_lst pa_nil))) pss_nil)
      (pss_one (ps_ret (pe_lc (own := [("one", 1)]) rfl nd (pi_tup (pe_slice (sl_any (K := K) rfl) (pv 0) (po_some pe_int) po_none)) (blkOk_by (N := N_law_own) (sc := defScope s_law_own) (by decide +kernel)) (fun _ _ _ _ _ => (pg_name (i := 1) nd rfl (Or.inl rfl))) (fun _ _ _ _ _ => pts_one (pt_val (pe_callB (call_isiA (K := K) rfl) (by rfl) c.f_isinstance boot_isinstance (pa_cons (pv 1) (pa_cons (pe_bltn (v := .ty "int") (by rfl) c.f_int boot_int rfl) pa_nil))))) (fun _ _ _ _ _ => (pv 1)))))), ?_⟩
    try dsimp only [cxOf, Cx.nox, Cx.wish]
    obtain ⟨v, d, rfl, hv, ⟨s, items, rfl, so, hi, l1, l2, hg⟩, q⟩ := h
    obtain ⟨p, us, rfl, hp, hus⟩ := exp_n hv
    have hul : us.length = items.length := dpa_len hus
    repeat walk_at "w"
    refine w_new fun p0 H0 n0 s0 f0 => ?_
    refine w_inL (SqL.of f0) rfl rfl ?_
    repeat walk_at "w"
    have e : inV (.str s) [.str "get", .str "ask"] = decide (s = "get" ∨ s = "ask") := by
      show (("get" : Str) == s || (("ask" : Str) == s || false)) = _
      rw [Bool.or_false, Bool.eq_iff_iff, Bool.or_eq_true, beq_iff_eq, beq_iff_eq, decide_eq_true_eq]
      constructor
      · rintro (g | g)
        · exact .inl g.symm
        · exact .inr g.symm
      · rintro (g | g)
        · exact .inl g.symm
        · exact .inr g.symm
    rw [e]
    refine ite2 (fun h1 => ?_) (fun h1 => ?_)
    · rw [decide_eq_true_eq] at h1
      repeat walk_at "w"
      refine w_new fun p1 H1 n1 s1 f1 => ?_
      refine q p1 H1 ?_ (s0.trans s1) (s0.free n1)
      rw [PRow.own, hg h1]; exact f1
    · have hp0 := s0.sqT hp
      have hus0 := dpAll_ts (TS.of s0) _ _ (items_all hi).1 hus
      repeat walk_at "w"
      refine w_slT1 (σ := []) hp0 ?_
      refine w_new fun p1 H1 n1 s1 f1 => ?_
      have hus1 := dpAll_ts (TS.of s1) _ _ (items_all hi).1 hus0
      refine lc_own (SqT.of f1) hus1 hi l2 (fun v d H' R it hd k => ?_) (fun v H' R k => ?_) (fun D H' hD e nD => q D H' hD (s0.trans (s1.trans e)) (s0.free (s1.free nD)))
      · repeat walk_at "w"
        cases it with
        | int n =>
          cases dp_int hd
          repeat walk_at "w"
          exact k
        | str _ =>
          cases dp_str hd
          repeat walk_at "w"
          exact k
        | pair _ _ =>
          obtain ⟨a, xs, rfl, ha, _⟩ := dp_tup hd
          repeat walk_at "w"
          exact k
      · repeat walk_at "w"
        exact k
end

end J
namespace J
open PySem PySem.Spec PyProof.Rows L2
local macro_rules | `(tactic| walk_at "cls") => `(tactic| first
  | with_reducible exact Facts.cl_Step
  | with_reducible exact Facts.cl_Get
  | with_reducible exact Facts.cl_Ask
  | with_reducible exact Facts.cl_Cell
  | with_reducible exact Facts.cl_Two
  | with_reducible exact Facts.cl_Put
  | with_reducible exact Facts.cl_Tell
  | with_reducible exact Facts.cl_Store
  | with_reducible exact Facts.cl_Parts
  | with_reducible exact Facts.cl_Order)
local macro_rules | `(tactic| walk_at "na") => `(tactic| first
  | with_reducible exact Facts.na_Get_to
  | with_reducible exact Facts.na_Get_sel
  | with_reducible exact Facts.na_Ask_to
  | with_reducible exact Facts.na_Ask_sel
  | with_reducible exact Facts.na_Cell_to
  | with_reducible exact Facts.na_Cell_source
  | with_reducible exact Facts.na_Two_to
  | with_reducible exact Facts.na_Two_op
  | with_reducible exact Facts.na_Two_one
  | with_reducible exact Facts.na_Two_other
  | with_reducible exact Facts.na_Put_sel
  | with_reducible exact Facts.na_Put_source
  | with_reducible exact Facts.na_Tell_sel
  | with_reducible exact Facts.na_Tell_source
  | with_reducible exact Facts.na_Store_at
  | with_reducible exact Facts.na_Store_source
  | with_reducible exact Facts.na_Parts_rows
  | with_reducible exact Facts.na_Order_parts
  | with_reducible exact Facts.na_Order_order
  | with_reducible exact Facts.na_Order_needed)
local macro_rules | `(tactic| walk_at "ty") => `(tactic| first
  | with_reducible exact ty_int
  | with_reducible exact ty_bl
  | with_reducible exact ty_str
  | with_reducible exact ty_non
  | ((with_reducible refine' ty_lst ?vv); (case vv => walk_at "tr"))
  | ((with_reducible refine' ty_sqT ?vv); (case vv => walk_at "tr"))
  | ((with_reducible refine' ty_dic ?vv); (case vv => walk_at "tr")))
local macro_rules | `(tactic| walk_at "ix") => `(tactic| first | exact at0 | exact at1 | exact at2 | assumption)
local macro_rules | `(tactic| walk_at "size") => `(tactic| first
  | assumption
  | (show _ < sizeLine; rw [sizeLine_eq]; (try simp only [List.length_cons, List.length_nil, List.length_append, List.length_map]); omega)
  | (show _ ≤ sizeLine; rw [sizeLine_eq]; (try simp only [List.length_cons, List.length_nil, List.length_append, List.length_map]); omega))
local macro_rules | `(tactic| walk_at "side") => `(tactic| first
  | assumption
  | ((with_reducible refine cdw ?_ ?_) <;> omega)
  | omega
  | (exact ⟨by omega, by omega⟩)
  | (exact Or.inl ⟨by omega, by omega⟩)
  | (exact Or.inr ⟨by omega, by omega⟩)
  | decide
  | (simp only [List.length_cons, List.length_nil, List.length_append, List.length_map]; omega)
  | (show _ ≤ _; decide))
local macro_rules | `(tactic| walk_at "as") => `(tactic| with_reducible assumption)
local macro_rules | `(tactic| walk_at "tr") => `(tactic| first
  | with_reducible assumption
  | with_reducible exact upd_same
  | ((with_reducible refine' SqL.of ?hh); (case hh => walk_at "as"))
  | ((with_reducible refine' SqT.of ?hh); (case hh => walk_at "as"))
  | ((with_reducible refine' Same.stm ?ee ?gg); (case ee => walk_at "as"); (case gg => walk_at "tr"))
  | ((with_reducible refine' Same.sqT ?ee ?gg); (case ee => walk_at "as"); (case gg => walk_at "tr"))
  | ((with_reducible refine' Same.sqL ?ee ?gg); (case ee => walk_at "as"); (case gg => walk_at "tr"))
  | ((with_reducible refine' Same.at ?ee ?gg); (case ee => walk_at "as"); (case gg => walk_at "tr"))
  | ((with_reducible refine' But.stm ?ee ?ff ?gg); (case ee => walk_at "as"); (case ff => walk_at "ne"); (case gg => walk_at "tr"))
  | ((with_reducible refine' But.tup ?ee ?ff ?gg); (case ee => walk_at "as"); (case ff => walk_at "tr1"); (case gg => walk_at "tr"))
  | ((with_reducible refine' But.sqT ?ee ?ff ?gg); (case ee => walk_at "as"); (case ff => walk_at "tr1"); (case gg => walk_at "tr"))
  | ((with_reducible refine' But.tupL ?ee ?ff ?gg); (case ee => walk_at "as"); (case ff => walk_at "tr1"); (case gg => walk_at "tr"))
  | ((with_reducible refine' But.sqTL ?ee ?ff ?gg); (case ee => walk_at "as"); (case ff => walk_at "tr1"); (case gg => walk_at "tr"))
  | ((with_reducible refine' But.sqL ?ee ?ff ?gg); (case ee => walk_at "as"); (case ff => walk_at "ne"); (case gg => walk_at "tr"))
  | ((with_reducible refine' But.at ?ee ?ff ?gg); (case ee => walk_at "as"); (case ff => walk_at "ne"); (case gg => walk_at "tr")))
local macro_rules | `(tactic| walk_at "ts") => `(tactic| first
  | with_reducible assumption
  | with_reducible exact TS.refl _
  | ((with_reducible refine' TS.trans ?gg (TS.of ?ee)); (case ee => walk_at "as"); (case gg => walk_at "ts"))
  | ((with_reducible refine' TS.trans ?gg (TS.butS ?ee ?ff)); (case ee => walk_at "as"); (case ff => walk_at "tr1"); (case gg => walk_at "ts"))
  | ((with_reducible refine' TS.trans ?gg (TS.butL ?ee ?ff)); (case ee => walk_at "as"); (case ff => walk_at "tr1"); (case gg => walk_at "ts"))
  | ((with_reducible refine' TS.trans ?gg (TS.butI ?ee ?ff)); (case ee => walk_at "as"); (case ff => walk_at "tr1"); (case gg => walk_at "ts")))
local macro_rules | `(tactic| walk_at "sm") => `(tactic| first
  | with_reducible assumption
  | with_reducible exact Same.refl _
  | ((with_reducible refine' Same.trans ?gg ?ee); (case ee => walk_at "as"); (case gg => walk_at "sm"))
  | ((with_reducible refine' But.new ?gg ?nn ?ee); (case ee => walk_at "as"); (case nn => walk_at "fr"); (case gg => walk_at "sm")))
local macro_rules | `(tactic| walk_at "fr") => `(tactic| first
  | with_reducible assumption
  | ((with_reducible refine' Same.back ?ee ?nn); (case nn => walk_at "as"); (case ee => walk_at "sm"))
  | ((with_reducible refine' But.back ?ee ?ff ?nn); (case nn => walk_at "as"); (case ff => walk_at "ne0"); (case ee => walk_at "bu")))
local macro_rules | `(tactic| walk_at "bu") => `(tactic| first
  | with_reducible assumption
  | with_reducible exact But.refl _ _
  | ((with_reducible refine' But.trans ?gg ?ee); (case ee => walk_at "as"); (case gg => walk_at "bu"))
  | ((with_reducible refine' But.trans ?gg (But.of ?ee)); (case ee => walk_at "as"); (case gg => walk_at "bu"))
  | ((with_reducible refine' But.new2 ?gg ?nn ?ee); (case ee => walk_at "as"); (case nn => walk_at "frB"); (case gg => walk_at "bu")))
local macro_rules | `(tactic| walk_at "frB") => `(tactic| first
  | with_reducible assumption
  | ((with_reducible refine' Same.back ?ee ?nn); (case nn => walk_at "as"); (case ee => walk_at "sm"))
  | ((with_reducible refine' But.back' ?ee ?ff ?nn); (case nn => walk_at "as"); (case ee => walk_at "bu"); (case ff => walk_at "tr1")))
local macro_rules | `(tactic| walk_at "tr1") => `(tactic| first
  | with_reducible assumption
  | ((with_reducible refine' Same.stm ?ee ?gg); (case ee => walk_at "as"); (case gg => walk_at "tr1"))
  | ((with_reducible refine' Same.at ?ee ?gg); (case ee => walk_at "as"); (case gg => walk_at "tr1"))
  | ((with_reducible refine' But.at ?ee ?ff ?gg); (case ee => walk_at "as"); (case ff => walk_at "ne0"); (case gg => walk_at "tr1"))
  | ((with_reducible refine' But.stm ?ee ?ff ?gg); (case ee => walk_at "as"); (case ff => walk_at "ne0"); (case gg => walk_at "tr1")))
local macro_rules | `(tactic| walk_at "ne0") => `(tactic| first
  | with_reducible assumption
  | (with_reducible apply Ne.symm; with_reducible assumption))
local macro_rules | `(tactic| walk_at "ne") => `(tactic| first
  | with_reducible assumption
  | (with_reducible apply Ne.symm; with_reducible assumption)
  | ((with_reducible refine' stm_ne ?hh ?nn); (case nn => walk_at "as"); (case hh => walk_at "tr1"))
  | ((with_reducible refine' ne_of_none ?hh ?nn); (case nn => walk_at "as"); (case hh => walk_at "tr1"))
  | ((with_reducible apply Ne.symm); (with_reducible refine' ne_of_none ?hh ?nn); (case nn => walk_at "as"); (case hh => walk_at "tr1")))
local macro_rules | `(tactic| walk_at "v") => `(tactic| first
  | with_reducible refine w_seq ?_
  | ((with_reducible refine' w_var ?vv ?_); (case vv => exact rfl))
  | with_reducible refine w_c ?_
  | with_reducible refine w_op ?_
  | with_reducible refine w_asg ?_
  | with_reducible refine w_gName ?_
  | with_reducible refine w_ret ?_
  | with_reducible refine w_ifS ?_
  | with_reducible refine w_drop ?_
  | with_reducible refine w_next ?_
  | with_reducible refine w_cons ?_
  | with_reducible refine w_nil ?_
  | with_reducible refine w_call ?_
  | with_reducible refine w_cb ?_
  | with_reducible refine w_rI0 ?_
  | with_reducible refine w_addI ?_
  | with_reducible refine w_eqI ?_
  | with_reducible refine w_neI ?_
  | with_reducible refine w_eqS ?_
  | with_reducible refine w_neS ?_
  | with_reducible refine w_eqB ?_
  | with_reducible refine w_neB ?_
  | with_reducible refine w_chain ?_
  | with_reducible refine w_test ?_
  | with_reducible refine w_tB ?_
  | with_reducible refine w_bl ?_
  | ((with_reducible refine' w_mulI ?vv ?_); (case vv => walk_at "side"))
  | ((with_reducible refine' w_rI ?vv ?_); (case vv => walk_at "side"))
  | with_reducible refine w_int1 ?_
  | with_reducible refine w_int1b ?_
  | with_reducible refine w_tup ?_
  | with_reducible refine w_lst ?_
  | with_reducible refine w_un ?_
  | with_reducible refine w_rU ?_
  | with_reducible refine w_not ?_
  | with_reducible refine w_notV ?_
  | with_reducible refine w_ifE ?_
  | with_reducible refine w_nT ?_
  | with_reducible refine w_nF ?_
  | with_reducible refine iteT ?_
  | with_reducible refine iteF ?_
  | ((with_reducible refine' w_ixT ?vv ?ww ?_); (case vv => walk_at "tr"); (case ww => walk_at "ix"))
  | ((with_reducible refine' w_ixL ?vv ?ww ?_); (case vv => walk_at "tr"); (case ww => walk_at "ix"))
  | with_reducible refine w_gSub ?_
  | ((with_reducible refine' w_setL ?vv ?ww ?_); (case vv => walk_at "tr"); (case ww => first | rfl | decide | assumption))
  | ((with_reducible refine' w_lenL ?vv ?_); (case vv => walk_at "tr"))
  | ((with_reducible refine' w_lenT ?vv ?_); (case vv => walk_at "tr"))
  | with_reducible refine w_max2 ?_
  | with_reducible refine w_max3 ?_
  | with_reducible refine w_din ?_
  | with_reducible refine w_dnotin ?_
  | with_reducible refine w_dput ?_
  | with_reducible refine w_min2 ?_
  | with_reducible refine w_bm ?_
  | with_reducible refine w_bm0 ?_
  | ((with_reducible refine' w_tyL ?vv ?_); (case vv => walk_at "tr"))
  | ((with_reducible refine' w_append ?vv ?ww ?_); (case vv => walk_at "tr"); (case ww => walk_at "size"))
  | ((with_reducible refine' w_size ?vv ?_); (case vv => walk_at "size"))
  | with_reducible refine w_forL ?_
  | with_reducible refine w_forT ?_
  | with_reducible refine w_forR1 ?_
  | with_reducible refine w_forR2 ?_
  | with_reducible refine w_lcL ?_
  | with_reducible refine w_lcT ?_
  | with_reducible refine w_lcR1 ?_
  | with_reducible refine w_yes ?_
  | with_reducible refine w_sl ?_
  | with_reducible refine w_noPart ?_
  | with_reducible refine w_part ?_
  | with_reducible refine w_int ?_
  | ((with_reducible refine' w_slL ?vv ?_); (case vv => walk_at "tr"))
  | ((with_reducible refine' w_seqL ?vv ?ww ?_); (case vv => walk_at "tr"); (case ww => rfl))
  | ((with_reducible refine' w_seqT ?vv ?ww ?_); (case vv => walk_at "tr"); (case ww => rfl))
  | with_reducible refine w_gNil ?_
  | with_reducible refine w_gCons ?_
  | with_reducible refine w_forZ ?_
  | with_reducible refine w_forM ?_
  | with_reducible refine w_forE ?_
  | with_reducible refine w_forV ?_
  | with_reducible refine w_lcZ ?_
  | with_reducible refine w_lcE ?_
  | ((with_reducible refine' w_isi (b := true) ?vv ?ww ?_); (case vv => walk_at "ty"); (case ww => decide +kernel))
  | ((with_reducible refine' w_isi (b := false) ?vv ?ww ?_); (case vv => walk_at "ty"); (case ww => decide +kernel))
  | with_reducible refine w_revL ?_
  | with_reducible refine w_pairN ?_
  | with_reducible refine w_pairC ?_
  | with_reducible refine w_dget ?_
  | with_reducible refine w_met ?_
  | ((with_reducible refine' w_metAt ?vv ?ww ?_); (case vv => walk_at "tr"); (case ww => rfl))
  | with_reducible refine w_mkI ?_
  | with_reducible refine w_fld ?_
  | ((with_reducible refine' w_fldAt ?vv ?cc ?nn ?ww ?_); (case vv => walk_at "tr"); (case cc => walk_at "cls"); (case nn => walk_at "na"); (case ww => rfl))
  | with_reducible refine w_sfld ?_
  | ((with_reducible refine' w_sfldAt ?vv ?cc ?nn ?ll ?ee ?_); (case vv => walk_at "tr"); (case cc => walk_at "cls"); (case nn => walk_at "na"); (case ll => simp); (case ee => rfl))
  | ((with_reducible refine' w_tupL ?vv ?_); (case vv => walk_at "tr"))
  | ((with_reducible refine' w_tupT ?vv ?_); (case vv => walk_at "tr"))
  | ((with_reducible refine' w_listL ?vv ?_); (case vv => walk_at "tr"))
  | ((with_reducible refine' w_listT ?vv ?_); (case vv => walk_at "tr"))
  | with_reducible refine w_tyS ?_
  | with_reducible refine w_retN ?_
  | with_reducible refine w_break ?_
  | with_reducible refine w_cont ?_)
local macro_rules | `(tactic| walk_at "w") => `(tactic| first
  | walk_at "v"
  | with_reducible refine w_or ?_
  | with_reducible refine w_and ?_
  | with_reducible refine w_andV ?_
  | with_reducible refine w_orV ?_)
local macro_rules | `(tactic| walk_at "wd") => `(tactic| first
  | walk_at "w"
  | ((with_reducible refine' w_decT ?vv ?_); (case vv => decide +kernel))
  | ((with_reducible refine' w_decF ?vv ?_); (case vv => decide +kernel)))
local macro_rules | `(tactic| walk_at "tz") => `(tactic| (intro S z; (repeat walk_at "w"); exact z))
local macro_rules | `(tactic| walk_at "wf") => `(tactic| first
  | walk_at "wd"
  | ((with_reducible refine' w_decF ?vv ?_); (case vv => with_reducible assumption)))
/-! ### the law's due steps -/
def stsD (l : List (List PyData)) : List PyData := l.map .tuple
def spDue (K : PySem.W.Frag) : Sp := fun vs H Q _ => ∃ v ss qo o many, vs = [v, .ref qo, .int ((many : Nat) : Int)] ∧ many ≤ 200 ∧ Dp K H v (setsD ss) ∧ ss.length ≤ 4 ∧ (∀ x ∈ ss, OkS 4 x) ∧ H qo = some (.lst (o.map V.int)) ∧ Full (ownF ss) (nOf ss) o ∧ (∀ k, sumO (ownF ss) (o.take k) ≤ (many : Int)) ∧
  ∀ q H' us, H' q = some (.lst us) → DpAll K H' us (stsD (dueF ss many o)) → Same H H' → H q = none → Q (.ref q) H'
theorem len_law_due {K : PySem.W.Frag} {vs H Q E} (h : spDue K vs H Q E) : vs.length = 3 := by obtain ⟨_, _, _, _, _, rfl, _⟩ := h; rfl
theorem stepD_one {to : Int} {inn : Int → Int} {s : Str} {x : PyData} : stepD to inn (.tuple [.str s, x]) = if s = "cell" then [.str "cell", .int to, srcD inn x] else [.str s, .int to, x] := rfl
theorem stepD_tup {to : Int} {inn : Int → Int} {d : PyData} (h : RowS d) : tupAll (stepD to inn d) = true := by
  rcases h with ⟨k, n, _, rfl⟩ | ⟨k, n, _, rfl⟩ | ⟨x, hx, rfl⟩ | ⟨o, x, y, _, hx, hy, rfl⟩
  · rw [stepD_one, if_neg (by decide +kernel)]
    simp [tupAll, tupD, tupD_sel]
  · rw [stepD_one, if_neg (by decide +kernel)]
    simp [tupAll, tupD, tupD_sel]
  · rw [stepD_one, if_pos rfl]
    simp [tupAll, tupD, srcD_tup hx]
  · simp [stepD, tupAll, tupD, srcD_tup hx, srcD_tup hy]
theorem givD_tup {inn : Int → Int} {s : SetE} {xs : List PyData} (h : ∀ x ∈ xs, IsSrc x) : tupAll (givD inn s xs) = true := by
  cases s with
  | cell a b =>
    match xs, h with
    | [], _ => rfl
    | [a1], _ => rfl
    | [x, y], h => simp [givD, tupAll, tupD, srcD_tup (h x List.mem_cons_self), srcD_tup (h y (List.mem_cons_of_mem _ List.mem_cons_self))]
    | a1 :: a2 :: a3 :: as, _ => rfl
  | sel m k n e =>
    match xs, h with
    | [], _ => rfl
    | [x], h => simp [givD, tupAll, tupD, tupD_sel, srcD_tup (h x List.mem_cons_self)]
    | a1 :: a2 :: as, _ => rfl
theorem tupAll_snoc : ∀ {ds : List PyData} {d : PyData}, tupAll ds = true → tupD d = true → tupAll (ds ++ [d]) = true
  | [], _, _, h => by simp [tupAll, h]
  | x :: xs, d, g, h => by
    rw [tupAll, Bool.and_eq_true] at g
    rw [List.cons_append, tupAll, g.1, tupAll_snoc g.2 h]; rfl
theorem stsD_snoc (l : List (List PyData)) (d : List PyData) : stsD (l ++ [d]) = stsD l ++ [.tuple d] := by unfold stsD; rw [List.map_append]; rfl
section
variable {P : Program} {w : World} {K : PySem.W.Frag} {mg : Str → Option Value}
theorem ok_law_due [c : Facts K mg] (G__law_giving : Fn P w K mg "_law_giving" 2 ["one", "root", "inner"] ((spLGiv K))) (G__law_own : Fn P w K mg "_law_own" 1 ["part"] ((spOwnP K))) (G__law_parts : Fn P w K mg "_law_parts" 6 ["sets"] ((spLP K))) (G__law_step : Fn P w K mg "_law_step" 2 ["part", "to", "inner"] ((spLStep K))) : Fn P w K mg "_law_due" 7 ["sets", "order", "many"] ((spDue K)) := by
  obtain ⟨fd, F⟩ := c.d_law_due
  refine Fn.mk' F c.g_law_due sc_law_due (k := 6) (fun vs H Q E h => ?_) (fun _ _ _ _ _ _ us hl => match us, hl with | [_, _, _], _ => rfl) (fun base cdv A outer s H vs Q E hr h => ?_)
  · exact len_law_due h
  · have nd := sc_law_due.nd
    have hu := hu_of hr
    have hr__law_giving : Room 2 _ := hr.mono (by omega)
    have hr__law_own : Room 1 _ := hr.mono (by omega)
    have hr__law_parts : Room 6 _ := hr.mono (by omega)
    have hr__law_step : Room 2 _ := hr.mono (by omega)
    refine ⟨_, (pss_cons (ps_asg (pe_fn G__law_parts hr__law_parts (by rfl) (pa_cons (pv 0) pa_nil)) (pg_seq 2 (K := K) rfl rfl (pgs_cons (pg_name (i := 3) nd rfl (Or.inl rfl)) (pgs_cons (pg_name (i := 4) nd rfl (Or.inl rfl)) pgs_nil))))
      (pss_cons (ps_setLc (i := 5) (own := [("place", 14)]) rfl nd rfl rfl (sw_true rfl rfl rfl (by decide +kernel)) (pi_range1 (by rfl) c.f_range (pa_cons (pv 2) pa_nil)) (blkOk_by (N := N_law_due) (sc := defScope s_law_due) (by decide +kernel)) (fun _ _ _ _ _ => (pg_name (i := 14) nd rfl (Or.inl rfl))) (fun _ _ _ _ _ => pts_nil) (fun _ _ _ _ _ => (pv 14)))
      (pss_cons (ps_set (i := 6) nd rfl (Or.inr rfl) pe_dnewK)
      (pss_cons (ps_set (i := 7) nd rfl (Or.inl rfl) (pe_lst pa_nil))
      (pss_cons (ps_set (i := 8) nd rfl (Or.inr rfl) pe_dnewK)
      (pss_cons (ps_for PassesOwn.never rfl (pi_list (pv 1)) (pg_name (i := 9) nd rfl (Or.inl rfl)) (pss_cons (ps_set (i := 10) nd rfl (Or.inl rfl) (pe_fn G__law_own hr__law_own (by rfl) (pa_cons (pe_ix (ix_any (K := K) rfl) (pv 3) (pv 9) (fun _ _ => rfl)) pa_nil)))
      (pss_cons (ps_if (pt_cmpR (op_neA (K := K) rfl hr.units) (pe_lc (own := [("one", 12)]) rfl nd (pi_list (pv 10)) (blkOk_by (N := N_law_due) (sc := defScope s_law_due) (by decide +kernel)) (fun _ _ _ _ _ => (pg_name (i := 12) nd rfl (Or.inl rfl))) (fun _ _ _ _ _ => pts_one (pt_cmpR (op_neA (K := K) rfl hr.units) (pe_dget hu (pv 8) (pe_dget hu (pv 6) (pv 12) (fun _ _ => rfl)) (fun _ _ => rfl)) (pv 12) (nomark _))) (fun _ _ _ _ _ => (pv 12))) (pe_lst pa_nil) (nomark _)) (pss_one (ps_ret pe_non)) pss_nil)
      (pss_cons (ps_set (i := 5) nd rfl (Or.inl rfl) (pe_op (op_addA (K := K) rfl) (pv 5) (pe_lc (own := [("one", 12)]) rfl nd (pi_list (pv 10)) (blkOk_by (N := N_law_due) (sc := defScope s_law_due) (by decide +kernel)) (fun _ _ _ _ _ => (pg_name (i := 12) nd rfl (Or.inl rfl))) (fun _ _ _ _ _ => pts_nil) (fun _ _ _ _ _ => (pe_dget hu (pv 6) (pv 12) (fun _ _ => rfl))))))
      (pss_cons (ps_set (i := 11) nd rfl (Or.inl rfl) (pe_ix (ix_any (K := K) rfl) (pv 5) pe_int (fun _ _ => rfl)))
      (pss_cons (ps_set (i := 5) nd rfl (Or.inl rfl) (pe_slice (sl_any (K := K) rfl) (pv 5) (po_some pe_int) po_none))
      (pss_cons (ps_expr (pe_bm PySem.F.plainAttrs_list PySem.F.slot_list_append PySem.F.type_list_append mt_append (pv 7) (pa_cons (pe_fn G__law_step hr__law_step (by rfl) (pa_cons (pe_ix (ix_any (K := K) rfl) (pv 3) (pv 9) (fun _ _ => rfl)) (pa_cons (pv 11) (pa_cons (pv 6) pa_nil)))) pa_nil)))
      (pss_cons (ps_dput hu (pv 6) (pv 9) (pv 11) rfl)
      (pss_one (ps_dput hu (pv 8) (pv 11) (pv 9) rfl))))))))))
      (pss_cons (ps_for PassesOwn.never rfl (pi_zipM (K := K) true false rfl (by rfl) c.f_zip (pa_cons (pv 0) (pa_cons (pv 4) pa_nil))) (pg_seq 2 (K := K) rfl rfl (pgs_cons (pg_name (i := 12) nd rfl (Or.inl rfl)) (pgs_cons (pg_name (i := 13) nd rfl (Or.inl rfl)) pgs_nil))) (pss_cons (ps_if (pt_cmpR (op_neA (K := K) rfl hr.units) (pe_lc (own := [("part", 15)]) rfl nd (pi_tup (pv 13)) (blkOk_by (N := N_law_due) (sc := defScope s_law_due) (by decide +kernel)) (fun _ _ _ _ _ => (pg_name (i := 15) nd rfl (Or.inl rfl))) (fun _ _ _ _ _ => pts_one (PW.pt (pw_and (pt_val (pe_callB (call_isiA (K := K) rfl) (by rfl) c.f_isinstance boot_isinstance (pa_cons (pv 15) (pa_cons (pe_bltn (v := .ty "int") (by rfl) c.f_int boot_int rfl) pa_nil)))) (pw_and1 (pt_cmpR (op_neA (K := K) rfl hr.units) (pe_dget hu (pv 8) (pe_dget hu (pv 6) (pv 15) (fun _ _ => rfl)) (fun _ _ => rfl)) (pv 15) (nomark _)))))) (fun _ _ _ _ _ => (pv 15))) (pe_lst pa_nil) (nomark _)) (pss_one (ps_ret pe_non)) pss_nil)
      (pss_one (ps_expr (pe_bm PySem.F.plainAttrs_list PySem.F.slot_list_append PySem.F.type_list_append mt_append (pv 7) (pa_cons (pe_fn G__law_giving hr__law_giving (by rfl) (pa_cons (pv 12) (pa_cons (pv 13) (pa_cons (pv 6) pa_nil)))) pa_nil))))))
      (pss_one (ps_ret (pv 7)))))))))), ?_⟩
    try dsimp only [cxOf, Cx.nox, Cx.wish]
    obtain ⟨v, ss, qo, o, many, rfl, hm, hv, hl, ho, hqo0, full, hup, q⟩ := h
    have hz : sizeLine = 16777216 := sizeLine_eq
    have hol : o.length ≤ 120 := by have := full.len; have := nOf_le ho hl; omega
    repeat walk_at "w"
    refine ⟨v, ss, rfl, hv, hl, ho, fun t l r H1 ht hP hR nl nr s1 nlr => ?_⟩
    have pk1 : PK K H1 l ss := ⟨hP, ho, hl⟩
    repeat walk_at "w"
    refine lc_R1 (fun D i ys H' => Same H1 H' ∧ ys = (rangeI i).map V.int) (by omega) (by omega) (fun D H' hD e f => ⟨e, rfl⟩) (fun D hD i ys H' hi hll hy hp => ?_) (fun fr hD ys H2 hll f2 hp => ?_)
    · obtain ⟨e, rfl⟩ := hp
      repeat walk_at "w"
      refine lc_end hy hll (by rw [hz]; omega) fun H4 e4 f4 => ⟨But.new e hD e4, ?_⟩
      unfold rangeI
      rw [List.range_succ, List.map_append, List.map_append]; rfl
    obtain ⟨s2, rfl⟩ := hp
    rw [Int.toNat_natCast] at f2
    repeat walk_at "w"
    refine w_dnew ?_
    refine w_new fun di H3 n3 s3 f3 => ?_
    repeat walk_at "w"
    refine w_new fun sp H4 n4 s4 f4 => ?_
    repeat walk_at "w"
    refine w_dnew ?_
    refine w_new fun hd H5 n5 s5 f5 => ?_
    repeat walk_at "w"
    have s15 : Same H1 H5 := s2.trans (s3.trans (s4.trans s5))
    have hqo5 : H5 qo = some (.lst (o.map V.int)) := s15 _ _ (s1 _ _ hqo0)
    have ndi : H1 di = none := s2.free n3
    have nsp : H1 sp = none := (s2.trans s3).free n4
    have nhd : H1 hd = none := (s2.trans (s3.trans s4)).free n5
    have hqo1 := s1 _ _ hqo0
    have nds : di ≠ sp := ne_of_none f3 n4
    have ndh : di ≠ hd := ne_of_none (s4 _ _ f3) n5
    have nsh : sp ≠ hd := ne_of_none f4 n5
    have nqd : qo ≠ di := ne_of_none hqo1 ndi
    have nqs : qo ≠ sp := ne_of_none hqo1 nsp
    have nqh : qo ≠ hd := ne_of_none hqo1 nhd
    have nfd : fr ≠ di := ne_of_none f2 n3
    have nfs : fr ≠ sp := ne_of_none (s3 _ _ f2) n4
    have nfh : fr ≠ hd := ne_of_none (s4 _ _ (s3 _ _ f2)) n5
    have f25 := s5 _ _ (s4 _ _ (s3 _ _ f2))
    have f35 := s5 _ _ (s4 _ _ f3)
    have f45 := s5 _ _ f4
    refine fl_list (o.map V.int) (fun i σ H' => ∃ fr o9 o10 o11 o12 o13 o14 o15 kvs hvs us, σ = [some v, some (.ref qo), some (.int ((many : Nat) : Int)), some (.ref l), some (.ref r), some (.ref fr), some (.ref di), some (.ref sp), some (.ref hd), o9, o10, o11, o12, o13, o14, o15] ∧
        H' fr = some (.lst ((sim ss many (o.take i)).free.map V.int)) ∧ fr ≠ di ∧ fr ≠ sp ∧ fr ≠ hd ∧ H' di = some (.dK kvs) ∧ kvs.length ≤ i ∧ (∀ j ∈ o.take i, valV kvs (.inl j) = some (.int ((sim ss many (o.take i)).inn j))) ∧
        H' hd = some (.dK hvs) ∧ hvs.length ≤ i ∧ (∀ j ∈ held (ownF ss) (o.take i).reverse, valV hvs (.inl ((sim ss many (o.take i)).inn j)) = some (.int j)) ∧
        H' sp = some (.lst us) ∧ DpAll K H' us (stsD (sim ss many (o.take i)).sts) ∧ tupAll (stsD (sim ss many (o.take i)).sts) = true ∧ us.length ≤ i ∧ H' qo = some (.lst (o.map V.int)) ∧ Same H1 H') (SqL.of hqo5)
      ⟨_, _, _, _, _, _, _, _, [], [], [], rfl, f25, nfd, nfs, nfh, f35, Nat.le_refl _, fun j hj => by simp at hj, f5, Nat.le_refl _, fun j hj => by simp [held] at hj, f45, .nil, rfl, Nat.le_refl _, hqo5, s15⟩ (fun i σ H' hi hp => ?_) (fun i x σ H' hx hp => ?_) (fun σ H' hp => ?_)
    · obtain ⟨_, _, _, _, _, _, _, _, _, _, _, _, _, _, _, _, _, _, _, _, _, _, _, _, _, _, g, _⟩ := hp
      exact SqL.of g
    · obtain ⟨fr, o9, o10, o11, o12, o13, o14, o15, kvs, hvs, us, rfl, hfr, nfd, nfs, nfh, hdi, hkl, hkn, hhd, hhl, hhn, hsp, hst, htp, hul, hqo, e⟩ := hp
      rw [List.getElem?_map] at hx
      obtain ⟨x, hx', rfl⟩ := Option.map_eq_some_iff.mp hx
      have bx := (full.mem x).mp (List.mem_of_getElem? hx')
      have hil := (List.getElem?_eq_some_iff.mp hx').1
      obtain ⟨to, frr, hf, e1, e2, e3, hnx, xno⟩ := sim_next full hup hx'
      have oh := own_held full hx'
      have oin : ∀ y ∈ ownF ss x, y ∈ o.take i := fun y hy => List.mem_reverse.mp (held_sub (oh y hy))
      obtain ⟨sl, _⟩ := simOk full hup i (by omega)
      have hsl : (sim ss many (o.take i)).free.length ≤ 200 := by omega
      obtain ⟨xs2, v2, hx2, ha2, hd2, hr2, hrs2, ho2⟩ := (pk1.sm e).at2 bx.1 bx.2
      have ol2 : (ownF ss x).length ≤ 2 := by
        rw [← ho2]
        obtain ⟨s', items, er, _, _, _, l2, _⟩ := hr2
        rw [er, PRow.own]
        exact Nat.le_trans (List.length_filterMap_le _ _) l2
      repeat walk_at "w"
      refine ⟨v2, _, rfl, hd2, hr2, fun w1 H7 f7 s7 n7 => ?_⟩
      rw [ho2] at f7
      have hdi7 := s7 _ _ hdi
      have hhd7 := s7 _ _ hhd
      repeat walk_at "w"
      refine lc_L ((ownF ss x).map V.int) (fun D j ys H'' => Same H7 H'' ∧ ys = []) (SqL.of f7) (fun D H'' hD e f => ⟨e, rfl⟩) (fun D hD j ys H'' hj hy hp => SqL.of (hp.1 _ _ f7)) (fun D hD j y ys H'' hyj hll hys hp2 => ?_) (fun D hD ys H8 hll hys hp2 => ?_)
      · obtain ⟨e8, rfl⟩ := hp2
        rw [List.getElem?_map] at hyj
        obtain ⟨y, hy', rfl⟩ := Option.map_eq_some_iff.mp hyj
        have hym := List.mem_of_getElem? hy'
        repeat walk_at "w"
        refine w_dgotI (e8 _ _ hdi7) (hkn y (oin y hym)) ?_
        repeat walk_at "w"
        refine w_dgotI (e8 _ _ hhd7) (hhn y (oh y hym)) ?_
        repeat walk_at "w"
        rw [decide_eq_true rfl, if_neg (by decide)]
        refine lc_skip hys hll ?_
        exact ⟨e8, rfl⟩
      · obtain ⟨e8, rfl⟩ := hp2
        repeat walk_at "w"
        refine w_new fun nn H9 n9 s9 f9 => ?_
        refine w_neIL (ns := []) (ms := []) (SqL.of (s9 _ _ hys)) (SqL.of f9) ?_
        rw [decide_eq_true rfl]
        have s79 := e8.trans s9
        have f79 := s79 _ _ f7
        have hdi9 := s79 _ _ hdi7
        repeat walk_at "w"
        refine lc_L ((ownF ss x).map V.int) (fun D j ys H'' => Same H9 H'' ∧ ys = (((ownF ss x).take j).map (sim ss many (o.take i)).inn).map V.int) (SqL.of f79) (fun D H'' hD e f => ⟨e, rfl⟩) (fun D hD j ys H'' hj hy hp => SqL.of (hp.1 _ _ f79)) (fun D hD j y ys H'' hyj hll hys hp2 => ?_) (fun D hD ys Ha hll hys hp2 => ?_)
        · obtain ⟨e8, rfl⟩ := hp2
          rw [List.getElem?_map] at hyj
          obtain ⟨y, hy', rfl⟩ := Option.map_eq_some_iff.mp hyj
          have hjl := (List.getElem?_eq_some_iff.mp hy').1
          repeat walk_at "w"
          refine w_dgotI (e8 _ _ hdi9) (hkn y (oin y (List.mem_of_getElem? hy'))) ?_
          refine lc_end hys hll (by rw [hz]; omega) fun Hb e9 f9 => ⟨But.new e8 hD e9, ?_⟩
          rw [take_snoc hy', List.map_append, List.map_append]; rfl
        · obtain ⟨e9a, rfl⟩ := hp2
          rw [List.length_map, List.take_length] at hys
          have s7a := s79.trans e9a
          refine w_addL (s7a _ _ (s7 _ _ hfr)) hys (by rw [hz, List.length_map, List.length_map, List.length_map]; omega) ?_
          rw [← List.map_append, hf]
          refine w_new fun fr2 Hb n_b s_b f_b => ?_
          rw [List.map_cons] at f_b
          repeat walk_at "w"
          rw [cut1]
          refine w_new fun fr3 Hc n_c s_c f_c => ?_
          have s7c : Same H' Hc := s7.trans (s7a.trans (s_b.trans s_c))
          obtain ⟨xs3, v3, hx3, ha3, hd3, hr3, hrs3, ho3⟩ := (pk1.sm (e.trans s7c)).at2 bx.1 bx.2
          have hdic := s7c _ _ hdi
          have hspc := s7c _ _ hsp
          have hhdc := s7c _ _ hhd
          have hqoc := s7c _ _ hqo
          repeat walk_at "w"
          refine ⟨v3, to, di, kvs, _, (sim ss many (o.take i)).inn, rfl, hd3, hrs3, hdic, fun j hj => hkn j (oin j (by rw [← ho3]; exact hj)), fun sv Hd hsv s_d => ?_⟩
          have hspd := s_d _ _ hspc
          have husl : us.length < 1000 := by omega
          repeat walk_at "w"
          refine w_chg fun He e_e f_e => ?_
          repeat walk_at "w"
          have hdie : He di = some (.dK kvs) := e_e _ _ nds (s_d _ _ hdic)
          have hhde : He hd = some (.dK hvs) := e_e _ _ nsh.symm (s_d _ _ hhdc)
          have sd0 : Same H' Hd := s7c.trans s_d
          refine ⟨di, _, rfl, DPut.k (k := .inl x) hdie (by rw [hz]; omega), ?_⟩
          have edf : But di He (upd He di (.dK (putK kvs (.inl x) (.int to)))) := But.upd _ _ _
          have fdf : (upd He di (.dK (putK kvs (.inl x) (.int to)))) di = some (.dK (putK kvs (.inl x) (.int to))) := upd_same
          generalize upd He di (.dK (putK kvs (.inl x) (.int to))) = Hf at edf fdf
          have hhdf : Hf hd = some (.dK hvs) := edf _ _ ndh.symm hhde
          repeat walk_at "w"
          refine ⟨hd, _, rfl, DPut.k (k := .inl to) hhdf (by rw [hz]; omega), ?_⟩
          have ehg : But hd Hf (upd Hf hd (.dK (putK hvs (.inl to) (.int x)))) := But.upd _ _ _
          have fhg : (upd Hf hd (.dK (putK hvs (.inl to) (.int x)))) hd = some (.dK (putK hvs (.inl to) (.int x))) := upd_same
          generalize upd Hf hd (.dK (putK hvs (.inl to) (.int x))) = Hg at ehg fhg
          have tg : TS Hd Hg := ((TS.butL e_e hspd).trans (IT.butD edf hdie).1).trans (IT.butD ehg hhdf).1
          have sg : Same H1 Hg := But.new (But.new (But.new (e.trans sd0) nsp e_e) ndi edf) nhd ehg
          have frg : Hg fr3 = some (.lst (frr.map V.int)) := by
            have n3s : fr3 ≠ sp := fun z => by rw [z] at n_c; rw [s_b _ _ (s7a _ _ (s7 _ _ hsp))] at n_c; cases n_c
            have n3d : fr3 ≠ di := fun z => by rw [z] at n_c; rw [s_b _ _ (s7a _ _ (s7 _ _ hdi))] at n_c; cases n_c
            have n3h : fr3 ≠ hd := fun z => by rw [z] at n_c; rw [s_b _ _ (s7a _ _ (s7 _ _ hhd))] at n_c; cases n_c
            exact ehg _ _ n3h (edf _ _ n3d (e_e _ _ n3s (s_d _ _ f_c)))
          have n3s : fr3 ≠ sp := fun z => by rw [z] at n_c; rw [s_b _ _ (s7a _ _ (s7 _ _ hsp))] at n_c; cases n_c
          have n3d : fr3 ≠ di := fun z => by rw [z] at n_c; rw [s_b _ _ (s7a _ _ (s7 _ _ hdi))] at n_c; cases n_c
          have n3h : fr3 ≠ hd := fun z => by rw [z] at n_c; rw [s_b _ _ (s7a _ _ (s7 _ _ hhd))] at n_c; cases n_c
          refine ⟨fr3, _, _, _, _, _, _, _, putK kvs (.inl x) (.int to), putK hvs (.inl to) (.int x), us ++ [sv], rfl, by rw [e1]; exact frg, n3d, n3s, n3h, ehg _ _ ndh fdf, ?_, fun j hj => ?_, fhg, ?_, fun j hj => ?_, ehg _ _ nsh (edf _ _ nds.symm f_e), ?_, ?_, by rw [List.length_append]; simpa using hul, ehg _ _ nqh (edf _ _ nqd (e_e _ _ nqs (sd0 _ _ hqo))), sg⟩
          · have := length_putK kvs (.inl x : Key) (V.int to)
            omega
          · rw [valV_put, e2]
            by_cases z : j = x
            · subst z; simp
            · rw [if_neg (fun g => z (by cases g; rfl))]
              rw [take_snoc hx'] at hj
              rcases List.mem_append.mp hj with g | g
              · rw [hkn j g]; simp [z]
              · exact (z (List.mem_singleton.mp g)).elim
          · have := length_putK hvs (.inl to : Key) (V.int x)
            omega
          · rw [valV_put, e2]
            by_cases z : j = x
            · subst z; simp
            · obtain ⟨g1, g2⟩ := hnx j hj z
              have g3 : (fun y => if y = x then to else (sim ss many (o.take i)).inn y) j = (sim ss many (o.take i)).inn j := if_neg z
              rw [g3, if_neg (fun g => g2 (Sum.inl.inj g))]
              exact hhn j g1
          · rw [e3, stsD_snoc]
            exact dpa_app (dpAll_ts ((TS.of sd0).trans tg) _ _ htp hst) (dpa_one (dp_ts tg _ _ (by rw [tupD]; exact stepD_tup hrs3) hsv))
          · rw [e3, stsD_snoc]
            exact tupAll_snoc htp (by rw [tupD]; exact stepD_tup hrs3)
    · obtain ⟨fr, o9, o10, o11, o12, o13, o14, o15, kvs, hvs, us, rfl, hfr, nfd, nfs, nfh, hdi, hkl, hkn, hhd, hhl, hhn, hsp, hst, htp, hul, hqo, e⟩ := hp
      rw [List.length_map, List.take_length] at hkn hst htp hhn
      rw [List.length_map] at hkl hul hhl
      obtain ⟨a, xs, rfl, ha, hxs⟩ := set_d hv
      have hxl : xs.length = ss.length := by rw [dpa_len hxs, List.length_map]
      obtain ⟨ys, hy, hyd, hyr, hyl⟩ := (hR.same e).len'
      rw [(proots_len ss [] ho).2] at hyl
      obtain ⟨rxs, hrx, _⟩ := hR.len'
      have nrs : r ≠ sp := fun z => by rw [z, nsp] at hrx; cases hrx
      have rk : ∀ {i : Nat} {s : SetE}, ss[i]? = some s → ∀ j ∈ intsD (parts s.rests (proots (ss.take i) []).2).1, j ∈ o ∧ j ∈ held (ownF ss) o.reverse := fun {i s} hs j hj => by
        obtain ⟨p, hp, hc, rfl⟩ := root_ints hs hj
        have ge := offs_ge hp
        exact ⟨(full.mem _).mpr ⟨by omega, by unfold nOf; omega⟩, root_held full hp hc⟩
      repeat walk_at "w"
      refine fl_zipM (xs := xs) (ys := ys) (fun i σ H9 => ∃ us o9 o10 o11 o12 o13 o14 o15, σ = [some (.ref a), some (.ref qo), some (.int ((many : Nat) : Int)), some (.ref l), some (.ref r), some (.ref fr), some (.ref di), some (.ref sp), some (.ref hd), o9, o10, o11, o12, o13, o14, o15] ∧ But sp H' H9 ∧ H9 sp = some (.lst us) ∧ us.length ≤ o.length + i ∧
          DpAll K H9 us (stsD ((sim ss many o).sts ++ (List.range i).map (givF ss (sim ss many o).inn))) ∧ tupAll (stsD ((sim ss many o).sts ++ (List.range i).map (givF ss (sim ss many o).inn))) = true) ((s1.trans e).sqT ha) (SqL.of hy)
        ⟨us, _, _, _, _, _, _, _, rfl, But.refl _ _, hsp, by omega, by simpa using hst, by simpa using htp⟩ (fun i σ H9 hi hp => ?_) (fun i x y T σ H8 H9 hx hyy hp nT s9 hT => ?_) (fun σ H9 hp => ?_)
      · obtain ⟨_, _, _, _, _, _, _, _, _, b, _⟩ := hp
        exact ⟨(TS.butL b hsp).sqT ((s1.trans e).sqT ha), SqL.of (b _ _ nrs hy)⟩
      · obtain ⟨us, o9, o10, o11, o12, o13, o14, o15, rfl, b, hsp8, hul8, hst8, htp8⟩ := hp
        have hi' : i < ss.length := by have := (List.getElem?_eq_some_iff.mp hx).1; omega
        obtain ⟨s, hs⟩ : ∃ s, ss[i]? = some s := ⟨_, List.getElem?_eq_getElem hi'⟩
        have os := ho s (List.mem_of_getElem? hs)
        have t9 : TS H' H9 := (TS.butL b hsp).trans (TS.of s9)
        have hxd : Dp K H9 x s.d := by
          obtain ⟨d, hd1, hd2⟩ := dpa_at' (dpAll_ts ((TS.of (s1.trans e)).trans t9) _ _ (setsD_tup ss) hxs) hx
          rw [List.getElem?_map, hs] at hd1
          cases Option.some.inj hd1
          exact hd2
        have hydd : Dp K H9 y (.tuple (J.parts s.rests (proots (ss.take i) []).2).1) := by
          obtain ⟨d, hd1, hd2⟩ := dpa_at' (dpAll_ts t9 _ _ (rows_all hyr).1 hyd) hyy
          rw [proots_at ss [] hs] at hd1
          cases Option.some.inj hd1
          exact hd2
        have hdi9 : H9 di = some (.dK kvs) := s9 _ _ (b _ _ nds hdi)
        have hhd9 : H9 hd = some (.dK hvs) := s9 _ _ (b _ _ nsh.symm hhd)
        have rks := rk hs
        have isr := parts_src s.rests (proots (ss.take i) []).2
        have l1 := parts_len1 s.rests (proots (ss.take i) []).2
        generalize hds : (J.parts s.rests (proots (ss.take i) []).2).1 = ds at hydd rks isr l1
        obtain ⟨yp, ws, rfl, hyp, hws⟩ := dp_tup hydd
        have hwl : ws.length = ds.length := dpa_len hws
        repeat walk_at "w"
        refine lc_T ws (fun D j zs H'' => Same H9 H'' ∧ zs = []) hyp (fun D H'' hD e f => ⟨e, rfl⟩) (fun D hD j zs H'' hj hy hp => hp.1.sqT hyp) (fun D hD j z zs H'' hzj hll hzs hp2 => ?_) (fun D hD zs Ha hll hzs hp2 => ?_)
        · obtain ⟨ea, rfl⟩ := hp2
          obtain ⟨d, hd1, hd2⟩ := dpa_at' (dpAll_ts (TS.of ea) _ _ (src_tup isr) hws) hzj
          have hdm := List.mem_of_getElem? hd1
          rcases isr d hdm with ⟨n, rfl⟩ | ⟨s', n, hs', rfl⟩
          · cases dp_int hd2
            have hn := rks n (List.mem_filterMap.mpr ⟨.int n, hdm, rfl⟩)
            repeat walk_at "w"
            refine w_dgotI (ea _ _ hdi9) (hkn n hn.1) ?_
            refine w_dgotI (ea _ _ hhd9) (hhn n hn.2) ?_
            repeat walk_at "w"
            rw [decide_eq_true rfl, if_neg (by decide)]
            refine lc_skip hzs hll ?_
            exact ⟨ea, rfl⟩
          · obtain ⟨b2, us2, rfl, hb2, _⟩ := dp_tup hd2
            repeat walk_at "w"
            refine lc_skip hzs hll ?_
            exact ⟨ea, rfl⟩
        · obtain ⟨ea, rfl⟩ := hp2
          repeat walk_at "w"
          refine w_new fun nn Hb n_b s_b f_b => ?_
          refine w_neIL (ns := []) (ms := []) (SqL.of (s_b _ _ hzs)) (SqL.of f_b) ?_
          rw [decide_eq_true rfl]
          have s9b := ea.trans s_b
          repeat walk_at "w"
          refine ⟨x, .ref yp, di, kvs, s, ds, (sim ss many o).inn, 4, rfl, dp_ts (TS.of s9b) _ _ s.tup hxd, os, dp_ts (TS.of s9b) _ _ (by rw [tupD]; exact src_tup isr) hydd, l1, isr, s9b _ _ hdi9, fun j hj => hkn j (rks j hj).1, fun sv Hc hsv s_c => ?_⟩
          have hspc := s_c _ _ (s9b _ _ (s9 _ _ hsp8))
          have hull : us.length < 1000 := by omega
          repeat walk_at "w"
          refine w_chg fun Hd e_d f_d => ?_
          repeat walk_at "w"
          have eg : givF ss (sim ss many o).inn i = givD (sim ss many o).inn s ds := by
            unfold givF
            rw [hs, ← hds]
          have td : TS H8 Hd := (TS.of (s9.trans (s9b.trans s_c))).trans (TS.butL e_d hspc)
          have ex : stsD ((sim ss many o).sts ++ (List.range (i + 1)).map (givF ss (sim ss many o).inn)) = stsD ((sim ss many o).sts ++ (List.range i).map (givF ss (sim ss many o).inn)) ++ [.tuple (givD (sim ss many o).inn s ds)] := by
            rw [List.range_succ, List.map_append, ← List.append_assoc, ← eg]
            exact stsD_snoc _ _
          refine ⟨us ++ [sv], _, _, _, _, _, _, _, rfl, (b.trans (But.of (s9.trans (s9b.trans s_c)))).trans e_d, f_d, by rw [List.length_append, List.length_singleton]; omega, ?_, ?_⟩
          · rw [ex]
            exact dpa_app (dpAll_ts td _ _ htp8 hst8) (dpa_one (dp_ts (TS.butL e_d hspc) _ _ (by rw [tupD]; exact givD_tup isr) hsv))
          · rw [ex]
            exact tupAll_snoc htp8 (by rw [tupD]; exact givD_tup isr)
      · obtain ⟨us, o9, o10, o11, o12, o13, o14, o15, rfl, b, hsp9, hul9, hst9, htp9⟩ := hp
        rw [hxl, hyl, Nat.min_self] at hst9
        repeat walk_at "w"
        exact q sp H9 us hsp9 hst9 (s1.trans (But.new e nsp b)) (s1.free nsp)
end

end J
namespace J
open PySem PySem.Spec PyProof.Rows L2
local macro_rules | `(tactic| walk_at "cls") => `(tactic| first
  | with_reducible exact Facts.cl_Step
  | with_reducible exact Facts.cl_Get
  | with_reducible exact Facts.cl_Ask
  | with_reducible exact Facts.cl_Cell
  | with_reducible exact Facts.cl_Two
  | with_reducible exact Facts.cl_Put
  | with_reducible exact Facts.cl_Tell
  | with_reducible exact Facts.cl_Store
  | with_reducible exact Facts.cl_Parts
  | with_reducible exact Facts.cl_Order)
local macro_rules | `(tactic| walk_at "na") => `(tactic| first
  | with_reducible exact Facts.na_Get_to
  | with_reducible exact Facts.na_Get_sel
  | with_reducible exact Facts.na_Ask_to
  | with_reducible exact Facts.na_Ask_sel
  | with_reducible exact Facts.na_Cell_to
  | with_reducible exact Facts.na_Cell_source
  | with_reducible exact Facts.na_Two_to
  | with_reducible exact Facts.na_Two_op
  | with_reducible exact Facts.na_Two_one
  | with_reducible exact Facts.na_Two_other
  | with_reducible exact Facts.na_Put_sel
  | with_reducible exact Facts.na_Put_source
  | with_reducible exact Facts.na_Tell_sel
  | with_reducible exact Facts.na_Tell_source
  | with_reducible exact Facts.na_Store_at
  | with_reducible exact Facts.na_Store_source
  | with_reducible exact Facts.na_Parts_rows
  | with_reducible exact Facts.na_Order_parts
  | with_reducible exact Facts.na_Order_order
  | with_reducible exact Facts.na_Order_needed)
local macro_rules | `(tactic| walk_at "ty") => `(tactic| first
  | with_reducible exact ty_int
  | with_reducible exact ty_bl
  | with_reducible exact ty_str
  | with_reducible exact ty_non
  | ((with_reducible refine' ty_lst ?vv); (case vv => walk_at "tr"))
  | ((with_reducible refine' ty_sqT ?vv); (case vv => walk_at "tr"))
  | ((with_reducible refine' ty_dic ?vv); (case vv => walk_at "tr")))
local macro_rules | `(tactic| walk_at "ix") => `(tactic| first | exact at0 | exact at1 | exact at2 | assumption)
local macro_rules | `(tactic| walk_at "size") => `(tactic| first
  | assumption
  | (show _ < sizeLine; rw [sizeLine_eq]; (try simp only [List.length_cons, List.length_nil, List.length_append, List.length_map]); omega)
  | (show _ ≤ sizeLine; rw [sizeLine_eq]; (try simp only [List.length_cons, List.length_nil, List.length_append, List.length_map]); omega))
local macro_rules | `(tactic| walk_at "side") => `(tactic| first
  | assumption
  | ((with_reducible refine cdw ?_ ?_) <;> omega)
  | omega
  | (exact ⟨by omega, by omega⟩)
  | (exact Or.inl ⟨by omega, by omega⟩)
  | (exact Or.inr ⟨by omega, by omega⟩)
  | decide
  | (simp only [List.length_cons, List.length_nil, List.length_append, List.length_map]; omega)
  | (show _ ≤ _; decide))
local macro_rules | `(tactic| walk_at "as") => `(tactic| with_reducible assumption)
local macro_rules | `(tactic| walk_at "tr") => `(tactic| first
  | with_reducible assumption
  | with_reducible exact upd_same
  | ((with_reducible refine' SqL.of ?hh); (case hh => walk_at "as"))
  | ((with_reducible refine' SqT.of ?hh); (case hh => walk_at "as"))
  | ((with_reducible refine' Same.stm ?ee ?gg); (case ee => walk_at "as"); (case gg => walk_at "tr"))
  | ((with_reducible refine' Same.sqT ?ee ?gg); (case ee => walk_at "as"); (case gg => walk_at "tr"))
  | ((with_reducible refine' Same.sqL ?ee ?gg); (case ee => walk_at "as"); (case gg => walk_at "tr"))
  | ((with_reducible refine' Same.at ?ee ?gg); (case ee => walk_at "as"); (case gg => walk_at "tr"))
  | ((with_reducible refine' But.stm ?ee ?ff ?gg); (case ee => walk_at "as"); (case ff => walk_at "ne"); (case gg => walk_at "tr"))
  | ((with_reducible refine' But.tup ?ee ?ff ?gg); (case ee => walk_at "as"); (case ff => walk_at "tr1"); (case gg => walk_at "tr"))
  | ((with_reducible refine' But.sqT ?ee ?ff ?gg); (case ee => walk_at "as"); (case ff => walk_at "tr1"); (case gg => walk_at "tr"))
  | ((with_reducible refine' But.tupL ?ee ?ff ?gg); (case ee => walk_at "as"); (case ff => walk_at "tr1"); (case gg => walk_at "tr"))
  | ((with_reducible refine' But.sqTL ?ee ?ff ?gg); (case ee => walk_at "as"); (case ff => walk_at "tr1"); (case gg => walk_at "tr"))
  | ((with_reducible refine' But.sqL ?ee ?ff ?gg); (case ee => walk_at "as"); (case ff => walk_at "ne"); (case gg => walk_at "tr"))
  | ((with_reducible refine' But.at ?ee ?ff ?gg); (case ee => walk_at "as"); (case ff => walk_at "ne"); (case gg => walk_at "tr")))
local macro_rules | `(tactic| walk_at "ts") => `(tactic| first
  | with_reducible assumption
  | with_reducible exact TS.refl _
  | ((with_reducible refine' TS.trans ?gg (TS.of ?ee)); (case ee => walk_at "as"); (case gg => walk_at "ts"))
  | ((with_reducible refine' TS.trans ?gg (TS.butS ?ee ?ff)); (case ee => walk_at "as"); (case ff => walk_at "tr1"); (case gg => walk_at "ts"))
  | ((with_reducible refine' TS.trans ?gg (TS.butL ?ee ?ff)); (case ee => walk_at "as"); (case ff => walk_at "tr1"); (case gg => walk_at "ts"))
  | ((with_reducible refine' TS.trans ?gg (TS.butI ?ee ?ff)); (case ee => walk_at "as"); (case ff => walk_at "tr1"); (case gg => walk_at "ts")))
local macro_rules | `(tactic| walk_at "sm") => `(tactic| first
  | with_reducible assumption
  | with_reducible exact Same.refl _
  | ((with_reducible refine' Same.trans ?gg ?ee); (case ee => walk_at "as"); (case gg => walk_at "sm"))
  | ((with_reducible refine' But.new ?gg ?nn ?ee); (case ee => walk_at "as"); (case nn => walk_at "fr"); (case gg => walk_at "sm")))
local macro_rules | `(tactic| walk_at "fr") => `(tactic| first
  | with_reducible assumption
  | ((with_reducible refine' Same.back ?ee ?nn); (case nn => walk_at "as"); (case ee => walk_at "sm"))
  | ((with_reducible refine' But.back ?ee ?ff ?nn); (case nn => walk_at "as"); (case ff => walk_at "ne0"); (case ee => walk_at "bu")))
local macro_rules | `(tactic| walk_at "bu") => `(tactic| first
  | with_reducible assumption
  | with_reducible exact But.refl _ _
  | ((with_reducible refine' But.trans ?gg ?ee); (case ee => walk_at "as"); (case gg => walk_at "bu"))
  | ((with_reducible refine' But.trans ?gg (But.of ?ee)); (case ee => walk_at "as"); (case gg => walk_at "bu"))
  | ((with_reducible refine' But.new2 ?gg ?nn ?ee); (case ee => walk_at "as"); (case nn => walk_at "frB"); (case gg => walk_at "bu")))
local macro_rules | `(tactic| walk_at "frB") => `(tactic| first
  | with_reducible assumption
  | ((with_reducible refine' Same.back ?ee ?nn); (case nn => walk_at "as"); (case ee => walk_at "sm"))
  | ((with_reducible refine' But.back' ?ee ?ff ?nn); (case nn => walk_at "as"); (case ee => walk_at "bu"); (case ff => walk_at "tr1")))
local macro_rules | `(tactic| walk_at "tr1") => `(tactic| first
  | with_reducible assumption
  | ((with_reducible refine' Same.stm ?ee ?gg); (case ee => walk_at "as"); (case gg => walk_at "tr1"))
  | ((with_reducible refine' Same.at ?ee ?gg); (case ee => walk_at "as"); (case gg => walk_at "tr1"))
  | ((with_reducible refine' But.at ?ee ?ff ?gg); (case ee => walk_at "as"); (case ff => walk_at "ne0"); (case gg => walk_at "tr1"))
  | ((with_reducible refine' But.stm ?ee ?ff ?gg); (case ee => walk_at "as"); (case ff => walk_at "ne0"); (case gg => walk_at "tr1")))
local macro_rules | `(tactic| walk_at "ne0") => `(tactic| first
  | with_reducible assumption
  | (with_reducible apply Ne.symm; with_reducible assumption))
local macro_rules | `(tactic| walk_at "ne") => `(tactic| first
  | with_reducible assumption
  | (with_reducible apply Ne.symm; with_reducible assumption)
  | ((with_reducible refine' stm_ne ?hh ?nn); (case nn => walk_at "as"); (case hh => walk_at "tr1"))
  | ((with_reducible refine' ne_of_none ?hh ?nn); (case nn => walk_at "as"); (case hh => walk_at "tr1"))
  | ((with_reducible apply Ne.symm); (with_reducible refine' ne_of_none ?hh ?nn); (case nn => walk_at "as"); (case hh => walk_at "tr1")))
local macro_rules | `(tactic| walk_at "v") => `(tactic| first
  | with_reducible refine w_seq ?_
  | ((with_reducible refine' w_var ?vv ?_); (case vv => exact rfl))
  | with_reducible refine w_c ?_
  | with_reducible refine w_op ?_
  | with_reducible refine w_asg ?_
  | with_reducible refine w_gName ?_
  | with_reducible refine w_ret ?_
  | with_reducible refine w_ifS ?_
  | with_reducible refine w_drop ?_
  | with_reducible refine w_next ?_
  | with_reducible refine w_cons ?_
  | with_reducible refine w_nil ?_
  | with_reducible refine w_call ?_
  | with_reducible refine w_cb ?_
  | with_reducible refine w_rI0 ?_
  | with_reducible refine w_addI ?_
  | with_reducible refine w_eqI ?_
  | with_reducible refine w_neI ?_
  | with_reducible refine w_eqS ?_
  | with_reducible refine w_neS ?_
  | with_reducible refine w_eqB ?_
  | with_reducible refine w_neB ?_
  | with_reducible refine w_chain ?_
  | with_reducible refine w_test ?_
  | with_reducible refine w_tB ?_
  | with_reducible refine w_bl ?_
  | ((with_reducible refine' w_mulI ?vv ?_); (case vv => walk_at "side"))
  | ((with_reducible refine' w_rI ?vv ?_); (case vv => walk_at "side"))
  | with_reducible refine w_int1 ?_
  | with_reducible refine w_int1b ?_
  | with_reducible refine w_tup ?_
  | with_reducible refine w_lst ?_
  | with_reducible refine w_un ?_
  | with_reducible refine w_rU ?_
  | with_reducible refine w_not ?_
  | with_reducible refine w_notV ?_
  | with_reducible refine w_ifE ?_
  | with_reducible refine w_nT ?_
  | with_reducible refine w_nF ?_
  | with_reducible refine iteT ?_
  | with_reducible refine iteF ?_
  | ((with_reducible refine' w_ixT ?vv ?ww ?_); (case vv => walk_at "tr"); (case ww => walk_at "ix"))
  | ((with_reducible refine' w_ixL ?vv ?ww ?_); (case vv => walk_at "tr"); (case ww => walk_at "ix"))
  | with_reducible refine w_gSub ?_
  | ((with_reducible refine' w_setL ?vv ?ww ?_); (case vv => walk_at "tr"); (case ww => first | rfl | decide | assumption))
  | ((with_reducible refine' w_lenL ?vv ?_); (case vv => walk_at "tr"))
  | ((with_reducible refine' w_lenT ?vv ?_); (case vv => walk_at "tr"))
  | with_reducible refine w_max2 ?_
  | with_reducible refine w_max3 ?_
  | with_reducible refine w_din ?_
  | with_reducible refine w_dnotin ?_
  | with_reducible refine w_dput ?_
  | with_reducible refine w_min2 ?_
  | with_reducible refine w_bm ?_
  | with_reducible refine w_bm0 ?_
  | ((with_reducible refine' w_tyL ?vv ?_); (case vv => walk_at "tr"))
  | ((with_reducible refine' w_append ?vv ?ww ?_); (case vv => walk_at "tr"); (case ww => walk_at "size"))
  | ((with_reducible refine' w_size ?vv ?_); (case vv => walk_at "size"))
  | with_reducible refine w_forL ?_
  | with_reducible refine w_forT ?_
  | with_reducible refine w_forR1 ?_
  | with_reducible refine w_forR2 ?_
  | with_reducible refine w_lcL ?_
  | with_reducible refine w_lcT ?_
  | with_reducible refine w_lcR1 ?_
  | with_reducible refine w_yes ?_
  | with_reducible refine w_sl ?_
  | with_reducible refine w_noPart ?_
  | with_reducible refine w_part ?_
  | with_reducible refine w_int ?_
  | ((with_reducible refine' w_slL ?vv ?_); (case vv => walk_at "tr"))
  | ((with_reducible refine' w_seqL ?vv ?ww ?_); (case vv => walk_at "tr"); (case ww => rfl))
  | ((with_reducible refine' w_seqT ?vv ?ww ?_); (case vv => walk_at "tr"); (case ww => rfl))
  | with_reducible refine w_gNil ?_
  | with_reducible refine w_gCons ?_
  | with_reducible refine w_forZ ?_
  | with_reducible refine w_forM ?_
  | with_reducible refine w_forE ?_
  | with_reducible refine w_forV ?_
  | with_reducible refine w_lcZ ?_
  | with_reducible refine w_lcE ?_
  | ((with_reducible refine' w_isi (b := true) ?vv ?ww ?_); (case vv => walk_at "ty"); (case ww => decide +kernel))
  | ((with_reducible refine' w_isi (b := false) ?vv ?ww ?_); (case vv => walk_at "ty"); (case ww => decide +kernel))
  | with_reducible refine w_revL ?_
  | with_reducible refine w_pairN ?_
  | with_reducible refine w_pairC ?_
  | with_reducible refine w_dget ?_
  | with_reducible refine w_met ?_
  | ((with_reducible refine' w_metAt ?vv ?ww ?_); (case vv => walk_at "tr"); (case ww => rfl))
  | with_reducible refine w_mkI ?_
  | with_reducible refine w_fld ?_
  | ((with_reducible refine' w_fldAt ?vv ?cc ?nn ?ww ?_); (case vv => walk_at "tr"); (case cc => walk_at "cls"); (case nn => walk_at "na"); (case ww => rfl))
  | with_reducible refine w_sfld ?_
  | ((with_reducible refine' w_sfldAt ?vv ?cc ?nn ?ll ?ee ?_); (case vv => walk_at "tr"); (case cc => walk_at "cls"); (case nn => walk_at "na"); (case ll => simp); (case ee => rfl))
  | ((with_reducible refine' w_tupL ?vv ?_); (case vv => walk_at "tr"))
  | ((with_reducible refine' w_tupT ?vv ?_); (case vv => walk_at "tr"))
  | ((with_reducible refine' w_listL ?vv ?_); (case vv => walk_at "tr"))
  | ((with_reducible refine' w_listT ?vv ?_); (case vv => walk_at "tr"))
  | with_reducible refine w_tyS ?_
  | with_reducible refine w_retN ?_
  | with_reducible refine w_break ?_
  | with_reducible refine w_cont ?_)
local macro_rules | `(tactic| walk_at "w") => `(tactic| first
  | walk_at "v"
  | with_reducible refine w_or ?_
  | with_reducible refine w_and ?_
  | with_reducible refine w_andV ?_
  | with_reducible refine w_orV ?_)
local macro_rules | `(tactic| walk_at "wd") => `(tactic| first
  | walk_at "w"
  | ((with_reducible refine' w_decT ?vv ?_); (case vv => decide +kernel))
  | ((with_reducible refine' w_decF ?vv ?_); (case vv => decide +kernel)))
local macro_rules | `(tactic| walk_at "tz") => `(tactic| (intro S z; (repeat walk_at "w"); exact z))
local macro_rules | `(tactic| walk_at "wf") => `(tactic| first
  | walk_at "wd"
  | ((with_reducible refine' w_decF ?vv ?_); (case vv => with_reducible assumption)))
/-! ### the law -/
def StC (l : List PyData) : Prop := cleanAll l = true ∧ PyData.depthAll l ≤ 1
theorem selD_cln {k : Str} {n : Int} (h : SelS k) : clean (selD k n) = true ∧ (selD k n).depth ≤ 1 := by
  refine ⟨?_, by simp [selD, PyData.depth, PyData.depthAll]⟩
  rw [selD, clean, cleanAll, cleanAll, cleanAll, clean, clean, h.ok]; rfl
theorem str_cln {k : Str} (h : PyData.strOk k = true) : clean (.str k) = true ∧ (PyData.str k).depth ≤ 1 := ⟨by rw [clean]; exact h, by simp [PyData.depth]⟩
theorem int_cln (n : Int) : clean (.int n) = true ∧ (PyData.int n).depth ≤ 1 := ⟨by simp [clean], by simp [PyData.depth]⟩
theorem stC_nil : StC [] := ⟨rfl, Nat.zero_le _⟩
theorem stC_cons {x : PyData} {l : List PyData} (h : clean x = true ∧ x.depth ≤ 1) (g : StC l) : StC (x :: l) := ⟨by rw [cleanAll, h.1, g.1]; rfl, by
  have := g.2
  have := h.2
  rw [PyData.depthAll]; omega⟩
theorem stepD_cln {to : Int} {inn : Int → Int} {d : PyData} (h : RowS d) : StC (stepD to inn d) := by
  rcases h with ⟨k, n, hk, rfl⟩ | ⟨k, n, hk, rfl⟩ | ⟨x, hx, rfl⟩ | ⟨o, x, y, ho, hx, hy, rfl⟩
  · rw [stepD_one, if_neg (by decide +kernel)]
    exact stC_cons (str_cln (by decide +kernel)) (stC_cons (int_cln _) (stC_cons (selD_cln hk) stC_nil))
  · rw [stepD_one, if_neg (by decide +kernel)]
    exact stC_cons (str_cln (by decide +kernel)) (stC_cons (int_cln _) (stC_cons (selD_cln hk) stC_nil))
  · rw [stepD_one, if_pos rfl]
    exact stC_cons (str_cln (by decide +kernel)) (stC_cons (int_cln _) (stC_cons (srcD_cln hx) stC_nil))
  · exact stC_cons (str_cln (by decide +kernel)) (stC_cons (int_cln _) (stC_cons (str_cln ho.ok) (stC_cons (srcD_cln hx) (stC_cons (srcD_cln hy) stC_nil))))
theorem givD_cln {inn : Int → Int} {s : SetE} {xs : List PyData} {n : Nat} (ok : OkS n s) (h : ∀ x ∈ xs, IsSrc x) : StC (givD inn s xs) := by
  cases s with
  | cell a b =>
    match xs, h with
    | [], _ => exact stC_nil
    | [a1], _ => exact stC_nil
    | [x, y], h => exact stC_cons (str_cln (by decide +kernel)) (stC_cons (srcD_cln (h x List.mem_cons_self)) (stC_cons (srcD_cln (h y (List.mem_cons_of_mem _ List.mem_cons_self))) stC_nil))
    | a1 :: a2 :: a3 :: as, _ => exact stC_nil
  | sel m k j e =>
    match xs, h with
    | [], _ => exact stC_nil
    | [x], h => exact stC_cons (str_cln (by cases m <;> decide +kernel)) (stC_cons (selD_cln ok.1) (stC_cons (srcD_cln (h x List.mem_cons_self)) stC_nil))
    | a1 :: a2 :: as, _ => exact stC_nil
theorem rowF_cln {ss : List SetE} (ok : ∀ s ∈ ss, OkS 4 s) (to : Int) (inn : Int → Int) (x : Int) : StC (stepD to inn (rowF ss x)) := by
  unfold rowF
  rw [List.getD_eq_getElem?_getD]
  cases h : (proots ss []).2[x.toNat]? with
  | none => exact stC_nil
  | some d => exact stepD_cln (proots_rowS ok d (List.mem_of_getElem? h))
theorem sim_cln {ss : List SetE} (ok : ∀ s ∈ ss, OkS 4 s) (many : Nat) : ∀ (n : Nat) (o : List Int), o.length = n → ∀ l ∈ (sim ss many o).sts, StC l
  | 0, o, h, l, hl => by
    cases List.length_eq_zero_iff.mp h
    exact (List.not_mem_nil hl).elim
  | n + 1, o, h, l, hl => by
    rcases snoc_cases o with rfl | ⟨m, x, rfl⟩
    · exact (List.not_mem_nil hl).elim
    · rw [sim_snoc] at hl
      rcases List.mem_append.mp hl with g | g
      · exact sim_cln ok many n m (by rw [List.length_append, List.length_singleton] at h; omega) l g
      · rw [List.mem_singleton.mp g]; exact rowF_cln ok _ _ _
theorem due_cln {ss : List SetE} (ok : ∀ s ∈ ss, OkS 4 s) (many : Nat) (o : List Int) : ∀ l ∈ dueF ss many o, StC l := fun l hl => by
  rcases List.mem_append.mp hl with g | g
  · exact sim_cln ok many _ o rfl l g
  · obtain ⟨i, _, rfl⟩ := List.mem_map.mp g
    unfold givF
    cases h : ss[i]? with
    | none => exact stC_nil
    | some s => exact givD_cln (ok s (List.mem_of_getElem? h)) (parts_src _ _)
theorem sts_cln : ∀ {ls : List (List PyData)}, (∀ l ∈ ls, StC l) → cleanAll (stsD ls) = true ∧ PyData.depthAll (stsD ls) ≤ 2
  | [], _ => ⟨rfl, Nat.zero_le _⟩
  | l :: ls, h => by
    obtain ⟨a, b⟩ := sts_cln (ls := ls) fun x hx => h x (List.mem_cons_of_mem _ hx)
    obtain ⟨c, d⟩ := h l List.mem_cons_self
    refine ⟨?_, ?_⟩
    · show cleanAll (.tuple l :: stsD ls) = true
      rw [cleanAll, clean, c, a]; rfl
    · show PyData.depthAll (.tuple l :: stsD ls) ≤ 2
      rw [PyData.depthAll, PyData.depth]; omega
theorem due_cmp {ss : List SetE} (ok : ∀ s ∈ ss, OkS 4 s) (many : Nat) (o : List Int) : Cmp (.list (stsD (dueF ss many o))) := by
  obtain ⟨a, b⟩ := sts_cln (due_cln ok many o)
  exact ⟨by rw [clean]; exact a, by rw [PyData.depth]; omega⟩
theorem stpL_tup {K : PySem.W.Frag} {H : Hp} : ∀ {vs : List V} {ds : List (List PyData)}, StpL K H vs ds → tupAll (stsD ds) = true
  | [], [], _ => rfl
  | v :: vs, d :: ds, h => by
    obtain ⟨p, dx, c, tag, fs, as, ys, h1, h2, h3, h4, h5, h6, h7⟩ := h.1
    show tupAll (.tuple d :: stsD ds) = true
    rw [tupAll, stpL_tup h.2, h5, tupD, tupAll, h7]; rfl
  | [], _ :: _, h => h.elim
  | _ :: _, [], h => h.elim
theorem tupAll_take : ∀ {ls : List (List PyData)}, tupAll (stsD ls) = true → ∀ i, tupAll (stsD (ls.take i)) = true
  | [], h, i => by rw [List.take_nil]; exact h
  | l :: ls, h, 0 => rfl
  | l :: ls, h, i + 1 => by
    have h' : (tupD (.tuple l) && tupAll (stsD ls)) = true := h
    rw [Bool.and_eq_true] at h'
    show (tupD (.tuple l) && tupAll (stsD (ls.take i))) = true
    rw [h'.1, tupAll_take h'.2 i]; rfl
theorem sim_stl (ss : List SetE) (many : Nat) : ∀ (n : Nat) (o : List Int), o.length = n → (sim ss many o).sts.length = o.length
  | 0, o, h => by
    cases List.length_eq_zero_iff.mp h
    rfl
  | n + 1, o, h => by
    rcases snoc_cases o with rfl | ⟨m, x, rfl⟩
    · rfl
    · rw [sim_snoc]
      show ((sim ss many m).sts ++ [_]).length = _
      rw [List.length_append, List.length_append, sim_stl ss many n m (by rw [List.length_append, List.length_singleton] at h; omega)]; rfl
theorem zip_no {x : Str} : ∀ {fs : List Str} {as : List V}, x ∉ fs → (fs.zip as).lookup x = none
  | [], _, _ => rfl
  | f :: fs, [], _ => rfl
  | f :: fs, a :: as, h => by
    have h1 : (x == f) = false := beq_eq_false_iff_ne.mpr fun z => h (by rw [z]; exact List.mem_cons_self)
    show (match x == f with | true => some a | false => (fs.zip as).lookup x) = none
    rw [h1]
    exact zip_no fun z => h (List.mem_cons_of_mem _ z)
section
variable {P : Program} {w : World} {K : PySem.W.Frag} {mg : Str → Option Value}
theorem ok_law [c : Facts K mg] (G__law_cell : Fn P w K mg "_law_cell" 1 ["script", "k"] ((spCell K))) (G__law_due : Fn P w K mg "_law_due" 7 ["sets", "order", "many"] ((spDue K))) (G__law_needs : Fn P w K mg "_law_needs" 6 ["sets"] ((spLNeeds K))) (G__law_sets : Fn P w K mg "_law_sets" 7 ["stream"] ((spSets K))) (G__law_stream : Fn P w K mg "_law_stream" 1 ["cell"] (spStream)) (G__law_take : Fn P w K mg "_law_take" 1 ["stream", "many"] (spTake)) (G_best_order : Fn P w K mg "best_order" 9 ["sets"] ((spBest K))) (G_steps_of : Fn P w K mg "steps_of" 10 ["sets", "many"] ((spStepsOf K))) (GM_Ask_told : FnA P w K mg (He.ma K (He.ga K "Ask") "told") 1 ["self"] ((spToldF (He.ga K "Ask") ["to", "sel"] "ask"))) (GM_Cell_told : FnA P w K mg (He.ma K (He.ga K "Cell") "told") 1 ["self"] ((spToldF (He.ga K "Cell") ["to", "source"] "cell"))) (GM_Get_told : FnA P w K mg (He.ma K (He.ga K "Get") "told") 1 ["self"] ((spToldF (He.ga K "Get") ["to", "sel"] "get"))) (GM_Put_told : FnA P w K mg (He.ma K (He.ga K "Put") "told") 1 ["self"] ((spToldF (He.ga K "Put") ["sel", "source"] "put"))) (GM_Store_told : FnA P w K mg (He.ma K (He.ga K "Store") "told") 1 ["self"] ((spToldF (He.ga K "Store") ["at", "source"] "store"))) (GM_Tell_told : FnA P w K mg (He.ma K (He.ga K "Tell") "told") 1 ["self"] ((spToldF (He.ga K "Tell") ["sel", "source"] "tell"))) (GM_Two_told : FnA P w K mg (He.ma K (He.ga K "Two") "told") 1 ["self"] ((spToldF (He.ga K "Two") ["to", "op", "one", "other"] "two"))) : Fn P w K mg "law" 11 ["script"] ((spLaw K)) := by
  obtain ⟨fd, F⟩ := c.d_law
  refine Fn.mk' F c.g_law sc_law (k := 10) (fun vs H Q E h => ?_) (fun _ _ _ _ _ _ us hl => match us, hl with | [_], _ => rfl) (fun base cdv A outer s H vs Q E hr h => ?_)
  · exact len_law h
  · have nd := sc_law.nd
    have hu := hu_of hr
    have hr__law_cell : Room 1 _ := hr.mono (by omega)
    have hr__law_due : Room 7 _ := hr.mono (by omega)
    have hr__law_needs : Room 6 _ := hr.mono (by omega)
    have hr__law_sets : Room 7 _ := hr.mono (by omega)
    have hr__law_stream : Room 1 _ := hr.mono (by omega)
    have hr__law_take : Room 1 _ := hr.mono (by omega)
    have hr_best_order : Room 9 _ := hr.mono (by omega)
    have hr_steps_of : Room 10 _ := hr.mono (by omega)
    have hrM_Ask_told : Room 1 _ := hr.mono (by omega)
    have hrM_Cell_told : Room 1 _ := hr.mono (by omega)
    have hrM_Get_told : Room 1 _ := hr.mono (by omega)
    have hrM_Put_told : Room 1 _ := hr.mono (by omega)
    have hrM_Store_told : Room 1 _ := hr.mono (by omega)
    have hrM_Tell_told : Room 1 _ := hr.mono (by omega)
    have hrM_Two_told : Room 1 _ := hr.mono (by omega)
    refine ⟨_, (pss_cons (ps_for PassesOwn.never rfl (pi_range1 (by rfl) c.f_range (pa_cons (pe_callB (call_max2A rfl) (by rfl) c.f_max boot_max (pa_cons pe_int (pa_cons (pe_callB (call_min2A rfl) (by rfl) c.f_min boot_min (pa_cons (pe_callB (call_lenA (K := K) rfl) (by rfl) c.f_len boot_len (pa_cons (pv 0) pa_nil)) (pa_cons pe_int pa_nil))) pa_nil))) pa_nil)) (pg_name (i := 1) nd rfl (Or.inl rfl)) (pss_cons (ps_set (i := 2) nd rfl (Or.inl rfl) (pe_fn G__law_stream hr__law_stream (by rfl) (pa_cons (pe_fn G__law_cell hr__law_cell (by rfl) (pa_cons (pv 0) (pa_cons (pv 1) pa_nil))) pa_nil)))
      (pss_cons (ps_set (i := 3) nd rfl (Or.inl rfl) (pe_fn G__law_sets hr__law_sets (by rfl) (pa_cons (pv 2) pa_nil)))
      (pss_cons (ps_set (i := 4) nd rfl (Or.inl rfl) (pe_callB (call_max2A rfl) (by rfl) c.f_max boot_max (pa_cons pe_int (pa_cons (pe_fn G__law_needs hr__law_needs (by rfl) (pa_cons (pv 3) pa_nil)) pa_nil))))
      (pss_cons (ps_set (i := 5) nd rfl (Or.inl rfl) (pe_op (op_addA (K := K) rfl) (pv 4) (pe_fn G__law_take hr__law_take (by rfl) (pa_cons (pv 2) (pa_cons (pe_callB (call_max2A rfl) (by rfl) c.f_max boot_max (pa_cons pe_int (pa_cons (pe_op op_sub pe_int (pv 4)) pa_nil))) pa_nil)))))
      (pss_cons (ps_set (i := 6) nd rfl (Or.inl rfl) (pe_fn G__law_due hr__law_due (by rfl) (pa_cons (pv 3) (pa_cons (pe_fn G_best_order hr_best_order (by rfl) (pa_cons (pv 3) pa_nil)) (pa_cons (pv 5) pa_nil)))))
      (pss_one (ps_for PassesOwn.never rfl (pi_range1 (by rfl) c.f_range (pa_cons pe_int pa_nil)) (pg_name (i := 7) nd rfl (Or.inl rfl)) (pss_cons (ps_set (i := 8) nd rfl (Or.inl rfl) (pe_fn G_steps_of hr_steps_of (by rfl) (pa_cons (pv 3) (pa_cons (pv 5) pa_nil))))
      (pss_cons (ps_if (PW.pt (pw_or (pt_cmpR op_isN (pv 6) pe_non (nomark _)) (pw_or (pt_not (pt_val (pe_callB (call_isiA (K := K) rfl) (by rfl) c.f_isinstance boot_isinstance (pa_cons (pv 8) (pa_cons (pe_bltn (v := .ty "list") (by rfl) c.f_list boot_list rfl) pa_nil))))) (pw_or1 (pt_cmpR (op_neA (K := K) rfl hr.units) (pe_lc (own := [("one", 9)]) rfl nd (pi_list (pv 8)) (blkOk_by (N := N_law) (sc := defScope s_law) (by decide +kernel)) (fun _ _ _ _ _ => (pg_name (i := 9) nd rfl (Or.inl rfl))) (fun _ _ _ _ _ => pts_nil) (fun _ _ _ _ _ => (PE.or (pe_met0 GM_Get_told rfl c.cl_Get c.me_Get_told hrM_Get_told (pv 9)) (PE.or (pe_met0 GM_Ask_told rfl c.cl_Ask c.me_Ask_told hrM_Ask_told (pv 9)) (PE.or (pe_met0 GM_Cell_told rfl c.cl_Cell c.me_Cell_told hrM_Cell_told (pv 9)) (PE.or (pe_met0 GM_Two_told rfl c.cl_Two c.me_Two_told hrM_Two_told (pv 9)) (PE.or (pe_met0 GM_Put_told rfl c.cl_Put c.me_Put_told hrM_Put_told (pv 9)) (PE.or (pe_met0 GM_Tell_told rfl c.cl_Tell c.me_Tell_told hrM_Tell_told (pv 9)) (pe_met0 GM_Store_told rfl c.cl_Store c.me_Store_told hrM_Store_told (pv 9)))))))))) (pv 6) (nomark _)))))) (pss_one (ps_ret pe_bl)) pss_nil)
      (pss_cons (ps_if (pt_cmpR (op_neA (K := K) rfl hr.units) (pe_lc (own := [("one", 9)]) rfl nd (pi_list (pv 8)) (blkOk_by (N := N_law) (sc := defScope s_law) (by decide +kernel)) (fun _ _ _ _ _ => (pg_name (i := 9) nd rfl (Or.inl rfl))) (fun _ _ _ _ _ => pts_one (pt_not (pt_val (pe_callB (call_isiA (K := K) rfl) (by rfl) c.f_isinstance boot_isinstance (pa_cons (pv 9) (pa_cons (pe_glob (v := .ref (He.ga K "Step")) (by rfl) c.gc_Step rfl) pa_nil)))))) (fun _ _ _ _ _ => (pv 9))) (pe_lst pa_nil) (nomark _)) (pss_one (ps_ret pe_bl)) pss_nil)
      (pss_one (ps_expr (pe_bm0 PySem.F.plainAttrs_list PySem.F.slot_list_clear PySem.F.type_list_clear mt_clear (pv 8)))))))))))))))
      (pss_one (ps_ret pe_bl))), ?_⟩
    try dsimp only [cxOf, Cx.nox, Cx.wish]
    obtain ⟨a, ns, rfl, hS, hl, q⟩ := h
    have hz : sizeLine = 16777216 := sizeLine_eq
    repeat walk_at "w"
    refine fl_rng1 (fun i σ H' => ∃ o1 o2 o3 o4 o5 o6 o7 o8 o9, σ = [some (.ref a), o1, o2, o3, o4, o5, o6, o7, o8, o9] ∧ Same H H') (by omega) (by omega) ⟨_, _, _, _, _, _, _, _, _, rfl, Same.refl _⟩ (fun i σ H1 hi hp => ?_) (fun σ H1 hp => ?_)
    · obtain ⟨o1, o2, o3, o4, o5, o6, o7, o8, o9, rfl, sm⟩ := hp
      repeat walk_at "w"
      refine ⟨a, ns, i, rfl, sm.sqL hS, by omega, fun c => ?_⟩
      repeat walk_at "w"
      refine ⟨c, rfl, fun s H2 s2 n2 hs2 => ?_⟩
      repeat walk_at "w"
      refine ⟨s, rfl, hs2, fun v ss H3 d3 l3 ok3 hs3 e3 => ?_⟩
      repeat walk_at "w"
      refine ⟨v, ss, rfl, d3, l3, ok3, fun m H4 m0 m1 hm s4 => ?_⟩
      have hs4 := s4.stm hs3
      have d4 := dp_ts (TS.of s4) _ _ (setsD_t ss) d3
      repeat walk_at "w"
      refine ⟨s, _, rfl, hs4, by omega, by omega, fun d H5 hd0 hd1 hs5 e5 => ?_⟩
      obtain ⟨mn, hmn⟩ : ∃ mn : Nat, max 2 m + d = (mn : Int) := ⟨(max 2 m + d).toNat, by omega⟩
      have d5 := dp_ts (TS.butS e5 hs4) _ _ (setsD_t ss) d4
      repeat walk_at "w"
      rw [hmn]
      repeat walk_at "w"
      refine ⟨v, ss, rfl, d5, l3, ok3, fun qo H6 L srt hqo s6 n6 => ?_⟩
      have d6 := dp_ts (TS.of s6) _ _ (setsD_t ss) d5
      repeat walk_at "w"
      refine ⟨v, ss, qo, ordL L, mn, rfl, by omega, d6, l3, ok3, hqo, srt.full, fun k => by have := srt.up k; have := hm L srt; omega, fun dq H7 us hdq hus s7 n7 => ?_⟩
      have d7 := dp_ts (TS.of s7) _ _ (setsD_t ss) d6
      repeat walk_at "w"
      refine fl_rng1 (fun j σ H' => ∃ o7 o8 o9, σ = [some (.ref a), some (.int i), some (.ref s), some v, some (.int (max 2 m)), some (.int ((mn : Nat) : Int)), some (.ref dq), o7, o8, o9] ∧ Same H7 H') (by omega) (by omega) ⟨_, _, _, rfl, Same.refl _⟩ (fun j σ H8 hj hp => ?_) (fun σ H8 hp => ?_)
      · obtain ⟨o7, o8, o9, rfl, sm8⟩ := hp
        have d8 := dp_ts (TS.of sm8) _ _ (setsD_t ss) d7
        repeat walk_at "w"
        refine ⟨v, ss, mn, rfl, by omega, d8, l3, ok3, fun L' srt' => by have := hm L' srt'; omega, fun sq H9 L' vs srt' hsq hst s9 n9 => ?_⟩
        obtain rfl := srt.uniq srt'
        have dl : (dueF ss mn (ordL L)).length ≤ 200 := by
          have := srt.full.len
          have := nOf_le ok3 l3
          unfold dueF
          rw [List.length_append, sim_stl ss mn _ _ rfl, List.length_map, List.length_range]
          omega
        have hdq9 := s9 _ _ (sm8 _ _ hdq)
        repeat walk_at "w"
        refine ⟨rfl, ?_⟩
        repeat walk_at "w"
        rw [decide_eq_false (show ¬ V.ref dq = V.non from fun z => by cases z)]
        repeat walk_at "w"
        refine lc_L vs (fun D i ys H' => Same H9 H' ∧ DpAll K H' ys (stsD ((dueF ss mn (ordL L)).take i))) (SqL.of hsq) (fun D H' hD e f => ⟨e, .nil⟩) (fun D hD i ys H' hi hy hp => SqL.of (hp.1 _ _ hsq)) (fun D hD i x ys H' hx hll hy hp => ?_) (fun D hD ys H' hll hy hp => ?_)
        · obtain ⟨e, hys⟩ := hp
          obtain ⟨d, hd1, hd2⟩ := hst.at hx
          have hil := (List.getElem?_eq_some_iff.mp hd1).1
          obtain ⟨p, dx, c, tag, fs, as, zs, hc, rfl, hp, la, rfl, hda, hdt⟩ := hd2.it (IT.of e)
          have stl : (stsD ((dueF ss mn (ordL L)).take (i + 1))) = stsD ((dueF ss mn (ordL L)).take i) ++ [.tuple (.str tag :: zs)] := by rw [take_snoc hd1, stsD_snoc]
          have tts : tupAll (stsD ((dueF ss mn (ordL L)).take i)) = true := tupAll_take (stpL_tup hst) i
          have fin : ∀ q H'', H'' q = some (.tup (.str tag :: as)) → Same H' H'' → LcEnd D (fun i ys H' => Same H9 H' ∧ DpAll K H' ys (stsD ((dueF ss mn (ordL L)).take i))) i (.ref q) H'' := fun q H'' h s' =>
            lc_end (s' _ _ hy) hll (by rw [hz]; omega) fun H4 e4 f4 => by
              have t4 : TS H'' H4 := TS.butL e4 (s' _ _ hy)
              refine ⟨But.new (e.trans s') hD e4, ?_⟩
              show DpAll K H4 (ys ++ [.ref q]) (stsD ((dueF ss mn (ordL L)).take (i + 1)))
              rw [stl]
              exact dpa_app (dpAll_ts ((TS.of s').trans t4) _ _ tts hys) (dpa_one (dp_ts t4 _ _ (by rw [tupD, tupAll, hdt]; rfl) (.tup (SqT.of h) (.cons (.str _) (dpAll_ts (TS.of s') _ _ hdt hda)))))
          repeat walk_at "w"
          simp only [kinds, List.mem_cons, Prod.mk.injEq, List.not_mem_nil, or_false] at hc
          rcases hc with ⟨rfl, rfl, rfl⟩ | ⟨rfl, rfl, rfl⟩ | ⟨rfl, rfl, rfl⟩ | ⟨rfl, rfl, rfl⟩ | ⟨rfl, rfl, rfl⟩ | ⟨rfl, rfl, rfl⟩ | ⟨rfl, rfl, rfl⟩
          · refine .inl ?_
            repeat walk_at "w"
            exact ⟨p, dx, _, rfl, hp, zip_no (by decide +kernel), p, dx, as, rfl, la, hp, fun q H'' h s' _ => fin q H'' h s'⟩
          · refine .inr (.inl ?_)
            repeat walk_at "w"
            exact ⟨p, dx, _, rfl, hp, zip_no (by decide +kernel), p, dx, as, rfl, la, hp, fun q H'' h s' _ => fin q H'' h s'⟩
          · refine .inr (.inr (.inl ?_))
            repeat walk_at "w"
            exact ⟨p, dx, _, rfl, hp, zip_no (by decide +kernel), p, dx, as, rfl, la, hp, fun q H'' h s' _ => fin q H'' h s'⟩
          · refine .inr (.inr (.inr (.inl ?_)))
            repeat walk_at "w"
            exact ⟨p, dx, _, rfl, hp, zip_no (by decide +kernel), p, dx, as, rfl, la, hp, fun q H'' h s' _ => fin q H'' h s'⟩
          · refine .inr (.inr (.inr (.inr (.inl ?_))))
            repeat walk_at "w"
            exact ⟨p, dx, _, rfl, hp, zip_no (by decide +kernel), p, dx, as, rfl, la, hp, fun q H'' h s' _ => fin q H'' h s'⟩
          · refine .inr (.inr (.inr (.inr (.inr (.inl ?_)))))
            repeat walk_at "w"
            exact ⟨p, dx, _, rfl, hp, zip_no (by decide +kernel), p, dx, as, rfl, la, hp, fun q H'' h s' _ => fin q H'' h s'⟩
          · refine .inr (.inr (.inr (.inr (.inr (.inr ?_)))))
            repeat walk_at "w"
            exact ⟨p, dx, _, rfl, hp, zip_no (by decide +kernel), p, dx, as, rfl, la, hp, fun q H'' h s' _ => fin q H'' h s'⟩
        · obtain ⟨e, hys⟩ := hp
          rw [hst.len, List.take_length] at hys
          have hcm := due_cmp ok3 mn (ordL L)
          have hdu : DpAll K H' us (stsD (dueF ss mn (ordL L))) := dpAll_ts (TS.of (sm8.trans (s9.trans e))) _ _ (stpL_tup hst) hus
          repeat walk_at "w"
          refine w_neP (.lst (SqL.of hy) hys) (.lst (SqL.of (e _ _ hdq9)) hdu) hcm hcm fun b hb => ?_
          have hb0 : b = false := by
            cases b with
            | false => rfl
            | true => exact ((hb.mp rfl) rfl).elim
          subst hb0
          have hsq2 := e _ _ hsq
          repeat walk_at "w"
          refine lc_L vs (fun D i ys H2 => Same H' H2 ∧ ys = []) (SqL.of hsq2) (fun D H' hD e f => ⟨e, rfl⟩) (fun D hD i ys H' hi hy hp => SqL.of (hp.1 _ _ hsq2)) (fun D' hD' i x ys H2 hx hll2 hy2 hp => ?_) (fun D' hD' ys H2 hll2 hy2 hp => ?_)
          · obtain ⟨e2, rfl⟩ := hp
            obtain ⟨d, hd1, hd2⟩ := hst.at hx
            obtain ⟨p, dx, c, tag, fs, as, zs, hc, rfl, hp, la, rfl, hda, hdt⟩ := hd2.it (IT.of (e.trans e2))
            repeat walk_at "w"
            have go : ∀ C, c = C → TyI K (He.ga K C) → Cls K (He.ga K C) → PySem.W.kitOne K (.ref (He.ga K C)) (.ref (He.ga K "Step")) = some true → ∃ t, TyX K H2 (.ref p) t ∧ PySem.W.kitOne K t (.ref (He.ga K "Step")) = some true := fun C hC ty cl is => by
              subst hC
              exact ⟨_, .base (.ins hp cl ty.ha ty.hn ty.ht ty.hm), is⟩
            have got : ∃ t, TyX K H2 (.ref p) t ∧ PySem.W.kitOne K t (.ref (He.ga K "Step")) = some true := by
              simp only [kinds, List.mem_cons, Prod.mk.injEq, List.not_mem_nil, or_false] at hc
              rcases hc with ⟨h, _⟩ | ⟨h, _⟩ | ⟨h, _⟩ | ⟨h, _⟩ | ⟨h, _⟩ | ⟨h, _⟩ | ⟨h, _⟩
              · exact go _ h Facts.ty_Get Facts.cl_Get Facts.is_Get_Step
              · exact go _ h Facts.ty_Ask Facts.cl_Ask Facts.is_Ask_Step
              · exact go _ h Facts.ty_Cell Facts.cl_Cell Facts.is_Cell_Step
              · exact go _ h Facts.ty_Two Facts.cl_Two Facts.is_Two_Step
              · exact go _ h Facts.ty_Put Facts.cl_Put Facts.is_Put_Step
              · exact go _ h Facts.ty_Tell Facts.cl_Tell Facts.is_Tell_Step
              · exact go _ h Facts.ty_Store Facts.cl_Store Facts.is_Store_Step
            obtain ⟨t, ht1, ht2⟩ := got
            refine ⟨_, _, _, _, true, rfl, .own _, ht1, ht2, ?_⟩
            repeat walk_at "w"
            refine lc_skip hy2 hll2 ?_
            exact ⟨e2, rfl⟩
          · obtain ⟨e2, rfl⟩ := hp
            repeat walk_at "w"
            refine w_new fun nn Ha n_a s_a f_a => ?_
            refine w_neIL (ns := []) (ms := []) (SqL.of (s_a _ _ hy2)) (SqL.of f_a) ?_
            rw [decide_eq_true rfl]
            have hsq3 := s_a _ _ (e2 _ _ hsq2)
            repeat walk_at "w"
            refine w_clear hsq3 ?_
            refine w_chg fun Hb e_b f_b => ?_
            repeat walk_at "w"
            exact ⟨_, _, _, rfl, But.new (sm8.trans (s9.trans (e.trans (e2.trans s_a)))) (sm8.free n9) e_b⟩
      · obtain ⟨o7, o8, o9, rfl, sm8⟩ := hp
        exact ⟨_, _, _, _, _, _, _, _, _, rfl, sm.trans (But.new s2 n2 (e3.trans ((But.of s4).trans (e5.trans (But.of (s6.trans (s7.trans sm8)))))))⟩
    · obtain ⟨o1, o2, o3, o4, o5, o6, o7, o8, o9, rfl, sm⟩ := hp
      repeat walk_at "w"
      exact q _
end

end J
namespace J
open PySem PySem.Spec PyProof.Rows L2
theorem all_ok {P : Program} {w : World} {K : PySem.W.Frag} {mg : Str → Option Value} [c : Facts K mg] : Fn P w K mg "law" 11 ["script"] (spLaw K) := by
  have G__law_cell := ok_law_cell (P := P) (w := w) (K := K)
  have G__law_source := ok_law_source (P := P) (w := w) (K := K)
  have G__law_giving := ok_law_giving (P := P) (w := w) (K := K) G__law_source
  have G__law_own := ok_law_own (P := P) (w := w) (K := K)
  have G__law_part := ok_law_part (P := P) (w := w) (K := K) 4
  have G__law_parts := ok_law_parts (P := P) (w := w) (K := K) G__law_part
  have G__law_step := ok_law_step (P := P) (w := w) (K := K) G__law_source
  have G__law_due := ok_law_due (P := P) (w := w) (K := K) G__law_giving G__law_own G__law_parts G__law_step
  have G__law_need := ok_law_need (P := P) (w := w) (K := K) 4
  have G__law_trees := ok_law_trees (P := P) (w := w) (K := K)
  have G__law_needs := ok_law_needs (P := P) (w := w) (K := K) G__law_need G__law_trees
  have G__law_take := ok_law_take (P := P) (w := w) (K := K)
  have G__law_e := ok_law_e (P := P) (w := w) (K := K) G__law_take 4
  have G__law_sets := ok_law_sets (P := P) (w := w) (K := K) G__law_e G__law_take
  have G__law_stream := ok_law_stream (P := P) (w := w) (K := K)
  have G_needs_of := ok_needs_of (P := P) (w := w) (K := K) 4
  have G_rests_of := ok_rests_of (P := P) (w := w) (K := K)
  obtain ⟨fd_Parts___init__, F_Parts___init__⟩ := c.dm_Parts___init__
  have GM_Parts___init__ := ok_Partsu_initu (P := P) (w := w) (K := K) F_Parts___init__
  have GM_Parts_part_in := ok_Parts_part_in (P := P) (w := w) (K := K) 4
  have G_parts_and_roots := ok_parts_and_roots (P := P) (w := w) (K := K) G_rests_of GM_Parts___init__ GM_Parts_part_in
  have G_roots_of := ok_roots_of (P := P) (w := w) (K := K) G_parts_and_roots
  have G_falling := ok_falling (P := P) (w := w) (K := K) G_needs_of G_rests_of G_roots_of
  have G_parts_of := ok_parts_of (P := P) (w := w) (K := K) G_parts_and_roots
  obtain ⟨fd_Order_need_at, F_Order_need_at⟩ := c.dm_Order_need_at
  have GM_Order_need_at := ok_Order_need_at (P := P) (w := w) (K := K) F_Order_need_at
  obtain ⟨fd_Order_need_of, F_Order_need_of⟩ := c.dm_Order_need_of
  have GM_Order_need_of := ok_Order_need_of (P := P) (w := w) (K := K) F_Order_need_of GM_Order_need_at
  obtain ⟨fd_Order___init__, F_Order___init__⟩ := c.dm_Order___init__
  have GM_Order___init__ := ok_Orderu_initu (P := P) (w := w) (K := K) F_Order___init__ GM_Order_need_of
  have G_own_parts := ok_own_parts (P := P) (w := w) (K := K)
  have GM_Order_go_through := ok_Order_go_through (P := P) (w := w) (K := K) G_own_parts 4
  have G_best_order := ok_best_order (P := P) (w := w) (K := K) G_falling G_parts_of GM_Order___init__ GM_Order_go_through
  have G_as_source := ok_as_source (P := P) (w := w) (K := K)
  obtain ⟨fd_Ask___init__, F_Ask___init__⟩ := c.dm_Ask___init__
  have GM_Ask___init__ := ok_Asku_initu (P := P) (w := w) (K := K) F_Ask___init__
  obtain ⟨fd_Cell___init__, F_Cell___init__⟩ := c.dm_Cell___init__
  have GM_Cell___init__ := ok_Cellu_initu (P := P) (w := w) (K := K) F_Cell___init__
  obtain ⟨fd_Get___init__, F_Get___init__⟩ := c.dm_Get___init__
  have GM_Get___init__ := ok_Getu_initu (P := P) (w := w) (K := K) F_Get___init__
  obtain ⟨fd_Two___init__, F_Two___init__⟩ := c.dm_Two___init__
  have GM_Two___init__ := ok_Twou_initu (P := P) (w := w) (K := K) F_Two___init__
  have G_step_for := ok_step_for (P := P) (w := w) (K := K) G_as_source GM_Ask___init__ GM_Cell___init__ GM_Get___init__ GM_Two___init__
  obtain ⟨fd_Put___init__, F_Put___init__⟩ := c.dm_Put___init__
  have GM_Put___init__ := ok_Putu_initu (P := P) (w := w) (K := K) F_Put___init__
  obtain ⟨fd_Store___init__, F_Store___init__⟩ := c.dm_Store___init__
  have GM_Store___init__ := ok_Storeu_initu (P := P) (w := w) (K := K) F_Store___init__
  obtain ⟨fd_Tell___init__, F_Tell___init__⟩ := c.dm_Tell___init__
  have GM_Tell___init__ := ok_Tellu_initu (P := P) (w := w) (K := K) F_Tell___init__
  have G_step_giving := ok_step_giving (P := P) (w := w) (K := K) G_as_source GM_Put___init__ GM_Store___init__ GM_Tell___init__
  have G_steps_of := ok_steps_of (P := P) (w := w) (K := K) G_best_order G_own_parts G_parts_and_roots G_step_for G_step_giving
  obtain ⟨fd_Ask_told, F_Ask_told⟩ := c.dm_Ask_told
  have GM_Ask_told := ok_Ask_told (P := P) (w := w) (K := K) F_Ask_told
  obtain ⟨fd_Cell_told, F_Cell_told⟩ := c.dm_Cell_told
  have GM_Cell_told := ok_Cell_told (P := P) (w := w) (K := K) F_Cell_told
  obtain ⟨fd_Get_told, F_Get_told⟩ := c.dm_Get_told
  have GM_Get_told := ok_Get_told (P := P) (w := w) (K := K) F_Get_told
  obtain ⟨fd_Put_told, F_Put_told⟩ := c.dm_Put_told
  have GM_Put_told := ok_Put_told (P := P) (w := w) (K := K) F_Put_told
  obtain ⟨fd_Store_told, F_Store_told⟩ := c.dm_Store_told
  have GM_Store_told := ok_Store_told (P := P) (w := w) (K := K) F_Store_told
  obtain ⟨fd_Tell_told, F_Tell_told⟩ := c.dm_Tell_told
  have GM_Tell_told := ok_Tell_told (P := P) (w := w) (K := K) F_Tell_told
  obtain ⟨fd_Two_told, F_Two_told⟩ := c.dm_Two_told
  have GM_Two_told := ok_Two_told (P := P) (w := w) (K := K) F_Two_told
  have G_law := ok_law (P := P) (w := w) (K := K) G__law_cell G__law_due G__law_needs G__law_sets G__law_stream G__law_take G_best_order G_steps_of GM_Ask_told GM_Cell_told GM_Get_told GM_Put_told GM_Store_told GM_Tell_told GM_Two_told
  exact G_law
theorem heldF {P : Program} {w : World} {K : PySem.W.Frag} {h : Heap} {mg : Str → Option Value} {f : Addr} (X : K.In h) (G : h.Ns mainGlobals mg) (hfa : mg ("law" : Str) = some (.ref f)) (c : He.SaysX fa fn [] [] exB w h K) :
    ∃ fd : FuncData, (∀ (s : Shared) (v : Value), BindsTo s fd ⟨[v], []⟩ [("script", v)]) ∧ ∀ base : Heap, K.In base → base.Ns mainGlobals mg → FnOk P w K mg base CX0 11 f fd ["script"] (spLaw K) := by
  have C := facts_of X G (congrArg (fun z : He.AlT => z.1) c.t) c.more
  have e := hfa.symm.trans C.g_law
  cases e
  obtain ⟨fd, h1, _, h3⟩ := (all_ok (P := P) (w := w) (K := K)).ex
  exact ⟨fd, fun s v => h3 s [v] rfl, fun base _ _ => h1 base⟩
end J
open PySem PySem.W PySem.Calls PyProof.Rows
theorem PySem.Challenge.cw_rowsjoined_k31_steps_for_parts_holds : PySem.Challenge.rw_rowsjoined_k31_steps_for_parts.Holds := by
  w_on; o_law
  refine HandSHeadRun.head_any (r := J.rowR) (q := view J.rowR.prog [41]) (H := J.hk) (ob := J.ob) (M := 12000) (loose := J.loose) (d := HandSHeadRun.topDef J.rowR.prog 41) (kwd := []) J.ob_eq
    (by kernel_rfl) (fun s => by kernel_rfl) J.run (by kernel_rfl) (by kernel_rfl) (by kernel_rfl) (by rfl) (by first | assumption | decide +kernel) (by decide +kernel) ⟨rfl, rfl, rfl, rfl, rfl, by decide +kernel⟩ ?hw ?hc
  case hw => w_witness2
  case hc =>
    refine L2.walk_ofE (l := PySem.Challenge.rw_rowsjoined_k31_steps_for_parts) (n := 63) (k := 11) (x := "script") (CX := L2.CX0) rfl (by decide) (by kernel_rfl) ⟨rfl, by decide, by decide⟩ ?F (fun _ _ _ _ z => z)
    intro w mg fa h Y G hmg0
    obtain ⟨K, KX, c⟩ := Y
    have hmg : mg ("law" : PySem.Str) = some (.ref fa) := by
      have e : (HandSHeadRun.topDef J.rowR.prog 41).name = ("law" : PySem.Str) := by kernel_rfl
      rw [← e]
      exact hmg0
    obtain ⟨fd, hb, hF⟩ := J.heldF (P := (PySem.Challenge.rw_rowsjoined_k31_steps_for_parts).prog) (w := w) KX G hmg c
    exact ⟨K, fd, _, KX, hb, fun H a ns hl hO hS => J.law_in hl hO hS, hF⟩
