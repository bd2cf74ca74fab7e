import PyProof.Rows.All
import Wide.All
import OpenK.AllK
import Wide.FinOn
import Lean
import HandS.Base
import HandS.Call
import HandS.Ends
import HandS.EndBits
import HandS.List
import HandS.Comp
import HandS.Iter
import HandS.Text
import HandS.Wide
import HandS.Words
import HandS.WordsList
import HandS.Defaults
import HandS.IsInst
import HandS.Rev
import HandS.TupAny
import HandS.TryOnly
import HandS.Zip
import HandS.Walk
import HandS.Style
import HandS.Flow
import HandS.Head0
import HandS.Head1
import HandS.Head2
import HandS.HeadEnd
import HandS.HeadHook1
import HandS.HeadHook2
import HandS.Codes
import HandS.Replace
import HandS.ReplaceLit
import HandS.SortOrd
import HandS.SortRule
import HandS.TupSets
import HandS.SetFor
import HandS.FStr
import HandS.Flt
import HandS.Sort
import HandS.Conv
import HandS.Dict
import HandS.Zip0
import KE.GoesMore
import PySem.Challenge.RW_rowsjoined_k30_whole_every_order_holds_a
set_option Elab.async false
set_option linter.all false
set_option maxRecDepth 100000
set_option maxHeartbeats 4000000
namespace J
open PySem PySem.Spec PyProof.Rows L2

/-! ### frames -/
def But (s : Addr) (H H' : Hp) : Prop := ∀ b o, b ≠ s → H b = some o → H' b = some o
theorem _root_.L2.Same.one {H : Hp} {p : Addr} {o : HO} (h : H p = none) : Same H (upd H p o) := fun a u e => by
  rw [upd_ne (ne_of_none e h)]; exact e
theorem But.of {s : Addr} {H H' : Hp} (e : Same H H') : But s H H' := fun b o _ h => e b o h
theorem But.refl (s : Addr) (H : Hp) : But s H H := fun _ _ _ h => h
theorem But.trans {s : Addr} {H H1 H2 : Hp} (a : But s H H1) (b : But s H1 H2) : But s H H2 := fun c o n h => b c o n (a c o n h)
theorem But.at {s b : Addr} {H H' : Hp} {o : HO} (e : But s H H') (n : b ≠ s) (h : H b = some o) : H' b = some o := e b o n h
theorem But.upd (s : Addr) (H : Hp) (o : HO) : But s H (upd H s o) := fun b u n h => by rw [upd_ne n]; exact h
/-- all that was there stays, what lies at s was not there -/
theorem But.new {s : Addr} {H H1 H2 : Hp} (e : Same H H1) (n : H s = none) (k : But s H1 H2) : Same H H2 := fun b o h => k b o (ne_of_none h n) (e b o h)

theorem But.new2 {s t : Addr} {H H1 H2 : Hp} (e : But s H H1) (n : H t = none) (k : But t H1 H2) : But s H H2 := fun b o hs h => k b o (ne_of_none h n) (e b o hs h)
theorem But.back {s p : Addr} {H H' : Hp} (e : But s H H') (hp : p ≠ s) (h : H' p = none) : H p = none := by
  cases q : H p with
  | none => rfl
  | some o => rw [e p o hp q] at h; cases h
theorem But.back' {s p : Addr} {H H' : Hp} {o : HO} (e : But s H H') (hs : H' s = some o) (h : H' p = none) : H p = none := e.back (fun z => by rw [z, hs] at h; cases h) h
/-- a stream of draws -/
def Stm (H : Hp) (s : Addr) : Prop := ∃ a b c : Int, H s = some (.lst [.int a, .int b, .int c])
theorem stm_ne {s p : Addr} {H : Hp} (h : Stm H s) (n : H p = none) : p ≠ s := fun q => by
  obtain ⟨_, _, _, g⟩ := h
  rw [← q, n] at g
  cases g
theorem But.tup {s b : Addr} {H H' : Hp} {xs : List V} (e : But s H H') (t : Stm H s) (h : H b = some (.tup xs)) : H' b = some (.tup xs) := by
  obtain ⟨_, _, _, t⟩ := t
  exact e b _ (ne_of h t (by intro q; cases q)) h
theorem But.tupL {s b : Addr} {H H' : Hp} {xs ys : List V} (e : But s H H') (t : H s = some (.lst ys)) (h : H b = some (.tup xs)) : H' b = some (.tup xs) := e b _ (ne_of h t (by intro q; cases q)) h
theorem But.sqTL {K : PySem.W.Frag} {s a : Addr} {H H' : Hp} {xs ys : List V} (e : But s H H') (t : H s = some (.lst ys)) (h : SqT K H a xs) : SqT K H' a xs := by
  rcases h with (h | ⟨o, h⟩) | h
  · exact .inl (.inl (e _ _ (ne_of h t (by intro q; cases q)) h))
  · exact .inl (.inr ⟨o, e _ _ (ne_of h t (by intro q; cases q)) h⟩)
  · exact .inr h
theorem But.stm {s a : Addr} {H H' : Hp} (e : But s H H') (n : a ≠ s) (h : Stm H a) : Stm H' a := by
  obtain ⟨x, y, z, h⟩ := h
  exact ⟨x, y, z, e _ _ n h⟩
theorem _root_.L2.Same.back {H H' : Hp} {p : Addr} (e : Same H H') (h : H' p = none) : H p = none := e.free h
theorem But.frz {s b : Addr} {H H' : Hp} {o : Obj} {u : HO} (e : But s H H') (t : Stm H s) (h : H b = some (.frz o u)) : H' b = some (.frz o u) := by
  obtain ⟨_, _, _, t⟩ := t
  exact e b _ (ne_of h t (by intro q; cases q)) h
theorem But.sqT {K : PySem.W.Frag} {s a : Addr} {H H' : Hp} {xs : List V} (e : But s H H') (t : Stm H s) (h : SqT K H a xs) : SqT K H' a xs := by
  rcases h with (h | ⟨o, h⟩) | h
  · exact .inl (.inl (e.tup t h))
  · exact .inl (.inr ⟨o, e.frz t h⟩)
  · exact .inr h
theorem But.sqL {K : PySem.W.Frag} {s a : Addr} {H H' : Hp} {xs : List V} (e : But s H H') (n : a ≠ s) (h : SqL K H a xs) : SqL K H' a xs := by
  rcases h with (h | ⟨o, h⟩) | h
  · exact .inl (.inl (e a _ n h))
  · exact .inl (.inr ⟨o, e a _ n h⟩)
  · exact .inr h
theorem _root_.L2.Same.sqT {K : PySem.W.Frag} {H H' : Hp} {a : Addr} {xs : List V} (e : Same H H') (h : SqT K H a xs) : SqT K H' a xs := by
  rcases h with (h | ⟨o, h⟩) | h
  · exact .inl (.inl (e _ _ h))
  · exact .inl (.inr ⟨o, e _ _ h⟩)
  · exact .inr h
theorem _root_.L2.Same.sqL {K : PySem.W.Frag} {H H' : Hp} {a : Addr} {xs : List V} (e : Same H H') (h : SqL K H a xs) : SqL K H' a xs := e.seq h
theorem _root_.L2.Same.stm {H H' : Hp} {s : Addr} (e : Same H H') (h : Stm H s) : Stm H' s := by
  obtain ⟨a, b, c, h⟩ := h
  exact ⟨a, b, c, e _ _ h⟩
theorem _root_.L2.Same.at {H H' : Hp} {b : Addr} {o : HO} (e : Same H H') (h : H b = some o) : H' b = some o := e b o h
/-- a list that stands, seen past a list changed elsewhere -/
theorem sqL_upd {K : PySem.W.Frag} {H : Hp} {a p : Addr} {o : HO} {xs : List V} (n : a ≠ p) (h : SqL K H a xs) : SqL K (upd H p o) a xs := by
  rcases h with (h | ⟨u, h⟩) | h
  · exact .inl (.inl (by rw [upd_ne n]; exact h))
  · exact .inl (.inr ⟨u, by rw [upd_ne n]; exact h⟩)
  · exact .inr h
theorem sqT_updL {K : PySem.W.Frag} {H : Hp} {a p : Addr} {o : HO} {xs ys : List V} (hp : H p = some (.lst ys)) (h : SqT K H a xs) : SqT K (upd H p o) a xs := by
  rcases h with (h | ⟨u, h⟩) | h
  · exact .inl (.inl (by rw [upd_ne (ne_of h hp (by intro q; cases q))]; exact h))
  · exact .inl (.inr ⟨u, by rw [upd_ne (ne_of h hp (by intro q; cases q))]; exact h⟩)
  · exact .inr h
theorem stm_upd {H : Hp} {a p : Addr} {o : HO} (n : a ≠ p) (h : Stm H a) : Stm (upd H p o) a := by
  obtain ⟨x, y, z, h⟩ := h
  exact ⟨x, y, z, by rw [upd_ne n]; exact h⟩
theorem at_updL {H : Hp} {a p : Addr} {o u : HO} (n : a ≠ p) (h : H a = some u) : upd H p o a = some u := by rw [upd_ne n]; exact h

/-! ### readings, step by step -/
section
variable {K : PySem.W.Frag} {σ : L2.St} {H : Hp} {i : Nat} {v x y z : V} {ta tb tc te tv : TE} {Q : VK} {nx : L2.St → Hp → Prop} {rt : VK} {bk ct : L2.St → Hp → Prop} {t u : TS} {tt tu : TT}
theorem w_seq (k : t ⟨u ⟨nx, rt, bk, ct⟩, rt, bk, ct⟩ σ H) : tSeq t u ⟨nx, rt, bk, ct⟩ σ H := k
theorem w_asg {g : TG} (k : te σ H fun x H1 => g x σ H1 nx) : tAsg te g ⟨nx, rt, bk, ct⟩ σ H := k
theorem w_gName {R : L2.St → Hp → Prop} (k : R (σ.set i (some v)) H) : gName i v σ H R := k
theorem w_ret (k : te σ H rt) : tRet te ⟨nx, rt, bk, ct⟩ σ H := k
theorem w_retN (k : rt .non H) : tRetN ⟨nx, rt, bk, ct⟩ σ H := k
theorem w_drop (k : te σ H fun _ H1 => nx σ H1) : tDrop te ⟨nx, rt, bk, ct⟩ σ H := k
theorem w_next (k : nx σ H) : tNext ⟨nx, rt, bk, ct⟩ σ H := k
theorem w_break (k : bk σ H) : tBreak ⟨nx, rt, bk, ct⟩ σ H := k
theorem w_cont (k : ct σ H) : tCont ⟨nx, rt, bk, ct⟩ σ H := k
theorem w_ifS (k : tt σ H fun b H1 => if b = true then t ⟨nx, rt, bk, ct⟩ σ H1 else u ⟨nx, rt, bk, ct⟩ σ H1) : tIfS tt t u ⟨nx, rt, bk, ct⟩ σ H := k
theorem w_var (h : σ[i]? = some (some v)) (k : Q v H) : tVar i σ H Q := ⟨v, h, k⟩
theorem w_c (k : Q v H) : tC v σ H Q := k
theorem w_op {r : R2} (k : ta σ H fun x H1 => tb σ H1 fun y H2 => r x y H2 Q) : tOp r ta tb σ H Q := k
theorem w_un {r : V → Hp → VK → Prop} (k : ta σ H fun x H1 => r x H1 Q) : tUn r ta σ H Q := k
theorem w_rU {g : Int → V} {n : Int} (k : Q (g n) H) : rU g (.int n) H Q := ⟨n, rfl, k⟩
theorem w_rI0 {g : Int → Int → V} {m n : Int} (k : Q (g m n) H) : rI0 g (.int m) (.int n) H Q := ⟨m, n, rfl, rfl, k⟩
theorem w_rI {C : Int → Int → Prop} {g : Int → Int → V} {m n : Int} (c : C m n) (k : Q (g m n) H) : rI C g (.int m) (.int n) H Q := ⟨m, n, rfl, rfl, c, k⟩
theorem w_nil {R : List V → Hp → Prop} (k : R [] H) : tNil σ H R := k
theorem w_cons {tr : TA} {R : List V → Hp → Prop} (k : te σ H fun x H1 => tr σ H1 fun xs H2 => R (x :: xs) H2) : tCons te tr σ H R := k
/-- a new object -/
def NewO (o : HO) (H : Hp) (Q : VK) : Prop := ∀ p, H p = none → Q (.ref p) (upd H p o)
theorem w_new {o : HO} (k : ∀ p H', H p = none → Same H H' → H' p = some o → Q (.ref p) H') : NewO o H Q := fun p hp => k p _ hp (Same.one hp) upd_same
/-- an object changed -/
def ChgO (l : Addr) (o : HO) (H : Hp) (R : Hp → Prop) : Prop := R (upd H l o)
theorem w_chg {l : Addr} {o : HO} {R : Hp → Prop} (k : ∀ H', But l H H' → H' l = some o → R H') : ChgO l o H R := k _ (But.upd _ _ _) upd_same
theorem w_tup {tr : TA} (k : tr σ H fun xs H1 => xs.length ≤ sizeLine ∧ NewO (.tup xs) H1 Q) : tTup tr σ H Q := k
theorem w_lst {tr : TA} (k : tr σ H fun xs H1 => xs.length ≤ sizeLine ∧ NewO (.lst xs) H1 Q) : tLst tr σ H Q := k
theorem w_cb {r : List V → Hp → VK → Prop} {tr : TA} (k : tr σ H fun vs H1 => r vs H1 Q) : tCB r tr σ H Q := k
theorem w_call {sp : Sp} {E : XK} {tr : TA} (k : tr σ H fun vs H1 => sp vs H1 Q E) : tCall sp [] E tr σ H Q := by
  show tr σ H fun vs H1 => sp (vs ++ []) H1 Q E
  simp only [List.append_nil]
  exact k
theorem w_chain {r r' : R2} (k : ta σ H fun x H1 => tb σ H1 fun y H2 => r x y H2 fun z H3 => ∃ k, z = .bl k ∧ if k = true then tc σ H3 (fun w H4 => r' y w H4 Q) else Q (.bl false) H3) : tChain r r' ta tb tc σ H Q := k
theorem w_test {R : Bool → Hp → Prop} (k : te σ H fun x H' => ∃ b, x = .bl b ∧ R b H') : tTest te σ H R := k
theorem w_tB {R : Bool → Hp → Prop} (k : te σ H fun x H' => ∃ b, x = .bl b ∧ R b H') : tB te σ H R := k
theorem w_bl {b : Bool} {R : Bool → Prop} (k : R b) : ∃ c, V.bl b = .bl c ∧ R c := ⟨b, rfl, k⟩
theorem w_and {R : Bool → Hp → Prop} (k : tt σ H fun c H1 => if c = true then tu σ H1 R else R false H1) : tAnd tt tu σ H R := k
theorem w_or {R : Bool → Hp → Prop} (k : tt σ H fun c H1 => if c = true then R true H1 else tu σ H1 R) : tOr tt tu σ H R := k
theorem w_not {R : Bool → Hp → Prop} (k : tt σ H fun c H1 => R (!c) H1) : tNot tt σ H R := k
theorem w_andV (k : ta σ H fun x H1 => ∃ c, x = .bl c ∧ if c = true then tb σ H1 Q else Q (.bl false) H1) : tAndV ta tb σ H Q := k
theorem w_orV (k : ta σ H fun x H1 => ∃ c, x = .bl c ∧ if c = true then Q (.bl true) H1 else tb σ H1 Q) : tOrV ta tb σ H Q := k
theorem w_ifE (k : tt σ H fun c H1 => if c = true then ta σ H1 Q else tb σ H1 Q) : tIf tt ta tb σ H Q := k
theorem w_notV (k : ta σ H fun x H1 => ∃ c, x = .bl c ∧ Q (.bl (!c)) H1) : tNotV ta σ H Q := k

/-- or, and: of two tests that leave the heap -/
theorem w_orP (p q : Prop) [Decidable p] [Decidable q] {R : Bool → Hp → Prop} (ht : ∀ S : Bool → Hp → Prop, S (decide p) H → tt σ H S) (hu : ∀ S : Bool → Hp → Prop, S (decide q) H → tu σ H S) (k : ∀ b : Bool, (b = true ↔ p ∨ q) → R b H) : tOr tt tu σ H R := by
  refine w_or (ht _ ?_)
  by_cases hp : p
  · rw [decide_eq_true hp]; exact iteT (k _ (by simp [hp]))
  · rw [decide_eq_false hp]; exact iteF (hu _ (k _ (by simp [hp])))
theorem w_andP (p q : Prop) [Decidable p] [Decidable q] {R : Bool → Hp → Prop} (ht : ∀ S : Bool → Hp → Prop, S (decide p) H → tt σ H S) (hu : ∀ S : Bool → Hp → Prop, S (decide q) H → tu σ H S) (k : ∀ b : Bool, (b = true ↔ p ∧ q) → R b H) : tAnd tt tu σ H R := by
  refine w_and (ht _ ?_)
  by_cases hp : p
  · rw [decide_eq_true hp]; exact iteT (hu _ (k _ (by simp [hp])))
  · rw [decide_eq_false hp]; exact iteF (k _ (by simp [hp]))
/-- and, or: first what either answer comes to, where Φ of the heap -/
theorem w_andK (Φ : Hp → Prop) {R : Bool → Hp → Prop} (hR : ∀ b H', Φ H' → R b H') (k : (∀ b H', Φ H' → R b H') → tt σ H fun c H1 => if c = true then tu σ H1 R else R false H1) : tAnd tt tu σ H R := k hR
theorem w_andF (Φ : Hp → Prop) {R : Bool → Hp → Prop} (hR : ∀ H', Φ H' → R false H') (k : (∀ H', Φ H' → R false H') → tt σ H fun c H1 => if c = true then tu σ H1 R else R false H1) : tAnd tt tu σ H R := k hR
theorem w_orK (Φ : Hp → Prop) {R : Bool → Hp → Prop} (hR : ∀ b H', Φ H' → R b H') (k : (∀ b H', Φ H' → R b H') → tt σ H fun c H1 => if c = true then R true H1 else tu σ H1 R) : tOr tt tu σ H R := k hR
theorem w_nT {A B : Prop} (k : B) : if (!true) = true then A else B := k
theorem w_nF {A B : Prop} (k : A) : if (!false) = true then A else B := k
theorem w_decT {p A B : Prop} [Decidable p] (h : p) (k : A) : if decide p = true then A else B := by rw [decide_eq_true h]; exact iteT k
theorem w_decF {p A B : Prop} [Decidable p] (h : ¬ p) (k : B) : if decide p = true then A else B := by rw [decide_eq_false h]; exact iteF k
/-! ### operators, together -/
def rAddS : R2 := fun x y H Q => ∃ i j, x = .str i ∧ y = .str j ∧ i.length + j.length ≤ sizeLine ∧ Q (.str (i ++ j)) H
def rAddA (K : PySem.W.Frag) : R2 := fun x y H Q => rI0 (fun i j => .int (i + j)) x y H Q ∨ (rAddS x y H Q ∨ (rCat x y H Q ∨ rCatT K x y H Q))
theorem op_addA {X : Cx} {K : PySem.W.Frag} (hK : X.K = K) : OpR X (binaryOp .Add) (rAddA K) := by
  subst hK
  exact op_add.or (OpR.or (r := rAddS) op_add_str (op_cat.or op_catT))
theorem w_addI {m n : Int} (k : Q (.int (m + n)) H) : rAddA K (.int m) (.int n) H Q := .inl ⟨m, n, rfl, rfl, k⟩
theorem w_addS {a b : Str} (h : a.length + b.length ≤ sizeLine) (k : Q (.str (a ++ b)) H) : rAddA K (.str a) (.str b) H Q := .inr (.inl ⟨a, b, rfl, rfl, h, k⟩)
theorem w_addL {l b : Addr} {xs zs : List V} (h1 : H l = some (.lst xs)) (h2 : H b = some (.lst zs)) (h : xs.length + zs.length ≤ sizeLine) (k : NewO (.lst (xs ++ zs)) H Q) :
    rAddA K (.ref l) (.ref b) H Q := .inr (.inr (.inl ⟨l, b, xs, zs, rfl, rfl, h1, h2, h, k⟩))
def rMulA : R2 := fun x y H Q => rI CMul (fun i j => .int (i * j)) x y H Q ∨ rRep x y H Q
theorem op_mulA {X : Cx} : OpR X (binaryOp .Mult) rMulA := op_mul.or op_rep
theorem w_mulI {m n : Int} (c : CMul m n) (k : Q (.int (m * n)) H) : rMulA (.int m) (.int n) H Q := .inl ⟨m, n, rfl, rfl, c, k⟩
def rEqA (K : PySem.W.Frag) : R2 := fun x y H Q => rEq x y H Q ∨ rEqD K x y H Q
def rNeA (K : PySem.W.Frag) : R2 := fun x y H Q => rNe x y H Q ∨ rNeD K x y H Q
theorem op_eqA {X : Cx} {K : PySem.W.Frag} (hK : X.K = K) (hu : X.A.units + 64 < cLine) : OpR X (compareOp .Eq) (rEqA K) := by
  subst hK
  exact op_eq.or (op_eqD hu)
theorem op_neA {X : Cx} {K : PySem.W.Frag} (hK : X.K = K) (hu : X.A.units + 64 < cLine) : OpR X (compareOp .NotEq) (rNeA K) := by
  subst hK
  exact op_ne.or (op_neD hu)
theorem w_eqI {m n : Int} (k : Q (.bl (decide (m = n))) H) : rEqA K (.int m) (.int n) H Q := .inl ⟨rfl, by rw [show decide (V.int m = V.int n) = decide (m = n) by rw [dec_int]; rfl]; exact k⟩
theorem w_neI {m n : Int} (k : Q (.bl (!decide (m = n))) H) : rNeA K (.int m) (.int n) H Q := .inl ⟨rfl, by rw [show decide (V.int m = V.int n) = decide (m = n) by rw [dec_int]; rfl]; exact k⟩
theorem w_eqS {m n : Str} (k : Q (.bl (decide (m = n))) H) : rEqA K (.str m) (.str n) H Q := .inl ⟨rfl, by rw [dec_str]; exact k⟩
theorem w_neS {m n : Str} (k : Q (.bl (!decide (m = n))) H) : rNeA K (.str m) (.str n) H Q := .inl ⟨rfl, by rw [dec_str]; exact k⟩
theorem w_eqB {m n : Bool} (k : Q (.bl (m == n)) H) : rEqA K (.bl m) (.bl n) H Q := .inl ⟨rfl, by rw [dec_bl]; exact k⟩
theorem w_neB {m n : Bool} (k : Q (.bl (!(m == n))) H) : rNeA K (.bl m) (.bl n) H Q := .inl ⟨rfl, by rw [dec_bl]; exact k⟩
theorem w_eqD {d e : PyData} (hd : Dp K H x d) (he : Dp K H y e) (sd : SeqAt.shaped d = true) (se : SeqAt.shaped e = true) (k : Q (.bl (PyData.eqv d e)) H) : rEqA K x y H Q := .inr ⟨d, e, hd, he, sd, se, k⟩
theorem w_neD {d e : PyData} (hd : Dp K H x d) (he : Dp K H y e) (sd : SeqAt.shaped d = true) (se : SeqAt.shaped e = true) (k : Q (.bl (!PyData.eqv d e)) H) : rNeA K x y H Q := .inr ⟨d, e, hd, he, sd, se, k⟩
/-- in, of texts and of things in a list or a tuple -/
def rInStr (neg : Bool) : R2 := fun x y H Q => ∃ i j, x = .str i ∧ y = .str j ∧ Q (.bl (if neg then !(!(Builtin.Str.occurrences j i 0 j.length 1).isEmpty) else !(Builtin.Str.occurrences j i 0 j.length 1).isEmpty)) H
def rInA (K : PySem.W.Frag) (neg : Bool) : R2 := fun x y H Q => rIn K neg x y H Q ∨ rInStr neg x y H Q
theorem op_inA {X : Cx} {K : PySem.W.Frag} (hK : X.K = K) : OpR X (compareOp .In) (rInA K false) := by
  subst hK
  exact op_in_seq.or (fun pins s σ H x y v u Q I rx ry h => op_in_str pins s σ H x y v u Q I rx ry h)
theorem op_notInA {X : Cx} {K : PySem.W.Frag} (hK : X.K = K) : OpR X (compareOp .NotIn) (rInA K true) := by
  subst hK
  exact op_notIn_seq.or (fun pins s σ H x y v u Q I rx ry h => op_notIn_str pins s σ H x y v u Q I rx ry h)
theorem w_inL {p : Addr} {xs : List V} (h : SqL K H p xs) (hx : flatV x = true) (ha : xs.all flatV = true) (k : Q (.bl (inV x xs)) H) : rInA K false x (.ref p) H Q := .inl ⟨p, xs, rfl, .inl h, hx, ha, k⟩
theorem w_inT {p : Addr} {xs : List V} (h : SqT K H p xs) (hx : flatV x = true) (ha : xs.all flatV = true) (k : Q (.bl (inV x xs)) H) : rInA K false x (.ref p) H Q := .inl ⟨p, xs, rfl, .inr h, hx, ha, k⟩
theorem w_niL {p : Addr} {xs : List V} (h : SqL K H p xs) (hx : flatV x = true) (ha : xs.all flatV = true) (k : Q (.bl (!inV x xs)) H) : rInA K true x (.ref p) H Q := .inl ⟨p, xs, rfl, .inl h, hx, ha, k⟩
theorem w_niT {p : Addr} {xs : List V} (h : SqT K H p xs) (hx : flatV x = true) (ha : xs.all flatV = true) (k : Q (.bl (!inV x xs)) H) : rInA K true x (.ref p) H Q := .inl ⟨p, xs, rfl, .inr h, hx, ha, k⟩
/-- subscripts -/
theorem ix_any {X : Cx} {K : PySem.W.Frag} (hK : X.K = K) : IxR X (rIx K) := by
  subst hK
  exact ix_seq
theorem w_ixL {p : Addr} {xs : List V} {n : Int} (h : SqL K H p xs) (ha : atI xs n = some v) (k : Q v H) : rIx K (.ref p) (.int n) H Q := .inl ⟨p, xs, n, v, rfl, rfl, h, ha, k⟩
theorem w_ixT {p : Addr} {xs : List V} {n : Int} (h : SqT K H p xs) (ha : atI xs n = some v) (k : Q v H) : rIx K (.ref p) (.int n) H Q := .inr (.inl ⟨p, xs, n, v, rfl, rfl, h, ha, k⟩)
theorem w_ixS {a : Str} {c : Nat} {n : Int} (h : a.length ≤ sizeLine) (ha : atI a.cps.toList n = some c) (k : Q (.str ⟨#[c]⟩) H) : rIx K (.str a) (.int n) H Q := .inr (.inr ⟨a, n, c, rfl, rfl, h, ha, k⟩)
/-! slices -/
def rSlAny (K : PySem.W.Frag) : V → Option Int → Option Int → Hp → VK → Prop := fun x lo hi H Q => rSlL K x lo hi H Q ∨ (rSlS x lo hi H Q ∨ rSlA K x lo hi H Q)
/-- calls -/
def rInt1 : List V → Hp → VK → Prop := fun xs H Q => (∃ i, xs = [.int i] ∧ Q (.int i) H) ∨ ∃ k, xs = [.bl k] ∧ Q (.int (if k then 1 else 0)) H
theorem call_int1A {X : Cx} : CallR X (.type "int") rInt1 := call_int1
theorem w_int1 {n : Int} (k : Q (.int n) H) : rInt1 [.int n] H Q := .inl ⟨n, rfl, k⟩
theorem w_int1b {b : Bool} (k : Q (.int (if b then 1 else 0)) H) : rInt1 [.bl b] H Q := .inr ⟨b, rfl, k⟩
def rLenA (K : PySem.W.Frag) : List V → Hp → VK → Prop := fun xs H Q => ∃ x n, xs = [x] ∧ LenV K x H n ∧ Q (.int n) H
theorem call_lenA {X : Cx} {K : PySem.W.Frag} (hK : X.K = K) : CallR X (.builtin "len") (rLenA K) := by
  subst hK
  exact call_len
theorem w_lenL {p : Addr} {xs : List V} (h : SqL K H p xs) (k : Q (.int xs.length) H) : rLenA K [.ref p] H Q := ⟨_, _, rfl, .inl ⟨xs, h, rfl⟩, k⟩
theorem w_lenT {p : Addr} {xs : List V} (h : SqT K H p xs) (k : Q (.int xs.length) H) : rLenA K [.ref p] H Q := ⟨_, _, rfl, .inr ⟨xs, h, rfl⟩, k⟩
theorem w_lenS {a : Str} (h : a.length ≤ sizeLine) (k : Q (.int a.length) H) : rLenA K [.str a] H Q := ⟨_, _, rfl, ⟨h, rfl⟩, k⟩
def rAbsA : List V → Hp → VK → Prop := fun xs H Q => ∃ i, xs = [.int i] ∧ Q (.int (if i < 0 then -i else i)) H
theorem call_absA {X : Cx} : CallR X (.builtin "abs") rAbsA := call_abs
def rMax2 : List V → Hp → VK → Prop := fun xs H Q => ∃ i j, xs = [.int i, .int j] ∧ Q (.int (if j > i then j else i)) H
def rMin2 : List V → Hp → VK → Prop := fun xs H Q => ∃ i j, xs = [.int i, .int j] ∧ Q (.int (if j < i then j else i)) H
theorem call_max2A {X : Cx} (hc : X.calm = true) : CallR X (.builtin "max") rMax2 := call_max2 hc
theorem call_min2A {X : Cx} (hc : X.calm = true) : CallR X (.builtin "min") rMin2 := call_min2 hc
theorem max_if (i j : Int) : (if j > i then j else i) = max i j := by split <;> omega
theorem min_if (i j : Int) : (if j < i then j else i) = min i j := by split <;> omega
theorem w_max2 {i j : Int} (k : Q (.int (max i j)) H) : rMax2 [.int i, .int j] H Q := ⟨i, j, rfl, by rw [max_if]; exact k⟩
theorem w_min2 {i j : Int} (k : Q (.int (min i j)) H) : rMin2 [.int i, .int j] H Q := ⟨i, j, rfl, by rw [min_if]; exact k⟩
def rBool1 : List V → Hp → VK → Prop := fun xs H Q => (∃ i, xs = [.int i] ∧ Q (.bl (i != 0)) H) ∨ ∃ k, xs = [.bl k] ∧ Q (.bl k) H
theorem call_bool1A {X : Cx} : CallR X (.type "bool") rBool1 := call_bool1
def rStrI : List V → Hp → VK → Prop := fun xs H Q => ∃ i, xs = [.int i] ∧ i.natAbs.log2 < 1920 ∧ Q (.str (toString i)) H
theorem call_strA {X : Cx} : CallR X (.type "str") rStrI := call_str_int
theorem w_strI {n : Int} (h : n.natAbs.log2 < 1920) (k : Q (.str (toString n)) H) : rStrI [.int n] H Q := ⟨n, rfl, h, k⟩
theorem w_size {xs : List V} {R : Prop} (h : xs.length ≤ sizeLine) (k : R) : xs.length ≤ sizeLine ∧ R := ⟨h, k⟩
/-- stores by place -/
theorem w_gSub {to ti : TE} {ts : TSet} {R : L2.St → Hp → Prop} (k : to σ H fun o H1 => ti σ H1 fun i H2 => ts o i v H2 fun H3 => R σ H3) : gSub to ti ts v σ H R := k
theorem w_setL {l : Addr} {xs : List V} {n : Int} {j : Nat} {R : Hp → Prop} (h : H l = some (.lst xs)) (hj : ixN xs.length n = some j) (k : ChgO l (.lst (xs.set j v)) H R) : rSetL (.ref l) (.int n) v H R := ⟨l, xs, n, j, rfl, rfl, h, hj, k⟩
/-- methods of lists -/
theorem w_bm {T : String} {r : V → List V → Hp → VK → Prop} {tr : TA} (k : ta σ H fun x H1 => tyV K T x H1 ∧ tr σ H1 fun xs H2 => r x xs H2 Q) : tBM K T r ta tr σ H Q := k
theorem w_bm0 {T : String} {r : V → List V → Hp → VK → Prop} (k : ta σ H fun x H1 => tyV K T x H1 ∧ r x [] H1 Q) : tBM0 K T r ta σ H Q := k
theorem w_tyL {p : Addr} {xs : List V} {R : Prop} (h : SqL K H p xs) (k : R) : tyV K "list" (.ref p) H ∧ R := ⟨.inl ⟨rfl, xs, h⟩, k⟩
theorem w_tyS {a : Str} {R : Prop} (k : R) : tyV K "str" (.str a) H ∧ R := ⟨rfl, k⟩
theorem w_append {l : Addr} {xs : List V} (h : H l = some (.lst xs)) (hz : xs.length < sizeLine) (k : ChgO l (.lst (xs ++ [v])) H (Q .non)) : rAppend (.ref l) [v] H Q := ⟨l, xs, v, rfl, rfl, h, hz, k⟩
theorem w_clear {l : Addr} {xs : List V} (h : H l = some (.lst xs)) (k : ChgO l (.lst []) H (Q .non)) : rClear (.ref l) [] H Q := ⟨l, xs, rfl, rfl, h, k⟩
end

/-! ### loops -/
section
variable {K : PySem.W.Frag} {σ : L2.St} {H : Hp} {a D : Addr} {xs : List V} {g : TG} {tb : TS} {nx : L2.St → Hp → Prop} {rt : VK} {bk ct : L2.St → Hp → Prop} {tl te : TE} {ta : TA} {tt : TT} {Q : VK} {vs : List Nat} {j : Nat}
def WFor (J : It) (g : TG) (tb : TS) (nx : L2.St → Hp → Prop) (rt : VK) (σ : L2.St) (H : Hp) : Prop := ∃ W : Nat → Nat → L2.St → Hp → Prop, (∃ m, W 0 m σ H) ∧ ∀ i m σ H, W i m σ H →
  (J.stop i H ∧ nx σ H) ∨ (J.go i H ∧ ∃ N : L2.St → Hp → Prop, (∀ σ' H', N σ' H' → ∃ m', m' < m ∧ W (i + 1) m' σ' H') ∧ ∀ x H', J.yld i H x H' → g x σ H' fun σ2 H2 => tb ⟨N, rt, nx, N⟩ σ2 H2)
theorem w_forL (k : tl σ H fun x H1 => ∃ a, x = .ref a ∧ (∃ xs, SqL K H1 a xs) ∧ WFor (Itl K a) g tb nx rt σ H1) : tFor (iList K tl) g tb ⟨nx, rt, bk, ct⟩ σ H := k
theorem w_forT (k : tl σ H fun x H1 => ∃ a, x = .ref a ∧ (∃ xs, SqT K H1 a xs) ∧ WFor (Itt K a) g tb nx rt σ H1) : tFor (iTup K tl) g tb ⟨nx, rt, bk, ct⟩ σ H := k
theorem w_forR1 (k : ta σ H fun vs H1 => ∃ j : Int, vs = [.int j] ∧ -(2 ^ 62) ≤ j ∧ j < 2 ^ 62 ∧ WFor (Itr 0 j.toNat) g tb nx rt σ H1) : tFor (iRng1 ta) g tb ⟨nx, rt, bk, ct⟩ σ H := k
theorem w_forR2 (k : ta σ H fun vs H1 => ∃ i j : Int, vs = [.int i, .int j] ∧ (-(2 ^ 62) ≤ i ∧ i < 2 ^ 62 ∧ -(2 ^ 62) ≤ j ∧ j < 2 ^ 62) ∧ WFor (Itr i (j - i).toNat) g tb nx rt σ H1) : tFor (iRng2 ta) g tb ⟨nx, rt, bk, ct⟩ σ H := k
/-- over a list that stands: the word by the turn, the slots, the heap -/
theorem fl_list (xs : List V) (Pv : Nat → L2.St → Hp → Prop) (hS : SqL K H a xs) (h0 : Pv 0 σ H) (hl : ∀ i σ H, i ≤ xs.length → Pv i σ H → SqL K H a xs)
    (hs : ∀ i x σ H, xs[i]? = some x → Pv i σ H → g x σ H fun σ2 H2 => tb ⟨Pv (i + 1), rt, nx, Pv (i + 1)⟩ σ2 H2) (hd : ∀ σ H, Pv xs.length σ H → nx σ H) :
    ∃ b, V.ref a = .ref b ∧ (∃ xs, SqL K H b xs) ∧ WFor (Itl K b) g tb nx rt σ H := ⟨a, rfl, ⟨xs, hS⟩, for_list (D := ⟨nx, rt, fun _ _ => False, fun _ _ => False⟩) Pv h0 hl hs hd⟩
theorem fl_tup (xs : List V) (Pv : Nat → L2.St → Hp → Prop) (hS : SqT K H a xs) (h0 : Pv 0 σ H) (hl : ∀ i σ H, i ≤ xs.length → Pv i σ H → SqT K H a xs)
    (hs : ∀ i x σ H, xs[i]? = some x → Pv i σ H → g x σ H fun σ2 H2 => tb ⟨Pv (i + 1), rt, nx, Pv (i + 1)⟩ σ2 H2) (hd : ∀ σ H, Pv xs.length σ H → nx σ H) :
    ∃ b, V.ref a = .ref b ∧ (∃ xs, SqT K H b xs) ∧ WFor (Itt K b) g tb nx rt σ H := ⟨a, rfl, ⟨xs, hS⟩, for_tup (D := ⟨nx, rt, fun _ _ => False, fun _ _ => False⟩) Pv h0 hl hs hd⟩
theorem fl_rng1 {n : Int} (Pv : Nat → L2.St → Hp → Prop) (hb : n < 2 ^ 62) (hb0 : -(2 ^ 62) ≤ n) (h0 : Pv 0 σ H)
    (hs : ∀ i σ H, i < n.toNat → Pv i σ H → g (.int (i : Int)) σ H fun σ2 H2 => tb ⟨Pv (i + 1), rt, nx, Pv (i + 1)⟩ σ2 H2) (hd : ∀ σ H, Pv n.toNat σ H → nx σ H) :
    ∃ j : Int, [V.int n] = [.int j] ∧ -(2 ^ 62) ≤ j ∧ j < 2 ^ 62 ∧ WFor (Itr 0 j.toNat) g tb nx rt σ H := by
  refine ⟨n, rfl, hb0, hb, for_range (D := ⟨nx, rt, fun _ _ => False, fun _ _ => False⟩) Pv h0 (fun i σ H hi p => ?_) hd⟩
  rw [Int.zero_add]
  exact hs i σ H hi p
theorem fl_rng2 {m n : Int} (Pv : Nat → L2.St → Hp → Prop) (hb : -(2 ^ 62) ≤ m ∧ m < 2 ^ 62 ∧ -(2 ^ 62) ≤ n ∧ n < 2 ^ 62) (h0 : Pv 0 σ H)
    (hs : ∀ i σ H, i < (n - m).toNat → Pv i σ H → g (.int (m + (i : Int))) σ H fun σ2 H2 => tb ⟨Pv (i + 1), rt, nx, Pv (i + 1)⟩ σ2 H2) (hd : ∀ σ H, Pv (n - m).toNat σ H → nx σ H) :
    ∃ i j : Int, [V.int m, V.int n] = [.int i, .int j] ∧ (-(2 ^ 62) ≤ i ∧ i < 2 ^ 62 ∧ -(2 ^ 62) ≤ j ∧ j < 2 ^ 62) ∧ WFor (Itr i (j - i).toNat) g tb nx rt σ H :=
  ⟨m, n, rfl, hb, for_range (D := ⟨nx, rt, fun _ _ => False, fun _ _ => False⟩) Pv h0 hs hd⟩
/-- over a short list, turn by turn -/
def runL (K : PySem.W.Frag) (a : Addr) (all : List V) (g : TG) (tb : TS) (nx : L2.St → Hp → Prop) (rt : VK) : List V → L2.St → Hp → Prop
  | [], σ, H => nx σ H
  | x :: r, σ, H => g x σ H fun σ2 H2 => tb ⟨fun σ' H' => SqL K H' a all ∧ runL K a all g tb nx rt r σ' H', rt, nx, fun σ' H' => SqL K H' a all ∧ runL K a all g tb nx rt r σ' H'⟩ σ2 H2
theorem fl_run (xs : List V) (hS : SqL K H a xs) (k : runL K a xs g tb nx rt xs σ H) : ∃ b, V.ref a = .ref b ∧ (∃ xs, SqL K H b xs) ∧ WFor (Itl K b) g tb nx rt σ H := by
  refine fl_list xs (fun i σ H => SqL K H a xs ∧ runL K a xs g tb nx rt (xs.drop i) σ H) hS ⟨hS, by rw [List.drop_zero]; exact k⟩ (fun _ _ _ _ h => h.1) (fun i x σ H hi h => ?_) (fun σ H h => ?_)
  · have e : xs.drop i = x :: xs.drop (i + 1) := by
      obtain ⟨hl, rfl⟩ := List.getElem?_eq_some_iff.mp hi
      exact List.drop_eq_getElem_cons hl
    have h2 := h.2
    rw [e] at h2
    exact h2
  · have h2 := h.2
    rw [List.drop_length] at h2
    exact h2
theorem w_runN (k : nx σ H) : runL K a xs g tb nx rt [] σ H := k
theorem w_runC {x : V} {r : List V} (k : g x σ H fun σ2 H2 => tb ⟨fun σ' H' => SqL K H' a xs ∧ runL K a xs g tb nx rt r σ' H', rt, nx, fun σ' H' => SqL K H' a xs ∧ runL K a xs g tb nx rt r σ' H'⟩ σ2 H2) :
    runL K a xs g tb nx rt (x :: r) σ H := k
/-- the first of two, by what stands -/
theorem w_both {A B : Prop} (h : A) (k : B) : A ∧ B := ⟨h, k⟩
/-! comprehensions -/
def WLc (J : It) (g : TG) (tt : TT) (te : TE) (vs : List Nat) (σ : L2.St) (D : Addr) (H1 : Hp) (Q : VK) : Prop := ∃ W : Nat → Nat → Hp → Prop, (∃ m, W 0 m (upd H1 D (.lst []))) ∧ ∀ i m H, W i m H →
  (J.stop i H ∧ Q (.ref D) H) ∨ (J.go i H ∧ ∃ Nx : Hp → Prop, (∀ H', Nx H' → ∃ m', m' < m ∧ W (i + 1) m' H') ∧ ∀ x H', J.yld i H x H' → g x (wipe σ vs) H' fun σ2 H2 => wipe σ2 vs = wipe σ vs ∧ tt σ2 H2 fun b H3 =>
    if b = true then te σ2 H3 fun y H4 => ∃ acc, H4 D = some (.lst acc) ∧ acc.length < sizeLine ∧ Nx (upd H4 D (.lst (acc ++ [y]))) else Nx H3)
theorem w_lcL (k : tl σ H fun x H1 => ∃ a, x = .ref a ∧ (∃ xs, SqL K H1 a xs) ∧ ∀ D, H1 D = none → WLc (Itl K a) g tt te vs σ D H1 Q) : tLc (iList K tl) g tt te vs σ H Q := k
theorem w_lcT (k : tl σ H fun x H1 => ∃ a, x = .ref a ∧ (∃ xs, SqT K H1 a xs) ∧ ∀ D, H1 D = none → WLc (Itt K a) g tt te vs σ D H1 Q) : tLc (iTup K tl) g tt te vs σ H Q := k
theorem w_lcR1 (k : ta σ H fun us H1 => ∃ j : Int, us = [.int j] ∧ -(2 ^ 62) ≤ j ∧ j < 2 ^ 62 ∧ ∀ D, H1 D = none → WLc (Itr 0 j.toNat) g tt te vs σ D H1 Q) : tLc (iRng1 ta) g tt te vs σ H Q := k
theorem wipe1 (σ : L2.St) (j : Nat) (x : Option V) : wipe ((wipe σ [j]).set j x) [j] = wipe σ [j] := by
  show (((σ.set j none).set j x).set j none) = σ.set j none
  rw [List.set_set, List.set_set]
def LcEnd (D : Addr) (Pv : Nat → List V → Hp → Prop) (i : Nat) (y : V) (H4 : Hp) : Prop := ∃ acc, H4 D = some (.lst acc) ∧ acc.length < sizeLine ∧
  ∃ ys, ys.length ≤ i + 1 ∧ upd H4 D (.lst (acc ++ [y])) D = some (.lst ys) ∧ Pv (i + 1) ys (upd H4 D (.lst (acc ++ [y])))
theorem lc_end {D : Addr} {Pv : Nat → List V → Hp → Prop} {i : Nat} {y : V} {H4 : Hp} {ys : List V} (h : H4 D = some (.lst ys)) (hl : ys.length ≤ i) (hz : ys.length < sizeLine) (k : ∀ H', But D H4 H' → H' D = some (.lst (ys ++ [y])) → Pv (i + 1) (ys ++ [y]) H') : LcEnd D Pv i y H4 :=
  ⟨ys, h, hz, ys ++ [y], by rw [List.length_append]; exact Nat.succ_le_succ hl, upd_same, k _ (But.upd _ _ _) upd_same⟩
def LcSkip (D : Addr) (Pv : Nat → List V → Hp → Prop) (i : Nat) (H4 : Hp) : Prop := ∃ ys, ys.length ≤ i + 1 ∧ H4 D = some (.lst ys) ∧ Pv (i + 1) ys H4
theorem lc_skip {D : Addr} {Pv : Nat → List V → Hp → Prop} {i : Nat} {H4 : Hp} {ys : List V} (h : H4 D = some (.lst ys)) (hl : ys.length ≤ i) (k : Pv (i + 1) ys H4) : LcSkip D Pv i H4 := ⟨ys, Nat.le_succ_of_le hl, h, k⟩
/-- over a list: the word by the turn, the list so far, the heap; any test -/
theorem lc_L (xs : List V) (Pv : Addr → Nat → List V → Hp → Prop) (hS : SqL K H a xs) (h0 : ∀ D H', H D = none → Same H H' → H' D = some (.lst []) → Pv D 0 [] H')
    (hl : ∀ D, H D = none → ∀ i ys H', i ≤ xs.length → H' D = some (.lst ys) → Pv D i ys H' → SqL K H' a xs)
    (hs : ∀ D, H D = none → ∀ i x ys H', xs[i]? = some x → ys.length ≤ i → H' D = some (.lst ys) → Pv D i ys H' → tt ((wipe σ [j]).set j (some x)) H' fun b H3 => if b = true then te ((wipe σ [j]).set j (some x)) H3 fun y H4 => LcEnd D (Pv D) i y H4 else LcSkip D (Pv D) i H3)
    (hd : ∀ D, H D = none → ∀ ys H', ys.length ≤ xs.length → H' D = some (.lst ys) → Pv D xs.length ys H' → Q (.ref D) H') :
    ∃ b, V.ref a = .ref b ∧ (∃ xs, SqL K H b xs) ∧ ∀ D, H D = none → WLc (Itl K b) (gName j) tt te [j] σ D H Q :=
  ⟨a, rfl, ⟨xs, hS⟩, fun D hD => lc_list (xs := xs) (fun i H' => ∃ ys, ys.length ≤ i ∧ H' D = some (.lst ys) ∧ Pv D i ys H') ⟨[], Nat.le_refl _, upd_same, h0 D _ hD (Same.one hD) upd_same⟩ (fun i H' hi ⟨ys, _, e, p⟩ => hl D hD i ys H' hi e p)
    (fun i x H' hi ⟨ys, e, e2, p⟩ => ⟨wipe1 _ _ _, hs D hD i x ys H' hi e e2 p⟩) (fun H' ⟨ys, e, e2, p⟩ => hd D hD ys H' e e2 p)⟩
theorem lc_T (xs : List V) (Pv : Addr → Nat → List V → Hp → Prop) (hS : SqT K H a xs) (h0 : ∀ D H', H D = none → Same H H' → H' D = some (.lst []) → Pv D 0 [] H')
    (hl : ∀ D, H D = none → ∀ i ys H', i ≤ xs.length → H' D = some (.lst ys) → Pv D i ys H' → SqT K H' a xs)
    (hs : ∀ D, H D = none → ∀ i x ys H', xs[i]? = some x → ys.length ≤ i → H' D = some (.lst ys) → Pv D i ys H' → tt ((wipe σ [j]).set j (some x)) H' fun b H3 => if b = true then te ((wipe σ [j]).set j (some x)) H3 fun y H4 => LcEnd D (Pv D) i y H4 else LcSkip D (Pv D) i H3)
    (hd : ∀ D, H D = none → ∀ ys H', ys.length ≤ xs.length → H' D = some (.lst ys) → Pv D xs.length ys H' → Q (.ref D) H') :
    ∃ b, V.ref a = .ref b ∧ (∃ xs, SqT K H b xs) ∧ ∀ D, H D = none → WLc (Itt K b) (gName j) tt te [j] σ D H Q :=
  ⟨a, rfl, ⟨xs, hS⟩, fun D hD => lc_tup (xs := xs) (fun i H' => ∃ ys, ys.length ≤ i ∧ H' D = some (.lst ys) ∧ Pv D i ys H') ⟨[], Nat.le_refl _, upd_same, h0 D _ hD (Same.one hD) upd_same⟩ (fun i H' hi ⟨ys, _, e, p⟩ => hl D hD i ys H' hi e p)
    (fun i x H' hi ⟨ys, e, e2, p⟩ => ⟨wipe1 _ _ _, hs D hD i x ys H' hi e e2 p⟩) (fun H' ⟨ys, e, e2, p⟩ => hd D hD ys H' e e2 p)⟩
theorem lc_R1 {n : Int} (Pv : Addr → Nat → List V → Hp → Prop) (hb0 : -(2 ^ 62) ≤ n) (hb : n < 2 ^ 62) (h0 : ∀ D H', H D = none → Same H H' → H' D = some (.lst []) → Pv D 0 [] H')
    (hs : ∀ D, H D = none → ∀ (i : Nat) ys H', i < n.toNat → ys.length ≤ i → H' D = some (.lst ys) → Pv D i ys H' → tt ((wipe σ [j]).set j (some (.int (i : Int)))) H' fun b H3 => if b = true then te ((wipe σ [j]).set j (some (.int (i : Int)))) H3 fun y H4 => LcEnd D (Pv D) i y H4 else LcSkip D (Pv D) i H3)
    (hd : ∀ D, H D = none → ∀ ys H', ys.length ≤ n.toNat → H' D = some (.lst ys) → Pv D n.toNat ys H' → Q (.ref D) H') :
    ∃ m : Int, [V.int n] = [.int m] ∧ -(2 ^ 62) ≤ m ∧ m < 2 ^ 62 ∧ ∀ D, H D = none → WLc (Itr 0 m.toNat) (gName j) tt te [j] σ D H Q :=
  ⟨n, rfl, hb0, hb, fun D hD => lc_range (lo := 0) (n := n.toNat) (fun i H' => ∃ ys, ys.length ≤ i ∧ H' D = some (.lst ys) ∧ Pv D i ys H') ⟨[], Nat.le_refl _, upd_same, h0 D _ hD (Same.one hD) upd_same⟩
    (fun i H' hi ⟨ys, e, e2, p⟩ => by
      rw [Int.zero_add]
      exact ⟨wipe1 _ _ _, hs D hD i ys H' hi e e2 p⟩) (fun H' ⟨ys, e, e2, p⟩ => hd D hD ys H' e e2 p)⟩
theorem w_yes {R : Bool → Hp → Prop} (k : R true H) : tYes σ H R := k
end

/-! ### data -/
mutual
/-- data of None, ints, texts, lists, tuples, not too deep: what == tells of it is whether it is the same -/
def clean : PyData → Bool
  | .none => true
  | .int _ => true
  | .str x => PyData.strOk x
  | .list xs => cleanAll xs
  | .tuple xs => cleanAll xs
  | .bool _ => false
  | .dict _ => false
def cleanAll : List PyData → Bool
  | [] => true
  | x :: xs => clean x && cleanAll xs
end
mutual
theorem clean_lay : ∀ d : PyData, clean d = true → d.canLay0 = true
  | .none, _ => by rw [PyData.canLay0]
  | .int _, _ => by rw [PyData.canLay0]
  | .str x, h => by rw [PyData.canLay0]; rw [clean] at h; exact h
  | .list xs, h => by rw [PyData.canLay0]; rw [clean] at h; exact cleanAll_lay xs h
  | .tuple xs, h => by rw [PyData.canLay0]; rw [clean] at h; exact cleanAll_lay xs h
  | .bool _, h => by rw [clean] at h; cases h
  | .dict _, h => by rw [clean] at h; cases h
theorem cleanAll_lay : ∀ ds : List PyData, cleanAll ds = true → PyData.canLayAll0 ds = true
  | [], _ => by rw [PyData.canLayAll0]
  | x :: xs, h => by
    rw [cleanAll, Bool.and_eq_true] at h
    rw [PyData.canLayAll0, clean_lay x h.1, cleanAll_lay xs h.2]; rfl
end
mutual
theorem clean_eqv : ∀ d e : PyData, clean d = true → clean e = true → (PyData.eqv d e = true ↔ d = e)
  | .none, e, _, _ => by cases e <;> simp [PyData.eqv]
  | .int i, e, _, he => by cases e <;> simp [PyData.eqv]; simp [clean] at he
  | .str x, e, _, _ => by cases e <;> simp [PyData.eqv]
  | .list xs, e, h, he => by
    cases e <;> simp [PyData.eqv]
    simp only [clean] at h he
    exact cleanAll_eqv xs _ h he
  | .tuple xs, e, h, he => by
    cases e <;> simp [PyData.eqv]
    simp only [clean] at h he
    exact cleanAll_eqv xs _ h he
  | .bool _, _, h, _ => by simp [clean] at h
  | .dict _, _, h, _ => by simp [clean] at h
theorem cleanAll_eqv : ∀ ds es : List PyData, cleanAll ds = true → cleanAll es = true → (PyData.eqvAll ds es = true ↔ ds = es)
  | [], es, _, _ => by cases es <;> simp [PyData.eqvAll]
  | x :: xs, [], _, _ => by simp [PyData.eqvAll]
  | x :: xs, y :: ys, h, he => by
    simp only [cleanAll, Bool.and_eq_true] at h he
    simp only [PyData.eqvAll, Bool.and_eq_true, clean_eqv x y h.1 he.1, cleanAll_eqv xs ys h.2 he.2, List.cons.injEq]
end
/-- to be compared by == -/
structure Cmp (d : PyData) : Prop where
  clean : clean d = true
  depth : d.depth ≤ 64
theorem Cmp.shaped {d : PyData} (c : Cmp d) : SeqAt.shaped d = true := by
  unfold SeqAt.shaped
  rw [clean_lay d c.clean, Bool.true_and, decide_eq_true_eq]
  exact c.depth
theorem eqv_iff {d e : PyData} (c : Cmp d) (c' : Cmp e) : PyData.eqv d e = true ↔ d = e := clean_eqv d e c.clean c'.clean
open Classical in
theorem w_eqP {K : PySem.W.Frag} {H : Hp} {x y : V} {Q : VK} {d e : PyData} (hd : Dp K H x d) (he : Dp K H y e) (cd : Cmp d) (ce : Cmp e) (k : ∀ b : Bool, (b = true ↔ d = e) → Q (.bl b) H) : rEqA K x y H Q :=
  w_eqD hd he cd.shaped ce.shaped (k _ (eqv_iff cd ce))
theorem w_neP {K : PySem.W.Frag} {H : Hp} {x y : V} {Q : VK} {d e : PyData} (hd : Dp K H x d) (he : Dp K H y e) (cd : Cmp d) (ce : Cmp e) (k : ∀ b : Bool, (b = true ↔ d ≠ e) → Q (.bl b) H) : rNeA K x y H Q :=
  w_neD hd he cd.shaped ce.shaped (k _ (by
    have h := eqv_iff cd ce
    cases hb : PyData.eqv d e <;> rw [hb] at h <;> simp at h ⊢ <;> exact h))
theorem dpAll_ints {K : PySem.W.Frag} {H : Hp} : ∀ ns : List Int, DpAll K H (ns.map V.int) (ns.map PyData.int)
  | [] => .nil
  | n :: ns => .cons (.int n) (dpAll_ints ns)
theorem dp_ints {K : PySem.W.Frag} {H : Hp} {a : Addr} {ns : List Int} (h : SqL K H a (ns.map V.int)) : Dp K H (.ref a) (.list (ns.map PyData.int)) := .lst h (dpAll_ints ns)
theorem cleanAll_ints : ∀ ns : List Int, cleanAll (ns.map PyData.int) = true
  | [] => by simp [cleanAll]
  | n :: ns => by rw [List.map_cons, cleanAll, cleanAll_ints ns, clean]; rfl
theorem depthAll_ints : ∀ ns : List Int, PyData.depthAll (ns.map PyData.int) = 0
  | [] => by simp [PyData.depthAll]
  | n :: ns => by rw [List.map_cons, PyData.depthAll, depthAll_ints ns, PyData.depth]; rfl
theorem cmp_ints (ns : List Int) : Cmp (.list (ns.map PyData.int)) := ⟨by rw [clean]; exact cleanAll_ints ns, by rw [PyData.depth, depthAll_ints]; decide⟩
theorem map_int_inj {ns ms : List Int} : PyData.list (ns.map PyData.int) = .list (ms.map PyData.int) ↔ ns = ms := by
  constructor
  · intro h
    have h2 : ns.map PyData.int = ms.map PyData.int := by injection h
    exact (List.map_inj_right (f := PyData.int) (fun x y e => by injection e)).mp h2
  · intro h; rw [h]
theorem w_eqIL {K : PySem.W.Frag} {H : Hp} {p q : Addr} {Q : VK} {ns ms : List Int} (h1 : SqL K H p (ns.map V.int)) (h2 : SqL K H q (ms.map V.int)) (k : Q (.bl (decide (ns = ms))) H) : rEqA K (.ref p) (.ref q) H Q :=
  w_eqP (dp_ints h1) (dp_ints h2) (cmp_ints _) (cmp_ints _) fun b hb => by
    rw [map_int_inj] at hb
    rw [show b = decide (ns = ms) by rw [Bool.eq_iff_iff, hb, decide_eq_true_eq]]
    exact k
theorem w_neIL {K : PySem.W.Frag} {H : Hp} {p q : Addr} {Q : VK} {ns ms : List Int} (h1 : SqL K H p (ns.map V.int)) (h2 : SqL K H q (ms.map V.int)) (k : Q (.bl (!decide (ns = ms))) H) : rNeA K (.ref p) (.ref q) H Q :=
  w_neP (dp_ints h1) (dp_ints h2) (cmp_ints _) (cmp_ints _) fun b hb => by
    rw [ne_eq, map_int_inj] at hb
    rw [show b = !decide (ns = ms) by rw [Bool.eq_iff_iff, hb]; simp]
    exact k
/-! slices -/
section
variable {K : PySem.W.Frag} {σ : L2.St} {H : Hp} {te : TE} {tl th : TO} {Q : VK} {a : Addr} {xs : List V} {lo hi : Option Int}
theorem sl_any {X : Cx} {K : PySem.W.Frag} (hK : X.K = K) : SlR X (rSlAny K) := by
  subst hK
  exact sl_list.or (sl_str.or sl_tupA)
theorem w_sl {r : V → Option Int → Option Int → Hp → VK → Prop} (k : te σ H fun x H1 => tl σ H1 fun l H2 => th σ H2 fun u H3 => r x l u H3 Q) : tSl r te tl th σ H Q := k
theorem w_noPart {R : Option Int → Hp → Prop} (k : R none H) : tNoPart σ H R := k
theorem w_part {R : Option Int → Hp → Prop} (k : te σ H fun x H1 => ∃ i, x = .int i ∧ R (some i) H1) : tPart te σ H R := k
theorem w_int {R : Int → Prop} {n : Int} (k : R n) : ∃ i, V.int n = .int i ∧ R i := ⟨n, rfl, k⟩
theorem w_slL (h : SqL K H a xs) (k : NewO (.lst (cutV xs lo hi)) H Q) : rSlAny K (.ref a) lo hi H Q := .inl ⟨a, xs, rfl, h, k⟩
theorem w_slS {z : Str} (h : z.length ≤ sizeLine) (k : Q (.str (cutS z lo hi)) H) : rSlAny K (.str z) lo hi H Q := .inr (.inl ⟨z, rfl, h, k⟩)
theorem w_rep {l : Addr} {n : Int} (h : H l = some (.lst xs)) (h0 : -(2 ^ 63) ≤ n) (h1 : n < 2 ^ 63) (hz : xs.length * n.toNat ≤ sizeLine) (k : NewO (.lst (List.replicate n.toNat xs).flatten) H Q) : rMulA (.ref l) (.int n) H Q :=
  .inr ⟨l, n, xs, rfl, rfl, h, h0, h1, hz, k⟩
end

/-! ### unpacking: a tuple or a list -/
def gSeq (K : PySem.W.Frag) (n : Nat) (t : TGs) : TG := fun v σ H Q => gLst K n t v σ H Q ∨ gTup K n t v σ H Q
theorem pg_seq {X : Cx} {K : PySem.W.Frag} {pos : Pos} {es : List Expr} {k : Nat} {t : TGs} (n : Nat) (hK : X.K = K) (hc : X.calm = true) (h : PGs X es t)
    (hn : (assignEach es X.env).length = n := by rfl) (hst : (assignEach es X.env).findIdx? (·.1) = none := by rfl) : PG X (.Tuple es k pos) (gSeq K n t) := by
  subst hK
  refine ⟨fun pins s σ H v u Q I r hw => ?_⟩
  rcases hw with hw | hw
  · exact (pg_lst hc h hn hst).run pins s σ H v u Q I r hw
  · exact (pg_tup hc h hn hst).run pins s σ H v u Q I r hw
section
variable {K : PySem.W.Frag} {σ : L2.St} {H : Hp} {R : L2.St → Hp → Prop} {t : TGs} {g : TG} {xs : List V} {a : Addr} {v : V} {n : Nat}
theorem w_seqL (h : SqL K H a xs) (hl : xs.length = n) (k : t xs σ H R) : gSeq K n t (.ref a) σ H R := .inl ⟨a, xs, rfl, h, hl, k⟩
theorem w_seqT (h : SqT K H a xs) (hl : xs.length = n) (k : t xs σ H R) : gSeq K n t (.ref a) σ H R := .inr ⟨a, xs, rfl, h, hl, k⟩
theorem w_gNil (k : R σ H) : gNil [] σ H R := ⟨rfl, k⟩
theorem w_gCons (k : g v σ H fun σ' H' => t xs σ' H' R) : gCons g t (v :: xs) σ H R := ⟨v, xs, rfl, k⟩
end

/-! ### walks of any kind -/
section
variable {K : PySem.W.Frag} {σ : L2.St} {H : Hp} {a b D : Addr} {xs ys : List V} {g : TG} {tb : TS} {nx : L2.St → Hp → Prop} {rt : VK} {bk ct : L2.St → Hp → Prop} {tl te : TE} {ta : TA} {tt : TT} {Q : VK} {vs : List Nat} {J : It} {n : Nat} {G : Hp → Prop} {Y : Nat → Hp → V → Hp → Prop}
theorem wfor_it (w : Walk J n G Y) (Pv : Nat → L2.St → Hp → Prop) (h0 : Pv 0 σ H) (hG : ∀ i σ H, i ≤ n → Pv i σ H → G H)
    (hs : ∀ i x σ H H', i < n → Pv i σ H → Y i H x H' → g x σ H' fun σ2 H2 => tb ⟨Pv (i + 1), rt, nx, Pv (i + 1)⟩ σ2 H2) (hd : ∀ σ H, Pv n σ H → nx σ H) : WFor J g tb nx rt σ H :=
  for_it (D := ⟨nx, rt, fun _ _ => False, fun _ _ => False⟩) w Pv h0 hG hs hd
theorem wlc_it (w : Walk J n G Y) (Pv : Addr → Nat → List V → Hp → Prop) (h0 : ∀ D H', H D = none → Same H H' → H' D = some (.lst []) → Pv D 0 [] H') (hG : ∀ D, H D = none → ∀ i ys H', i ≤ n → H' D = some (.lst ys) → Pv D i ys H' → G H')
    (hs : ∀ D, H D = none → ∀ i x ys H0 H', i < n → ys.length ≤ i → H0 D = some (.lst ys) → Pv D i ys H0 → Y i H0 x H' → g x (wipe σ vs) H' fun σ2 H2 => wipe σ2 vs = wipe σ vs ∧ tt σ2 H2 fun b H3 => if b = true then te σ2 H3 fun y H4 => LcEnd D (Pv D) i y H4 else LcSkip D (Pv D) i H3)
    (hd : ∀ D, H D = none → ∀ ys H', ys.length ≤ n → H' D = some (.lst ys) → Pv D n ys H' → Q (.ref D) H') : ∀ D, H D = none → WLc J g tt te vs σ D H Q := fun D hD =>
  lc_it w (fun i H' => ∃ ys, ys.length ≤ i ∧ H' D = some (.lst ys) ∧ Pv D i ys H') ⟨[], Nat.le_refl _, upd_same, h0 D _ hD (Same.one hD) upd_same⟩ (fun i H' hi ⟨ys, _, e, p⟩ => hG D hD i ys H' hi e p)
    (fun i x H0 H' hi ⟨ys, e, e2, p⟩ y => hs D hD i x ys H0 H' hi e e2 p y) (fun H' ⟨ys, e, e2, p⟩ => hd D hD ys H' e e2 p)
theorem w_forZ (k : ta σ H fun vs H1 => ∃ a b xs ys, vs = [.ref a, .ref b] ∧ SqL K H1 a xs ∧ SqL K H1 b ys ∧ WFor (Itz K a b) g tb nx rt σ H1) : tFor (iZip K ta) g tb ⟨nx, rt, bk, ct⟩ σ H := k
theorem w_forE (k : ta σ H fun vs H1 => ∃ a xs, vs = [.ref a] ∧ SqL K H1 a xs ∧ WFor (Ite K a) g tb nx rt σ H1) : tFor (iEnum K ta) g tb ⟨nx, rt, bk, ct⟩ σ H := k
theorem w_forV (k : te σ H fun v H1 => ∃ (a : Addr) (xs : List V), v = .ref a ∧ ((SqL K H1 a xs ∧ WFor (Itv K a xs.length) g tb nx rt σ H1) ∨ (SqT K H1 a xs ∧ WFor (RT.ItvT K a xs.length) g tb nx rt σ H1))) : tFor (RT.iRevA K te) g tb ⟨nx, rt, bk, ct⟩ σ H := k
theorem w_lcZ (k : ta σ H fun us H1 => ∃ a b xs ys, us = [.ref a, .ref b] ∧ SqL K H1 a xs ∧ SqL K H1 b ys ∧ ∀ D, H1 D = none → WLc (Itz K a b) g tt te vs σ D H1 Q) : tLc (iZip K ta) g tt te vs σ H Q := k
theorem w_lcE (k : ta σ H fun us H1 => ∃ a xs, us = [.ref a] ∧ SqL K H1 a xs ∧ ∀ D, H1 D = none → WLc (Ite K a) g tt te vs σ D H1 Q) : tLc (iEnum K ta) g tt te vs σ H Q := k
/-- zip of two lists, each turn a new pair -/
theorem fl_zip (Pv : Nat → L2.St → Hp → Prop) (hx : SqL K H a xs) (hy : SqL K H b ys) (h0 : Pv 0 σ H) (hG : ∀ i σ H, i ≤ min xs.length ys.length → Pv i σ H → SqL K H a xs ∧ SqL K H b ys)
    (hs : ∀ i x y T σ H H', xs[i]? = some x → ys[i]? = some y → Pv i σ H → H T = none → Same H H' → H' T = some (.tup [x, y]) → g (.ref T) σ H' fun σ2 H2 => tb ⟨Pv (i + 1), rt, nx, Pv (i + 1)⟩ σ2 H2) (hd : ∀ σ H, Pv (min xs.length ys.length) σ H → nx σ H) :
    ∃ p q us ws, [V.ref a, .ref b] = [.ref p, .ref q] ∧ SqL K H p us ∧ SqL K H q ws ∧ WFor (Itz K p q) g tb nx rt σ H :=
  ⟨a, b, xs, ys, rfl, hx, hy, wfor_it (walk_zip rfl) Pv h0 hG (fun i v σ H H' hi p ⟨T, x, y, e, nT, e2, h1, h2⟩ => by subst e e2; exact hs i x y T σ H _ h1 h2 p nT (Same.one nT) upd_same) hd⟩
theorem fl_enum (Pv : Nat → L2.St → Hp → Prop) (hx : SqL K H a xs) (h0 : Pv 0 σ H) (hG : ∀ i σ H, i ≤ xs.length → Pv i σ H → SqL K H a xs)
    (hs : ∀ i x T σ H H', xs[i]? = some x → Pv i σ H → H T = none → Same H H' → H' T = some (.tup [.int (i : Nat), x]) → g (.ref T) σ H' fun σ2 H2 => tb ⟨Pv (i + 1), rt, nx, Pv (i + 1)⟩ σ2 H2) (hd : ∀ σ H, Pv xs.length σ H → nx σ H) :
    ∃ p us, [V.ref a] = [.ref p] ∧ SqL K H p us ∧ WFor (Ite K p) g tb nx rt σ H :=
  ⟨a, xs, rfl, hx, wfor_it walk_enum Pv h0 hG (fun i v σ H H' hi p ⟨T, x, y, e, nT, e2, h1, h2⟩ => by
    subst e e2
    obtain rfl : V.int (i : Nat) = x := Option.some.inj h1
    exact hs i y T σ H _ h2 p nT (Same.one nT) upd_same) hd⟩
theorem fl_rev (Pv : Nat → L2.St → Hp → Prop) (hx : SqL K H a xs) (h0 : Pv 0 σ H) (hG : ∀ i σ H, i ≤ xs.length → Pv i σ H → SqL K H a xs)
    (hs : ∀ i x σ H, i < xs.length → xs[xs.length - 1 - i]? = some x → Pv i σ H → g x σ H fun σ2 H2 => tb ⟨Pv (i + 1), rt, nx, Pv (i + 1)⟩ σ2 H2) (hd : ∀ σ H, Pv xs.length σ H → nx σ H) :
    ∃ (p : Addr) (us : List V), V.ref a = .ref p ∧ ((SqL K H p us ∧ WFor (Itv K p us.length) g tb nx rt σ H) ∨ (SqT K H p us ∧ WFor (RT.ItvT K p us.length) g tb nx rt σ H)) :=
  ⟨a, xs, rfl, .inl ⟨hx, wfor_it walk_rev Pv h0 hG (fun i x σ H H' hi p ⟨e, h⟩ => by subst e; exact hs i x σ _ hi h p) hd⟩⟩
/-- [e for x, y in zip(xs, ys) if ..], its names at i and j -/
theorem wipe2 (σ : L2.St) (i j : Nat) (x y : Option V) (h : i ≠ j) : wipe (((wipe σ [i, j]).set i x).set j y) [i, j] = wipe σ [i, j] := by
  show ((((((σ.set j none).set i none).set i x).set j y).set j none).set i none) = (σ.set j none).set i none
  apply List.ext_getElem?
  intro k
  simp only [List.getElem?_set, List.length_set]
  grind
theorem lc_zip {i0 j0 : Nat} (hij : i0 ≠ j0) (Pv : Addr → Nat → List V → Hp → Prop) (hx : SqL K H a xs) (hy : SqL K H b ys) (h0 : ∀ D H', H D = none → Same H H' → H' D = some (.lst []) → Pv D 0 [] H')
    (hG : ∀ D, H D = none → ∀ i zs H', i ≤ min xs.length ys.length → H' D = some (.lst zs) → Pv D i zs H' → SqL K H' a xs ∧ SqL K H' b ys)
    (hs : ∀ D, H D = none → ∀ i x y zs H0 H', xs[i]? = some x → ys[i]? = some y → zs.length ≤ i → H0 D = some (.lst zs) → Pv D i zs H0 → Same H0 H' → tt (((wipe σ [i0, j0]).set i0 (some x)).set j0 (some y)) H' fun b H3 => if b = true then te (((wipe σ [i0, j0]).set i0 (some x)).set j0 (some y)) H3 fun y H4 => LcEnd D (Pv D) i y H4 else LcSkip D (Pv D) i H3)
    (hd : ∀ D, H D = none → ∀ zs H', zs.length ≤ min xs.length ys.length → H' D = some (.lst zs) → Pv D (min xs.length ys.length) zs H' → Q (.ref D) H') :
    ∃ p q us ws, [V.ref a, .ref b] = [.ref p, .ref q] ∧ SqL K H p us ∧ SqL K H q ws ∧ ∀ D, H D = none → WLc (Itz K p q) (gSeq K 2 (gCons (gName i0) (gCons (gName j0) gNil))) tt te [i0, j0] σ D H Q :=
  ⟨a, b, xs, ys, rfl, hx, hy, wlc_it (walk_zip rfl) Pv h0 hG (fun D hD i v zs H0 H' hi hl e p ⟨T, x, y, ev, nT, e2, h1, h2⟩ => by
    subst ev e2
    exact w_seqT (SqT.of upd_same) rfl (w_gCons (w_gName (w_gCons (w_gName (w_gNil ⟨wipe2 _ _ _ _ _ hij, hs D hD i x y zs H0 _ h1 h2 hl e p (Same.one nT)⟩)))))) hd⟩
end
/-! ### isinstance -/
section
variable {K : PySem.W.Frag} {H : Hp} {Q : VK} {x : V}
theorem call_isiA {X : Cx} {K : PySem.W.Frag} (hK : X.K = K) : CallR X (.builtin "isinstance") (rIsi K) := by
  subst hK
  exact call_isi
theorem pe_gS {X : Cx} {x z : Str} {pos : Pos} (hg : Gl X x) (hm : ∃ t, X.mg x = some (.str z t)) (hd : (x == ("__debug__" : Str)) = false := by decide) : PE X (.Name x pos) (tC (.str z)) := by
  obtain ⟨t, hm⟩ := hm
  exact pe_glob hg hm ⟨t, rfl⟩ hd
theorem pe_gI {X : Cx} {x : Str} {z : Int} {pos : Pos} (hg : Gl X x) (hm : ∃ t, X.mg x = some (.int z t)) (hd : (x == ("__debug__" : Str)) = false := by decide) : PE X (.Name x pos) (tC (.int z)) := by
  obtain ⟨t, hm⟩ := hm
  exact pe_glob hg hm ⟨t, rfl⟩ hd
theorem w_isi {T : String} {a : String} {b : Bool} (h : TyX K H x (.type a)) (e : kitB a T = some b) (k : Q (.bl b) H) : rIsi K [x, .ty T] H Q := ⟨x, .ty T, .type a, .type T, b, rfl, .ty T, h, kit_ty e, k⟩
theorem ty_int {n : Int} : TyX K H (.int n) (.type "int") := .base (.int n)
theorem ty_bl {n : Bool} : TyX K H (.bl n) (.type "bool") := .base (.bl n)
theorem ty_str {n : Str} : TyX K H (.str n) (.type "str") := .base (.str n)
theorem ty_non : TyX K H .non (.type "NoneType") := .base .non
theorem ty_lst {a : Addr} {xs : List V} (h : H a = some (.lst xs)) : TyX K H (.ref a) (.type "list") := .base (.lst h)
theorem ty_sqT {a : Addr} {xs : List V} (h : SqT K H a xs) : TyX K H (.ref a) (.type "tuple") := by
  rcases h with (h | ⟨o, h⟩) | ⟨o, its, n, e, c, _⟩
  · exact .base (.tup h)
  · exact .fTuple h
  · exact .kTuple e c
theorem ty_tup {a : Addr} {xs : List V} (h : H a = some (.tup xs)) : TyX K H (.ref a) (.type "tuple") := .base (.tup h)
theorem ty_dic {a : Addr} {xs : List (Key × V)} (h : H a = some (.dK xs)) : TyX K H (.ref a) (.type "dict") := .base (.dK h)
/-- isinstance with a written tuple of classes -/
def kitAnyB (a : String) : List String → Option Bool
  | [] => some false
  | T :: r => match kitB a T with
    | some true => some true
    | some false => kitAnyB a r
    | none => none
theorem kitAnyB_ok {a : String} : ∀ {Ts : List String} {b : Bool}, kitAnyB a Ts = some b → PySem.W.kitAny K (.type a) (Ts.map Value.type) = some b
  | [], b, h => by
    have : some false = some b := h
    rw [← this]; exact kitAny_nil
  | T :: r, b, h => by
    unfold kitAnyB at h
    cases e : kitB a T with
    | none => rw [e] at h; cases h
    | some c =>
      rw [e] at h
      cases c with
      | true =>
        have : some true = some b := h
        cases this
        exact kitAny_cons (kit_ty e) (fun z => nomatch z) (fun _ => rfl)
      | false => exact kitAny_cons (kit_ty e) (fun _ => kitAnyB_ok h) (fun z => nomatch z)
theorem paired_ty : ∀ Ts : List String, Paired ClsV (Ts.map V.ty) (Ts.map Value.type)
  | [] => .nil
  | T :: r => .cons (.ty T) (paired_ty r)
theorem call_isiTA {X : Cx} {K : PySem.W.Frag} (hK : X.K = K) : CallR X (.builtin "isinstance") (rIsiT K) := by
  subst hK
  exact call_isiT
theorem w_isiT {tp : Addr} {a : String} {b : Bool} (Ts : List String) (h1 : H tp = some (.tup (Ts.map V.ty))) (h : TyX K H x (.type a)) (e : kitAnyB a Ts = some b) (k : Q (.bl b) H) : rIsiT K [x, .ref tp] H Q :=
  ⟨x, tp, _, .type a, _, b, rfl, h1, paired_ty Ts, h, kitAnyB_ok e, k⟩
/-- tuple(xs), list(xs) -/
def rTupOf (K : PySem.W.Frag) : List V → Hp → VK → Prop := fun xs H Q => ∃ p ys, xs = [.ref p] ∧ ((SqL K H p ys ∧ NewO (.tup ys) H Q) ∨ (SqT K H p ys ∧ Q (.ref p) H))
theorem call_tupA {X : Cx} {K : PySem.W.Frag} (hK : X.K = K) : CallR X (.type "tuple") (rTupOf K) := by
  subst hK
  exact call_tuple_of
theorem w_tupL {p : Addr} {ys : List V} (h : SqL K H p ys) (k : NewO (.tup ys) H Q) : rTupOf K [.ref p] H Q := ⟨p, ys, rfl, .inl ⟨h, k⟩⟩
theorem w_tupT {p : Addr} {ys : List V} (h : SqT K H p ys) (k : Q (.ref p) H) : rTupOf K [.ref p] H Q := ⟨p, ys, rfl, .inr ⟨h, k⟩⟩
def rListOf (K : PySem.W.Frag) : List V → Hp → VK → Prop := fun xs H Q => ∃ p ys, xs = [.ref p] ∧ (SqL K H p ys ∨ SqT K H p ys) ∧ NewO (.lst ys) H Q
theorem call_listA {X : Cx} {K : PySem.W.Frag} (hK : X.K = K) : CallR X (.type "list") (rListOf K) := by
  subst hK
  exact call_list_of
theorem w_listL {p : Addr} {ys : List V} (h : SqL K H p ys) (k : NewO (.lst ys) H Q) : rListOf K [.ref p] H Q := ⟨p, ys, rfl, .inl h, k⟩
theorem w_listT {p : Addr} {ys : List V} (h : SqT K H p ys) (k : NewO (.lst ys) H Q) : rListOf K [.ref p] H Q := ⟨p, ys, rfl, .inr h, k⟩
theorem w_slT {σ : L2.St} {lo hi : Option Int} {a : Addr} {xs : List V} (h : SqT K H a xs) (n : ¬ (HT.sIx xs.length 0 lo = 0 ∧ HT.sIx xs.length xs.length hi = xs.length)) (k : NewO (.tup (cutV xs lo hi)) H Q) : rSlAny K (.ref a) lo hi H Q :=
  .inr (.inr ⟨a, xs, rfl, h, fun z => (n z).elim, fun _ => k⟩)
/-- t[1:] -/
theorem cut1 (x : V) (xs : List V) : cutV (x :: xs) (some 1) none = xs := by
  unfold cutV
  have e : HT.sIx (x :: xs).length 0 (some 1) = 1 := by
    show (if (1 : Int) < 0 then ((1 : Int) + ((x :: xs).length : Int)).toNat else min (1 : Int).toNat (x :: xs).length) = 1
    rw [if_neg (by decide), List.length_cons]
    show min 1 (xs.length + 1) = 1
    omega
  rw [e, HT.sIx_none, List.drop_one, List.tail_cons, List.take_of_length_le (by rw [List.length_cons]; omega)]
theorem w_slT1 {σ : L2.St} {a : Addr} {x : V} {xs : List V} (h : SqT K H a (x :: xs)) (k : NewO (.tup xs) H Q) : rSlAny K (.ref a) (some 1) none H Q := w_slT (σ := σ) h (by
  intro ⟨z, _⟩
  have e : HT.sIx (x :: xs).length 0 (some 1) = 1 := by
    show (if (1 : Int) < 0 then ((1 : Int) + ((x :: xs).length : Int)).toNat else min (1 : Int).toNat (x :: xs).length) = 1
    rw [if_neg (by decide), List.length_cons]
    show min 1 (xs.length + 1) = 1
    omega
  rw [e] at z
  cases z) (by rw [cut1]; exact k)
/-- xs[::-1] -/
theorem w_revL {σ : L2.St} {te : TE} (k : te σ H fun x H1 => ∃ a xs, x = .ref a ∧ SqL K H1 a xs ∧ NewO (.lst xs.reverse) H1 Q) : tRevL K te σ H Q := k
theorem w_ref2 {a : Addr} {xs : List V} {R : Addr → List V → Prop} (k : R a xs) : ∃ b ys, V.ref a = .ref b ∧ R b ys := ⟨a, xs, rfl, k⟩
/-- dicts: displays, look-ups -/
theorem w_disp {σ : L2.St} {trs : List (TE × TE)} (k : ∀ p H', H p = none → Same H H' → H' p = some (.dK []) → tPairs trs σ H' fun ps H2 => H2 p = some (.dK []) ∧ ∃ kvs : List (Key × V), ps = kvs.map (fun kv => (kV kv.1, kv.2)) ∧ kvs.length ≤ 15 ∧ ChgO p (.dK (mergeK [] kvs)) H2 (Q (.ref p))) : tDisp trs σ H Q :=
  fun p hp => k p _ hp (Same.one hp) upd_same
theorem w_pairN {σ : L2.St} {R : List (V × V) → Hp → Prop} (k : R [] H) : tPairs [] σ H R := k
theorem w_pairC {σ : L2.St} {tk tv : TE} {r : List (TE × TE)} {R : List (V × V) → Hp → Prop} (k : tk σ H fun x H1 => tv σ H1 fun y H2 => tPairs r σ H2 fun ps H3 => R ((x, y) :: ps) H3) : tPairs ((tk, tv) :: r) σ H R := k
theorem w_dget {σ : L2.St} {td ty : TE} (k : td σ H fun x H1 => ty σ H1 fun y H2 => ∃ a v, x = .ref a ∧ DGet H2 a y (some v) ∧ Q v H2) : tDGet td ty σ H Q := k
theorem w_dgotS {a : Addr} {kvs : List (Key × V)} {z : Str} {v : V} {R : V → Prop} (h : H a = some (.dK kvs)) (e : valV kvs (.inr z) = some v) (k : R v) : ∃ b v, V.ref a = .ref b ∧ DGet H b (.str z) (some v) ∧ R v := ⟨a, v, rfl, by rw [← e]; exact DGet.k (k := .inr z) h, k⟩
theorem w_dgotI {a : Addr} {kvs : List (Key × V)} {z : Int} {v : V} {R : V → Prop} (h : H a = some (.dK kvs)) (e : valV kvs (.inl z) = some v) (k : R v) : ∃ b v, V.ref a = .ref b ∧ DGet H b (.int z) (some v) ∧ R v := ⟨a, v, rfl, by rw [← e]; exact DGet.k (k := .inl z) h, k⟩
/-- texts in lists, and their == -/
theorem dpAll_strs : ∀ ns : List Str, DpAll K H (ns.map V.str) (ns.map PyData.str)
  | [] => .nil
  | n :: ns => .cons (.str n) (dpAll_strs ns)
theorem dp_strs {a : Addr} {ns : List Str} (h : SqL K H a (ns.map V.str)) : Dp K H (.ref a) (.list (ns.map PyData.str)) := .lst h (dpAll_strs ns)
theorem cleanAll_strs : ∀ ns : List Str, (ns.all PyData.strOk) = true → cleanAll (ns.map PyData.str) = true
  | [], _ => by simp [cleanAll]
  | n :: ns, h => by
    rw [List.all_cons, Bool.and_eq_true] at h
    rw [List.map_cons, cleanAll, cleanAll_strs ns h.2, clean, h.1]; rfl
theorem depthAll_strs : ∀ ns : List Str, PyData.depthAll (ns.map PyData.str) = 0
  | [] => by simp [PyData.depthAll]
  | n :: ns => by rw [List.map_cons, PyData.depthAll, depthAll_strs ns, PyData.depth]; rfl
theorem cmp_strs {ns : List Str} (h : (ns.all PyData.strOk) = true) : Cmp (.list (ns.map PyData.str)) := ⟨by rw [clean]; exact cleanAll_strs ns h, by rw [PyData.depth, depthAll_strs]; decide⟩
theorem map_str_inj {ns ms : List Str} : PyData.list (ns.map PyData.str) = .list (ms.map PyData.str) ↔ ns = ms := by
  constructor
  · intro h
    have h2 : ns.map PyData.str = ms.map PyData.str := by injection h
    exact (List.map_inj_right (f := PyData.str) (fun x y e => by injection e)).mp h2
  · intro h; rw [h]
theorem w_eqSL {p q : Addr} {ns ms : List Str} (h1 : SqL K H p (ns.map V.str)) (h2 : SqL K H q (ms.map V.str)) (o1 : (ns.all PyData.strOk) = true) (o2 : (ms.all PyData.strOk) = true) (k : Q (.bl (decide (ns = ms))) H) : rEqA K (.ref p) (.ref q) H Q :=
  w_eqP (dp_strs h1) (dp_strs h2) (cmp_strs o1) (cmp_strs o2) fun b hb => by
    rw [map_str_inj] at hb
    rw [show b = decide (ns = ms) by rw [Bool.eq_iff_iff, hb, decide_eq_true_eq]]
    exact k
theorem w_neSL {p q : Addr} {ns ms : List Str} (h1 : SqL K H p (ns.map V.str)) (h2 : SqL K H q (ms.map V.str)) (o1 : (ns.all PyData.strOk) = true) (o2 : (ms.all PyData.strOk) = true) (k : Q (.bl (!decide (ns = ms))) H) : rNeA K (.ref p) (.ref q) H Q :=
  w_neP (dp_strs h1) (dp_strs h2) (cmp_strs o1) (cmp_strs o2) fun b hb => by
    rw [ne_eq, map_str_inj] at hb
    rw [show b = !decide (ns = ms) by rw [Bool.eq_iff_iff, hb]; simp]
    exact k
/-- a text cut by another one -/
def rSplit : V → List V → Hp → VK → Prop := fun x xs H Q => ∃ a b, x = .str a ∧ xs = [.str b] ∧ (b.length == 0) = false ∧ a.length + 2 ≤ sizeLine ∧ rNewStrs (Txt.split a b) H Q
theorem mt_splitA {X : Cx} : MtR X "str.split" rSplit := mt_split
theorem w_split {a b : Str} {ys : List Str} (e : Txt.split a b = ys) (hb : (b.length == 0) = false) (ha : a.length + 2 ≤ sizeLine) (k : NewO (.lst (ys.map V.str)) H Q) : rSplit (.str a) [.str b] H Q := ⟨a, b, rfl, rfl, hb, ha, by rw [e]; exact k⟩
end

/-! ### what no tuple loses -/
def TS (H H' : Hp) : Prop := ∀ b xs, (H b = some (.tup xs) → H' b = some (.tup xs)) ∧ ∀ u, H b = some (.frz u (.tup xs)) → H' b = some (.frz u (.tup xs))
theorem TS.of {H H' : Hp} (e : Same H H') : TS H H' := fun b _ => ⟨e b _, fun _ => e b _⟩
theorem TS.butL {s : Addr} {H H' : Hp} {ys : List V} (e : But s H H') (t : H s = some (.lst ys)) : TS H H' := fun b _ => ⟨fun h => e b _ (ne_of h t (by intro q; cases q)) h, fun _ h => e b _ (ne_of h t (by intro q; cases q)) h⟩
theorem TS.butS {s : Addr} {H H' : Hp} (e : But s H H') (t : Stm H s) : TS H H' := by
  obtain ⟨_, _, _, t⟩ := t
  exact TS.butL e t
theorem TS.butI {s C dx : Addr} {fs : List (Str × V)} {H H' : Hp} (e : But s H H') (t : H s = some (.ins C dx fs)) : TS H H' := fun b _ => ⟨fun h => e b _ (ne_of h t (by intro q; cases q)) h, fun _ h => e b _ (ne_of h t (by intro q; cases q)) h⟩
theorem TS.trans {H H1 H2 : Hp} (a : TS H H1) (b : TS H1 H2) : TS H H2 := fun c xs => ⟨fun h => (b c xs).1 ((a c xs).1 h), fun u h => (b c xs).2 u ((a c xs).2 u h)⟩
theorem TS.refl (H : Hp) : TS H H := fun _ _ => ⟨fun h => h, fun _ h => h⟩
theorem TS.sqT {K : PySem.W.Frag} {H H' : Hp} {a : Addr} {xs : List V} (e : TS H H') (h : SqT K H a xs) : SqT K H' a xs := by
  rcases h with (h | ⟨o, h⟩) | h
  · exact .inl (.inl ((e a xs).1 h))
  · exact .inl (.inr ⟨o, (e a xs).2 o h⟩)
  · exact .inr h
mutual
/-- tuples all the way -/
def tupD : PyData → Bool
  | .none => true
  | .int _ => true
  | .str _ => true
  | .bool _ => true
  | .list _ => false
  | .tuple xs => tupAll xs
  | .dict _ => false
def tupAll : List PyData → Bool
  | [] => true
  | x :: xs => tupD x && tupAll xs
end
mutual
theorem dp_ts {K : PySem.W.Frag} {H H' : Hp} (e : TS H H') : ∀ (d : PyData) (v : V), tupD d = true → Dp K H v d → Dp K H' v d
  | .none, _, _, h => by cases h; exact .non
  | .int _, _, _, h => by cases h; exact .int _
  | .str _, _, _, h => by cases h; exact .str _
  | .bool _, _, _, h => by cases h; exact .bl _
  | .list _, _, t, _ => by simp [tupD] at t
  | .tuple ds, _, t, h => by
    cases h with
    | tup hs ha => exact .tup (e.sqT hs) (dpAll_ts e ds _ (by simpa [tupD] using t) ha)
  | .dict _, _, t, _ => by simp [tupD] at t
theorem dpAll_ts {K : PySem.W.Frag} {H H' : Hp} (e : TS H H') : ∀ (ds : List PyData) (vs : List V), tupAll ds = true → DpAll K H vs ds → DpAll K H' vs ds
  | [], _, _, h => by cases h; exact .nil
  | d :: ds, _, t, h => by
    rw [tupAll, Bool.and_eq_true] at t
    cases h with
    | cons h1 h2 => exact .cons (dp_ts e d _ t.1 h1) (dpAll_ts e ds _ t.2 h2)
end
section
variable {K : PySem.W.Frag} {H : Hp}
theorem dp_tup {v : V} {ds : List PyData} (h : Dp K H v (.tuple ds)) : ∃ a xs, v = .ref a ∧ SqT K H a xs ∧ DpAll K H xs ds := by
  cases h with
  | tup hs ha => exact ⟨_, _, rfl, hs, ha⟩
theorem dp_str {v : V} {x : Str} (h : Dp K H v (.str x)) : v = .str x := by cases h; rfl
theorem dp_int {v : V} {x : Int} (h : Dp K H v (.int x)) : v = .int x := by cases h; rfl
theorem dpa_nil {vs : List V} (h : DpAll K H vs []) : vs = [] := by cases h; rfl
theorem dpa_cons {vs : List V} {d : PyData} {ds : List PyData} (h : DpAll K H vs (d :: ds)) : ∃ v r, vs = v :: r ∧ Dp K H v d ∧ DpAll K H r ds := by
  cases h with
  | cons a b => exact ⟨_, _, rfl, a, b⟩
theorem dpa_len : ∀ {ds : List PyData} {vs : List V}, DpAll K H vs ds → vs.length = ds.length
  | [], _, h => by cases h; rfl
  | d :: ds, _, h => by
    cases h with
    | cons a b => rw [List.length_cons, List.length_cons, dpa_len b]
theorem dpa_app : ∀ {ds es : List PyData} {vs us : List V}, DpAll K H vs ds → DpAll K H us es → DpAll K H (vs ++ us) (ds ++ es)
  | [], _, _, _, h, h' => by cases h; exact h'
  | d :: ds, _, _, _, h, h' => by
    cases h with
    | cons a b => exact .cons a (dpa_app b h')
theorem dpa_one {v : V} {d : PyData} (h : Dp K H v d) : DpAll K H [v] [d] := .cons h .nil
theorem dpa_at : ∀ {ds : List PyData} {vs : List V} {i : Nat} {d : PyData}, DpAll K H vs ds → ds[i]? = some d → ∃ v, vs[i]? = some v ∧ Dp K H v d
  | [], _, i, _, _, e => by simp at e
  | d :: ds, _, 0, _, h, e => by
    cases h with
    | cons a b => simp at e; subst e; exact ⟨_, rfl, a⟩
  | d :: ds, _, i + 1, _, h, e => by
    cases h with
    | cons a b =>
      have q := dpa_at (ds := ds) (i := i) b (by simpa using e)
      exact q
theorem dpa_at' : ∀ {ds : List PyData} {vs : List V} {i : Nat} {v : V}, DpAll K H vs ds → vs[i]? = some v → ∃ d, ds[i]? = some d ∧ Dp K H v d
  | [], _, i, _, h, e => by cases h; simp at e
  | d :: ds, _, 0, _, h, e => by
    cases h with
    | cons a b => simp at e; subst e; exact ⟨_, rfl, a⟩
  | d :: ds, _, i + 1, _, h, e => by
    cases h with
    | cons a b =>
      have q := dpa_at' (ds := ds) (i := i) b (by simpa using e)
      exact q
theorem tupAll_app : ∀ (a b : List PyData), tupAll (a ++ b) = (tupAll a && tupAll b)
  | [], _ => by simp [tupAll]
  | x :: a, b => by rw [List.cons_append, tupAll, tupAll, tupAll_app a b, Bool.and_assoc]
theorem cleanAll_app : ∀ (a b : List PyData), cleanAll (a ++ b) = (cleanAll a && cleanAll b)
  | [], _ => by simp [cleanAll]
  | x :: a, b => by rw [List.cons_append, cleanAll, cleanAll, cleanAll_app a b, Bool.and_assoc]
end

/-! ### places -/
theorem atI_of {α : Type} {xs : List α} {n : Int} {v : α} (h0 : 0 ≤ n) (h : xs[n.toNat]? = some v) : atI xs n = some v := by
  have e : ((n.toNat : Nat) : Int) = n := Int.toNat_of_nonneg h0
  have q := atI_nat h
  rw [e] at q
  exact q
theorem at0 {α : Type} {a : α} {xs : List α} : atI (a :: xs) 0 = some a := atI_of (Int.le_refl 0) rfl
theorem at1 {α : Type} {a b : α} {xs : List α} : atI (a :: b :: xs) 1 = some b := atI_of (by decide) rfl
theorem at2 {α : Type} {a b c : α} {xs : List α} : atI (a :: b :: c :: xs) 2 = some c := atI_of (by decide) rfl
theorem atI_some {α : Type} {xs : List α} {n : Int} (h0 : 0 ≤ n) (h : n < xs.length) : ∃ v, atI xs n = some v ∧ v ∈ xs ∧ xs[n.toNat]? = some v := by
  have hl : n.toNat < xs.length := by omega
  refine ⟨xs[n.toNat], atI_of h0 (List.getElem?_eq_getElem hl), List.getElem_mem hl, List.getElem?_eq_getElem hl⟩

theorem cdw {i j : Int} (h : 0 < j) (h2 : j < 2 ^ 200) : CDivW i j := wide_div (b := 200) h (by omega) (by decide) (by decide)
/-! ### defs by names -/
/-- the def at f keeps the promise sp -/
def FnA (P : Program) (w : World) (K : PySem.W.Frag) (mg : Str → Option Value) (f : Addr) (k : Nat) (ps : List Str) (sp : Sp) : Prop :=
  ∃ fd, (∀ base, FnOk P w K mg base CX0 k f fd ps sp) ∧ Binds K fd ps [] ∧ ∀ (s : Shared) (us : List Value), us.length = ps.length → BindsTo s fd ⟨us, []⟩ (ps.zip us)
/-- the def of the name x keeps the promise sp -/
structure Fn (P : Program) (w : World) (K : PySem.W.Frag) (mg : Str → Option Value) (x : Str) (k : Nat) (ps : List Str) (sp : Sp) : Prop where
  ex : FnA P w K mg (He.ga K x) k ps sp
  gl : mg x = some (.ref (He.ga K x))
  kp : PySem.W.keepIn K (.ref (He.ga K x)) = true
section
variable {X : Cx} {k : Nat} {x : Str} {ps : List Str} {sp : Sp} {p pos : Pos} {e : Expr} {es : List Expr} {t : TA}
theorem pe_fn (F : Fn X.prog X.w X.K X.mg x k ps sp) (hr : Room k X.A) (hg : Gl X x) (ha : PA X (e :: es) t)
    (hdb : (x == ("__debug__" : Str)) = false := by decide) (he : starEach (e :: es) X.env = (false, eval e X.env) :: starEach es X.env := by rfl) (hpl : (backTo pos (starEach es X.env)).any (·.1) = false := by rfl) :
    PE X (.Call (.Name x p) (e :: es) [] pos) (tCall sp [] E0 t) := by
  obtain ⟨fd, G, b, _⟩ := F.ex
  exact pe_call (G X.base) hr hg F.gl F.kp b .nil pass0 ha hdb he hpl
theorem pe_fn0 (F : Fn X.prog X.w X.K X.mg x k ps sp) (hr : Room k X.A) (hg : Gl X x) (hdb : (x == ("__debug__" : Str)) = false := by decide) :
    PE X (.Call (.Name x p) [] [] pos) (tCall sp [] E0 tNil) := by
  obtain ⟨fd, G, b, _⟩ := F.ex
  exact pe_call0 (G X.base) hr hg F.gl F.kp b .nil pass0 hdb
end
/-- a def's data as the head tells it -/
theorem FnA.mk' {P : Program} {w : World} {K : PySem.W.Frag} {mg : Str → Option Value} {x q : Str} {k : Nat} {N ps : List Str} {sp : Sp} {args : Arguments} {body : List Stmt} {sc : Scope} {f : Addr} {fd : FuncData}
    (F : FunD K x q args body sc [] [] f fd) (S : FnScope N ps sc) (len : ∀ vs H Q E, sp vs H Q E → vs.length = ps.length)
    (hb : ∀ (kV doc pm : Value) (an : Option Addr) (cdv ct : Value) (us : List Value), us.length = ps.length → bindArgs (PySem.W.fnOf x q args body sc .none kV doc pm an cdv ct) ⟨us, []⟩ = pure (ps.zip us))
    (hbody : ∀ (base : Heap) (cdv : Value) (A : Around) (outer : List Env) (s : Shared) (H : Hp) (vs : List V) (Q : VK) (E : XK), Room k (A.deeper (envOfC q sc s.heap.objs.size f cdv)) → sp vs H Q E →
      ∃ t, PSs (cxOf CX0 P w K mg base N q sc f cdv A outer s H E).nox body t ∧ t ⟨fun _ H' => Q .non H', Q, fun _ _ => False, fun _ _ => False⟩ (start N vs) H) : FnA P w K mg f (k + 1) ps sp :=
  ⟨fd, fun base => F.ok S len fun cdv A outer s H vs Q E hr h => by
      obtain ⟨t, d, q⟩ := hbody base cdv A outer s H vs Q E hr h
      exact ⟨t, d.nox, q⟩, F.bindsN hb, F.bindsA hb⟩
theorem Fn.mk' {P : Program} {w : World} {K : PySem.W.Frag} {mg : Str → Option Value} {x : Str} {k : Nat} {N ps : List Str} {sp : Sp} {args : Arguments} {body : List Stmt} {sc : Scope} {fd : FuncData}
    (F : FunD K x x args body sc [] [] (He.ga K x) fd) (gl : mg x = some (.ref (He.ga K x))) (S : FnScope N ps sc) (len : ∀ vs H Q E, sp vs H Q E → vs.length = ps.length)
    (hb : ∀ (kV doc pm : Value) (an : Option Addr) (cdv ct : Value) (us : List Value), us.length = ps.length → bindArgs (PySem.W.fnOf x x args body sc .none kV doc pm an cdv ct) ⟨us, []⟩ = pure (ps.zip us))
    (hbody : ∀ (base : Heap) (cdv : Value) (A : Around) (outer : List Env) (s : Shared) (H : Hp) (vs : List V) (Q : VK) (E : XK), Room k (A.deeper (envOfC x sc s.heap.objs.size (He.ga K x) cdv)) → sp vs H Q E →
      ∃ t, PSs (cxOf CX0 P w K mg base N x sc (He.ga K x) cdv A outer s H E).nox body t ∧ t ⟨fun _ H' => Q .non H', Q, fun _ _ => False, fun _ _ => False⟩ (start N vs) H) : Fn P w K mg x (k + 1) ps sp :=
  ⟨FnA.mk' F S len hb hbody, gl, F.kp⟩
/-! ### classes of the text -/
def tMet (C : Addr) (m : Str) (sp : Sp) (to : TE) (t : TA) : TE := fun σ H Q => to σ H fun x H1 => ∃ a dx fs, x = .ref a ∧ H1 a = some (.ins C dx fs) ∧ fs.lookup m = none ∧ t σ H1 fun vs H2 => sp (x :: vs) H2 Q E0
def tMkI (C : Addr) (sp : Sp) (t : TA) : TE := fun σ H Q => t σ H fun vs H1 => ∀ x dx, H1 x = none → H1 dx = none → dx ≠ x → sp (.ref x :: vs) (upd (upd H1 dx (.own x)) x (.ins C dx [])) (fun v H2 => v = .non ∧ Q (.ref x) H2) E0
theorem tMet_eq (C : Addr) (m : Str) (sp : Sp) (to : TE) (t : TA) : tMeth C m sp [] E0 to t = tMet C m sp to t := by
  unfold tMeth tMet
  simp only [List.append_nil]
theorem tMkI_eq (C : Addr) (sp : Sp) (t : TA) : tMake C sp [] E0 t = tMkI C sp t := by
  unfold tMake tMkI
  simp only [List.append_nil]
theorem PE.or {X : Cx} {e : Expr} {t u : TE} (h : PE X e t) (h' : PE X e u) : PE X e (fun σ H Q => t σ H Q ∨ u σ H Q) := ⟨fun pins s σ H Q I q => by
  rcases q with q | q
  · exact h.run pins s σ H Q I q
  · exact h'.run pins s σ H Q I q⟩
section
variable {X : Cx} {K : PySem.W.Frag} {k : Nat} {m x : Str} {ps : List Str} {sp : Sp} {p pos apos : Pos} {o e : Expr} {es : List Expr} {to : TE} {t : TA} {C : Addr}
theorem pe_met {pl : Sem Bool} (F : FnA X.prog X.w X.K X.mg (He.ma K C m) k ps sp) (hK : X.K = K) (cl : Cls K C) (me : Meth K C m (He.ma K C m)) (hr : Room k X.A) (he : PE X o to) (ha : PA X (e :: es) t)
    (hst : starEach (e :: es) X.env = (false, eval e X.env) :: starEach es X.env := by rfl) (hpl : (backTo pos (starEach es X.env)).any (·.1) = false := by rfl)
    (ht : eval (.Call (.Attribute o m apos) (e :: es) [] pos) X.env = (do
      let ov ← eval o X.env
      standAt apos.atName
      let (f, first) ← holding [ov] (getMethod ov m pl)
      callWith pos f first (backTo pos (starEach (e :: es) X.env)) (backToKw pos (keywordEach [] X.env))) := by rfl) : PE X (.Call (.Attribute o m apos) (e :: es) [] pos) (tMet C m sp to t) := by
  subst hK
  obtain ⟨fd, G, b, _⟩ := F
  rw [← tMet_eq]
  exact pe_meth he cl me (G X.base) hr b .nil pass0 ha hst hpl ht
theorem pe_met0 {pl : Sem Bool} (F : FnA X.prog X.w X.K X.mg (He.ma K C m) k ps sp) (hK : X.K = K) (cl : Cls K C) (me : Meth K C m (He.ma K C m)) (hr : Room k X.A) (he : PE X o to)
    (ht : eval (.Call (.Attribute o m apos) [] [] pos) X.env = (do
      let ov ← eval o X.env
      standAt apos.atName
      let (f, first) ← holding [ov] (getMethod ov m pl)
      callWith pos f first (backTo pos (starEach [] X.env)) (backToKw pos (keywordEach [] X.env))) := by rfl) : PE X (.Call (.Attribute o m apos) [] [] pos) (tMet C m sp to tNil) := by
  subst hK
  obtain ⟨fd, G, b, _⟩ := F
  rw [← tMet_eq]
  exact pe_meth0 he cl me (G X.base) hr b .nil pass0 ht
theorem pe_mkI (F : FnA X.prog X.w X.K X.mg (He.ma K C "__init__") k ps sp) (hK : X.K = K) (M : Mk K C (He.ma K C "__init__")) (hm : X.mg x = some (.ref C)) (hr : Room (k + 1) X.A) (hg : Gl X x) (ha : PA X (e :: es) t)
    (hdb : (x == ("__debug__" : Str)) = false := by decide) (he : starEach (e :: es) X.env = (false, eval e X.env) :: starEach es X.env := by rfl) (hpl : (backTo pos (starEach es X.env)).any (·.1) = false := by rfl) :
    PE X (.Call (.Name x p) (e :: es) [] pos) (tMkI C sp t) := by
  subst hK
  obtain ⟨fd, G, b, _⟩ := F
  rw [← tMkI_eq]
  exact pe_make M (G X.base) hr hg hm b .nil pass0 ha hdb he hpl
theorem pe_mkI0 (F : FnA X.prog X.w X.K X.mg (He.ma K C "__init__") k ps sp) (hK : X.K = K) (M : Mk K C (He.ma K C "__init__")) (hm : X.mg x = some (.ref C)) (hr : Room (k + 1) X.A) (hg : Gl X x)
    (hdb : (x == ("__debug__" : Str)) = false := by decide) : PE X (.Call (.Name x p) [] [] pos) (tMkI C sp tNil) := by
  subst hK
  obtain ⟨fd, G, b, _⟩ := F
  rw [← tMkI_eq]
  exact pe_make0 M (G X.base) hr hg hm b .nil pass0 hdb
theorem pe_fldK {f : Str} (hK : X.K = K) (he : PE X o to) (hb : attributeBase o f X.env (eval o X.env) = eval o X.env := by rfl) : PE X (.Attribute o f pos) (tFld K to f) := by
  subst hK
  exact pe_fld he hb
end
section
variable {K : PySem.W.Frag} {σ : L2.St} {H : Hp} {Q : VK} {p C dx : Addr} {fs : List (Str × V)} {m f : Str} {v y : V} {sp : Sp} {to tv : TE} {t : TA} {nx : L2.St → Hp → Prop} {rt : VK} {bk ct : L2.St → Hp → Prop}
theorem w_met (k : to σ H fun x H1 => ∃ a dx fs, x = .ref a ∧ H1 a = some (.ins C dx fs) ∧ fs.lookup m = none ∧ t σ H1 fun vs H2 => sp (x :: vs) H2 Q E0) : tMet C m sp to t σ H Q := k
theorem w_metAt {R : Prop} (h : H p = some (.ins C dx fs)) (l : fs.lookup m = none) (k : R) : ∃ a dx fs, V.ref p = .ref a ∧ H a = some (.ins C dx fs) ∧ fs.lookup m = none ∧ R := ⟨p, dx, fs, rfl, h, l, k⟩
def NewI (C : Addr) (sp : Sp) (vs : List V) (H : Hp) (Q : VK) : Prop := ∀ x dx, H x = none → H dx = none → dx ≠ x → sp (.ref x :: vs) (upd (upd H dx (.own x)) x (.ins C dx [])) (fun v H2 => v = .non ∧ Q (.ref x) H2) E0
theorem w_mkI (k : t σ H fun vs H1 => NewI C sp vs H1 Q) : tMkI C sp t σ H Q := k
theorem w_newI {vs : List V} (k : ∀ x dx H', H x = none → Same H H' → H' x = some (.ins C dx []) → sp (.ref x :: vs) H' (fun v H2 => v = .non ∧ Q (.ref x) H2) E0) : NewI C sp vs H Q := fun x dx hx hdx ne =>
  k x dx _ hx (fun b o e => by
    rw [upd_ne (ne_of_none e hx), upd_ne (ne_of_none e hdx)]
    exact e) upd_same
theorem w_fld (k : to σ H fun x H1 => ∃ a C dx fs v, x = .ref a ∧ H1 a = some (.ins C dx fs) ∧ Cls K C ∧ NoAttr K C f ∧ fs.lookup f = some v ∧ Q v H1) : tFld K to f σ H Q := k
theorem w_fldAt {R : V → Prop} (h : H p = some (.ins C dx fs)) (cl : Cls K C) (na : NoAttr K C f) (l : fs.lookup f = some v) (k : R v) : ∃ a C dx fs v, V.ref p = .ref a ∧ H a = some (.ins C dx fs) ∧ Cls K C ∧ NoAttr K C f ∧ fs.lookup f = some v ∧ R v := ⟨p, C, dx, fs, v, rfl, h, cl, na, l, k⟩
theorem w_sfld (k : tv σ H fun y H1 => to σ H1 fun x H2 => ∃ a C dx fs, x = .ref a ∧ H2 a = some (.ins C dx fs) ∧ Cls K C ∧ NoAttr K C f ∧ fs.length < 1000 ∧ ChgO a (.ins C dx (putF f y fs)) H2 (nx σ)) : sFld K to tv f ⟨nx, rt, bk, ct⟩ σ H := k
theorem w_sfldAt {S : Hp → Prop} {gs : List (Str × V)} (h : H p = some (.ins C dx fs)) (cl : Cls K C) (na : NoAttr K C f) (hl : fs.length < 1000) (e : putF f y fs = gs) (k : ChgO p (.ins C dx gs) H S) :
    ∃ a C dx fs, V.ref p = .ref a ∧ H a = some (.ins C dx fs) ∧ Cls K C ∧ NoAttr K C f ∧ fs.length < 1000 ∧ ChgO a (.ins C dx (putF f y fs)) H S := ⟨p, C, dx, fs, rfl, h, cl, na, hl, by rw [e]; exact k⟩
end

end J
namespace J
open PySem PySem.Spec PyProof.Rows L2
def top (i : Nat) : Stmt := PySem.Challenge.pw_rowsjoined_k30_whole_every_order_holds_a.main.body.getD i (.Pass ⟨0, 0, 0, 0⟩)
abbrev s_is_whole : Stmt := top 1
abbrev N_is_whole : List Str := ["thing"]
theorem sc_is_whole : FnScope N_is_whole ["thing"] (defScope s_is_whole) := ⟨rfl, rfl, rfl, by decide +kernel, rfl, by decide +kernel, by decide +kernel⟩
abbrev s_is_within : Stmt := top 2
abbrev N_is_within : List Str := ["thing", "low", "high"]
theorem sc_is_within : FnScope N_is_within ["thing", "low", "high"] (defScope s_is_within) := ⟨rfl, rfl, rfl, by decide +kernel, rfl, by decide +kernel, by decide +kernel⟩
abbrev s_Partsu_initu : Stmt := inClass (top 4) 0
abbrev N_Partsu_initu : List Str := ["self"]
theorem sc_Partsu_initu : FnScope N_Partsu_initu ["self"] (defScope s_Partsu_initu) := ⟨rfl, rfl, rfl, by decide +kernel, rfl, by decide +kernel, by decide +kernel⟩
abbrev s_Parts_part_in : Stmt := inClass (top 4) 1
abbrev N_Parts_part_in : List Str := ["self", "e", "own", "one"]
theorem sc_Parts_part_in : FnScope N_Parts_part_in ["self", "e"] (defScope s_Parts_part_in) := ⟨rfl, rfl, rfl, by decide +kernel, rfl, by decide +kernel, by decide +kernel⟩
abbrev s_rests_of : Stmt := top 5
abbrev N_rests_of : List Str := ["one"]
theorem sc_rests_of : FnScope N_rests_of ["one"] (defScope s_rests_of) := ⟨rfl, rfl, rfl, by decide +kernel, rfl, by decide +kernel, by decide +kernel⟩
abbrev s_parts_and_roots : Stmt := top 6
abbrev N_parts_and_roots : List Str := ["sets", "parts", "roots", "one", "e"]
theorem sc_parts_and_roots : FnScope N_parts_and_roots ["sets"] (defScope s_parts_and_roots) := ⟨rfl, rfl, rfl, by decide +kernel, rfl, by decide +kernel, by decide +kernel⟩
abbrev s_parts_of : Stmt := top 7
abbrev N_parts_of : List Str := ["sets", "parts", "roots"]
theorem sc_parts_of : FnScope N_parts_of ["sets"] (defScope s_parts_of) := ⟨rfl, rfl, rfl, by decide +kernel, rfl, by decide +kernel, by decide +kernel⟩
abbrev s_roots_of : Stmt := top 8
abbrev N_roots_of : List Str := ["sets", "parts", "roots"]
theorem sc_roots_of : FnScope N_roots_of ["sets"] (defScope s_roots_of) := ⟨rfl, rfl, rfl, by decide +kernel, rfl, by decide +kernel, by decide +kernel⟩
abbrev s_own_parts : Stmt := top 9
abbrev N_own_parts : List Str := ["part", "one"]
theorem sc_own_parts : FnScope N_own_parts ["part"] (defScope s_own_parts) := ⟨rfl, rfl, rfl, by decide +kernel, rfl, by decide +kernel, by decide +kernel⟩
abbrev s_is_order : Stmt := top 10
abbrev N_is_order : List Str := ["parts", "order", "ahead", "number", "own"]
theorem sc_is_order : FnScope N_is_order ["parts", "order"] (defScope s_is_order) := ⟨rfl, rfl, rfl, by decide +kernel, rfl, by decide +kernel, by decide +kernel⟩
abbrev s_held_by : Stmt := top 11
abbrev N_held_by : List Str := ["sets", "order", "parts", "found", "held", "number"]
theorem sc_held_by : FnScope N_held_by ["sets", "order"] (defScope s_held_by) := ⟨rfl, rfl, rfl, by decide +kernel, rfl, by decide +kernel, by decide +kernel⟩
abbrev s_needs_of : Stmt := top 12
abbrev N_needs_of : List Str := ["e", "one", "other"]
theorem sc_needs_of : FnScope N_needs_of ["e"] (defScope s_needs_of) := ⟨rfl, rfl, rfl, by decide +kernel, rfl, by decide +kernel, by decide +kernel⟩
abbrev s_falling : Stmt := top 13
abbrev N_falling : List Str := ["sets", "roots", "found", "one", "root", "e", "number"]
theorem sc_falling : FnScope N_falling ["sets"] (defScope s_falling) := ⟨rfl, rfl, rfl, by decide +kernel, rfl, by decide +kernel, by decide +kernel⟩
abbrev s_needs_of_sets : Stmt := top 14
abbrev N_needs_of_sets : List Str := ["sets", "found", "at", "less", "told", "number"]
theorem sc_needs_of_sets : FnScope N_needs_of_sets ["sets"] (defScope s_needs_of_sets) := ⟨rfl, rfl, rfl, by decide +kernel, rfl, by decide +kernel, by decide +kernel⟩
abbrev s_law_cell : Stmt := top 16
abbrev N_law_cell : List Str := ["script", "k"]
theorem sc_law_cell : FnScope N_law_cell ["script", "k"] (defScope s_law_cell) := ⟨rfl, rfl, rfl, by decide +kernel, rfl, by decide +kernel, by decide +kernel⟩
abbrev s_law_stream : Stmt := top 17
abbrev N_law_stream : List Str := ["cell"]
theorem sc_law_stream : FnScope N_law_stream ["cell"] (defScope s_law_stream) := ⟨rfl, rfl, rfl, by decide +kernel, rfl, by decide +kernel, by decide +kernel⟩
abbrev s_law_take : Stmt := top 18
abbrev N_law_take : List Str := ["stream", "many", "digit", "number"]
theorem sc_law_take : FnScope N_law_take ["stream", "many"] (defScope s_law_take) := ⟨rfl, rfl, rfl, by decide +kernel, rfl, by decide +kernel, by decide +kernel⟩
abbrev s_law_e : Stmt := top 19
abbrev N_law_e : List Str := ["stream", "deep", "way", "sel", "number", "field", "op"]
theorem sc_law_e : FnScope N_law_e ["stream", "deep"] (defScope s_law_e) := ⟨rfl, rfl, rfl, by decide +kernel, rfl, by decide +kernel, by decide +kernel⟩
abbrev s_law_sets : Stmt := top 20
abbrev N_law_sets : List Str := ["stream", "sets", "deep", "k", "way", "sel", "one"]
theorem sc_law_sets : FnScope N_law_sets ["stream"] (defScope s_law_sets) := ⟨rfl, rfl, rfl, by decide +kernel, rfl, by decide +kernel, by decide +kernel⟩
abbrev s_law_part : Stmt := top 21
abbrev N_law_part : List Str := ["e", "parts", "inner", "one", "other"]
theorem sc_law_part : FnScope N_law_part ["e", "parts"] (defScope s_law_part) := ⟨rfl, rfl, rfl, by decide +kernel, rfl, by decide +kernel, by decide +kernel⟩
abbrev s_law_parts : Stmt := top 22
abbrev N_law_parts : List Str := ["sets", "parts", "roots", "one", "first"]
theorem sc_law_parts : FnScope N_law_parts ["sets"] (defScope s_law_parts) := ⟨rfl, rfl, rfl, by decide +kernel, rfl, by decide +kernel, by decide +kernel⟩
abbrev s_law_own : Stmt := top 23
abbrev N_law_own : List Str := ["part", "one"]
theorem sc_law_own : FnScope N_law_own ["part"] (defScope s_law_own) := ⟨rfl, rfl, rfl, by decide +kernel, rfl, by decide +kernel, by decide +kernel⟩
abbrev s_law_order : Stmt := top 24
abbrev N_law_order : List Str := ["stream", "parts", "left", "order", "ready", "one", "own"]
theorem sc_law_order : FnScope N_law_order ["stream", "parts"] (defScope s_law_order) := ⟨rfl, rfl, rfl, by decide +kernel, rfl, by decide +kernel, by decide +kernel⟩
abbrev s_law_held : Stmt := top 25
abbrev N_law_held : List Str := ["parts", "order", "held", "found", "number", "one"]
theorem sc_law_held : FnScope N_law_held ["parts", "order"] (defScope s_law_held) := ⟨rfl, rfl, rfl, by decide +kernel, rfl, by decide +kernel, by decide +kernel⟩
abbrev s_law_no_orders : Stmt := top 26
abbrev N_law_no_orders : List Str := ["stream", "parts", "order", "bad", "at", "ahead", "behind", "pairs", "number", "part", "turn", "here", "there", "some", "own"]
theorem sc_law_no_orders : FnScope N_law_no_orders ["stream", "parts", "order"] (defScope s_law_no_orders) := ⟨rfl, rfl, rfl, by decide +kernel, rfl, by decide +kernel, by decide +kernel⟩
abbrev s_law_right : Stmt := top 27
abbrev N_law_right : List Str := ["stream", "sets", "parts", "needed", "order", "handed", "held", "thing"]
theorem sc_law_right : FnScope N_law_right ["stream", "sets", "parts", "needed"] (defScope s_law_right) := ⟨rfl, rfl, rfl, by decide +kernel, rfl, by decide +kernel, by decide +kernel⟩
abbrev s_law : Stmt := top 28
abbrev N_law : List Str := ["script", "k", "stream", "sets", "parts", "roots", "turn"]
theorem sc_law : FnScope N_law ["script"] (defScope s_law) := ⟨rfl, rfl, rfl, by decide +kernel, rfl, by decide +kernel, by decide +kernel⟩
def fn : List He.DefD := [⟨("is_whole", none), "is_whole", "is_whole", defArgs s_is_whole, defBody s_is_whole, defScope s_is_whole, [], []⟩,
  ⟨("is_within", none), "is_within", "is_within", defArgs s_is_within, defBody s_is_within, defScope s_is_within, [], []⟩,
  ⟨("rests_of", none), "rests_of", "rests_of", defArgs s_rests_of, defBody s_rests_of, defScope s_rests_of, [], []⟩,
  ⟨("parts_and_roots", none), "parts_and_roots", "parts_and_roots", defArgs s_parts_and_roots, defBody s_parts_and_roots, defScope s_parts_and_roots, [], []⟩,
  ⟨("parts_of", none), "parts_of", "parts_of", defArgs s_parts_of, defBody s_parts_of, defScope s_parts_of, [], []⟩,
  ⟨("roots_of", none), "roots_of", "roots_of", defArgs s_roots_of, defBody s_roots_of, defScope s_roots_of, [], []⟩,
  ⟨("own_parts", none), "own_parts", "own_parts", defArgs s_own_parts, defBody s_own_parts, defScope s_own_parts, [], []⟩,
  ⟨("is_order", none), "is_order", "is_order", defArgs s_is_order, defBody s_is_order, defScope s_is_order, [], []⟩,
  ⟨("held_by", none), "held_by", "held_by", defArgs s_held_by, defBody s_held_by, defScope s_held_by, [], []⟩,
  ⟨("needs_of", none), "needs_of", "needs_of", defArgs s_needs_of, defBody s_needs_of, defScope s_needs_of, [], []⟩,
  ⟨("falling", none), "falling", "falling", defArgs s_falling, defBody s_falling, defScope s_falling, [], []⟩,
  ⟨("needs_of_sets", none), "needs_of_sets", "needs_of_sets", defArgs s_needs_of_sets, defBody s_needs_of_sets, defScope s_needs_of_sets, [], []⟩,
  ⟨("_law_cell", none), "_law_cell", "_law_cell", defArgs s_law_cell, defBody s_law_cell, defScope s_law_cell, [], []⟩,
  ⟨("_law_stream", none), "_law_stream", "_law_stream", defArgs s_law_stream, defBody s_law_stream, defScope s_law_stream, [], []⟩,
  ⟨("_law_take", none), "_law_take", "_law_take", defArgs s_law_take, defBody s_law_take, defScope s_law_take, [], []⟩,
  ⟨("_law_e", none), "_law_e", "_law_e", defArgs s_law_e, defBody s_law_e, defScope s_law_e, [], []⟩,
  ⟨("_law_sets", none), "_law_sets", "_law_sets", defArgs s_law_sets, defBody s_law_sets, defScope s_law_sets, [], []⟩,
  ⟨("_law_part", none), "_law_part", "_law_part", defArgs s_law_part, defBody s_law_part, defScope s_law_part, [], []⟩,
  ⟨("_law_parts", none), "_law_parts", "_law_parts", defArgs s_law_parts, defBody s_law_parts, defScope s_law_parts, [], []⟩,
  ⟨("_law_own", none), "_law_own", "_law_own", defArgs s_law_own, defBody s_law_own, defScope s_law_own, [], []⟩,
  ⟨("_law_order", none), "_law_order", "_law_order", defArgs s_law_order, defBody s_law_order, defScope s_law_order, [], []⟩,
  ⟨("_law_held", none), "_law_held", "_law_held", defArgs s_law_held, defBody s_law_held, defScope s_law_held, [], []⟩,
  ⟨("_law_no_orders", none), "_law_no_orders", "_law_no_orders", defArgs s_law_no_orders, defBody s_law_no_orders, defScope s_law_no_orders, [], []⟩,
  ⟨("_law_right", none), "_law_right", "_law_right", defArgs s_law_right, defBody s_law_right, defScope s_law_right, [], []⟩,
  ⟨("law", none), "law", "law", defArgs s_law, defBody s_law, defScope s_law, [], []⟩,
  ⟨("Parts", some "__init__"), "__init__", "Parts.__init__", defArgs s_Partsu_initu, defBody s_Partsu_initu, defScope s_Partsu_initu, [], []⟩,
  ⟨("Parts", some "part_in"), "part_in", "Parts.part_in", defArgs s_Parts_part_in, defBody s_Parts_part_in, defScope s_Parts_part_in, [], []⟩]
def fa : List He.Fa := [.glo "is_whole", .glo "is_within", .glo "rests_of", .glo "parts_and_roots", .glo "parts_of", .glo "roots_of", .glo "own_parts", .glo "is_order", .glo "held_by", .glo "needs_of", .glo "falling", .glo "needs_of_sets", .glo "_law_cell", .glo "_law_stream", .glo "_law_take", .glo "_law_e", .glo "_law_sets", .glo "_law_part", .glo "_law_parts", .glo "_law_own", .glo "_law_order", .glo "_law_held", .glo "_law_no_orders", .glo "_law_right", .glo "law", .free "bool", .free "enumerate", .free "int", .free "isinstance", .free "len", .free "list", .free "max", .free "min", .free "range", .free "sorted", .free "str", .free "tuple", .free "zip", .glo "Parts", .cls "Parts", .mkr "Parts", .noat "Parts" "rows", .meth "Parts" "part_in"]
/-- what the head tells of the text -/
class Facts (K : PySem.W.Frag) (mg : outParam (Str → Option Value)) : Prop where
  d_is_whole : ∃ fd, FunD K "is_whole" "is_whole" (defArgs s_is_whole) (defBody s_is_whole) (defScope s_is_whole) [] [] (He.ga K "is_whole") fd
  g_is_whole : mg "is_whole" = some (.ref (He.ga K "is_whole"))
  d_is_within : ∃ fd, FunD K "is_within" "is_within" (defArgs s_is_within) (defBody s_is_within) (defScope s_is_within) [] [] (He.ga K "is_within") fd
  g_is_within : mg "is_within" = some (.ref (He.ga K "is_within"))
  d_rests_of : ∃ fd, FunD K "rests_of" "rests_of" (defArgs s_rests_of) (defBody s_rests_of) (defScope s_rests_of) [] [] (He.ga K "rests_of") fd
  g_rests_of : mg "rests_of" = some (.ref (He.ga K "rests_of"))
  d_parts_and_roots : ∃ fd, FunD K "parts_and_roots" "parts_and_roots" (defArgs s_parts_and_roots) (defBody s_parts_and_roots) (defScope s_parts_and_roots) [] [] (He.ga K "parts_and_roots") fd
  g_parts_and_roots : mg "parts_and_roots" = some (.ref (He.ga K "parts_and_roots"))
  d_parts_of : ∃ fd, FunD K "parts_of" "parts_of" (defArgs s_parts_of) (defBody s_parts_of) (defScope s_parts_of) [] [] (He.ga K "parts_of") fd
  g_parts_of : mg "parts_of" = some (.ref (He.ga K "parts_of"))
  d_roots_of : ∃ fd, FunD K "roots_of" "roots_of" (defArgs s_roots_of) (defBody s_roots_of) (defScope s_roots_of) [] [] (He.ga K "roots_of") fd
  g_roots_of : mg "roots_of" = some (.ref (He.ga K "roots_of"))
  d_own_parts : ∃ fd, FunD K "own_parts" "own_parts" (defArgs s_own_parts) (defBody s_own_parts) (defScope s_own_parts) [] [] (He.ga K "own_parts") fd
  g_own_parts : mg "own_parts" = some (.ref (He.ga K "own_parts"))
  d_is_order : ∃ fd, FunD K "is_order" "is_order" (defArgs s_is_order) (defBody s_is_order) (defScope s_is_order) [] [] (He.ga K "is_order") fd
  g_is_order : mg "is_order" = some (.ref (He.ga K "is_order"))
  d_held_by : ∃ fd, FunD K "held_by" "held_by" (defArgs s_held_by) (defBody s_held_by) (defScope s_held_by) [] [] (He.ga K "held_by") fd
  g_held_by : mg "held_by" = some (.ref (He.ga K "held_by"))
  d_needs_of : ∃ fd, FunD K "needs_of" "needs_of" (defArgs s_needs_of) (defBody s_needs_of) (defScope s_needs_of) [] [] (He.ga K "needs_of") fd
  g_needs_of : mg "needs_of" = some (.ref (He.ga K "needs_of"))
  d_falling : ∃ fd, FunD K "falling" "falling" (defArgs s_falling) (defBody s_falling) (defScope s_falling) [] [] (He.ga K "falling") fd
  g_falling : mg "falling" = some (.ref (He.ga K "falling"))
  d_needs_of_sets : ∃ fd, FunD K "needs_of_sets" "needs_of_sets" (defArgs s_needs_of_sets) (defBody s_needs_of_sets) (defScope s_needs_of_sets) [] [] (He.ga K "needs_of_sets") fd
  g_needs_of_sets : mg "needs_of_sets" = some (.ref (He.ga K "needs_of_sets"))
  d_law_cell : ∃ fd, FunD K "_law_cell" "_law_cell" (defArgs s_law_cell) (defBody s_law_cell) (defScope s_law_cell) [] [] (He.ga K "_law_cell") fd
  g_law_cell : mg "_law_cell" = some (.ref (He.ga K "_law_cell"))
  d_law_stream : ∃ fd, FunD K "_law_stream" "_law_stream" (defArgs s_law_stream) (defBody s_law_stream) (defScope s_law_stream) [] [] (He.ga K "_law_stream") fd
  g_law_stream : mg "_law_stream" = some (.ref (He.ga K "_law_stream"))
  d_law_take : ∃ fd, FunD K "_law_take" "_law_take" (defArgs s_law_take) (defBody s_law_take) (defScope s_law_take) [] [] (He.ga K "_law_take") fd
  g_law_take : mg "_law_take" = some (.ref (He.ga K "_law_take"))
  d_law_e : ∃ fd, FunD K "_law_e" "_law_e" (defArgs s_law_e) (defBody s_law_e) (defScope s_law_e) [] [] (He.ga K "_law_e") fd
  g_law_e : mg "_law_e" = some (.ref (He.ga K "_law_e"))
  d_law_sets : ∃ fd, FunD K "_law_sets" "_law_sets" (defArgs s_law_sets) (defBody s_law_sets) (defScope s_law_sets) [] [] (He.ga K "_law_sets") fd
  g_law_sets : mg "_law_sets" = some (.ref (He.ga K "_law_sets"))
  d_law_part : ∃ fd, FunD K "_law_part" "_law_part" (defArgs s_law_part) (defBody s_law_part) (defScope s_law_part) [] [] (He.ga K "_law_part") fd
  g_law_part : mg "_law_part" = some (.ref (He.ga K "_law_part"))
  d_law_parts : ∃ fd, FunD K "_law_parts" "_law_parts" (defArgs s_law_parts) (defBody s_law_parts) (defScope s_law_parts) [] [] (He.ga K "_law_parts") fd
  g_law_parts : mg "_law_parts" = some (.ref (He.ga K "_law_parts"))
  d_law_own : ∃ fd, FunD K "_law_own" "_law_own" (defArgs s_law_own) (defBody s_law_own) (defScope s_law_own) [] [] (He.ga K "_law_own") fd
  g_law_own : mg "_law_own" = some (.ref (He.ga K "_law_own"))
  d_law_order : ∃ fd, FunD K "_law_order" "_law_order" (defArgs s_law_order) (defBody s_law_order) (defScope s_law_order) [] [] (He.ga K "_law_order") fd
  g_law_order : mg "_law_order" = some (.ref (He.ga K "_law_order"))
  d_law_held : ∃ fd, FunD K "_law_held" "_law_held" (defArgs s_law_held) (defBody s_law_held) (defScope s_law_held) [] [] (He.ga K "_law_held") fd
  g_law_held : mg "_law_held" = some (.ref (He.ga K "_law_held"))
  d_law_no_orders : ∃ fd, FunD K "_law_no_orders" "_law_no_orders" (defArgs s_law_no_orders) (defBody s_law_no_orders) (defScope s_law_no_orders) [] [] (He.ga K "_law_no_orders") fd
  g_law_no_orders : mg "_law_no_orders" = some (.ref (He.ga K "_law_no_orders"))
  d_law_right : ∃ fd, FunD K "_law_right" "_law_right" (defArgs s_law_right) (defBody s_law_right) (defScope s_law_right) [] [] (He.ga K "_law_right") fd
  g_law_right : mg "_law_right" = some (.ref (He.ga K "_law_right"))
  d_law : ∃ fd, FunD K "law" "law" (defArgs s_law) (defBody s_law) (defScope s_law) [] [] (He.ga K "law") fd
  g_law : mg "law" = some (.ref (He.ga K "law"))
  f_bool : mg "bool" = none
  f_enumerate : mg "enumerate" = none
  f_int : mg "int" = none
  f_isinstance : mg "isinstance" = none
  f_len : mg "len" = none
  f_list : mg "list" = none
  f_max : mg "max" = none
  f_min : mg "min" = none
  f_range : mg "range" = none
  f_sorted : mg "sorted" = none
  f_str : mg "str" = none
  f_tuple : mg "tuple" = none
  f_zip : mg "zip" = none
  dm_Parts___init__ : ∃ fd, FunD K "__init__" "Parts.__init__" (defArgs s_Partsu_initu) (defBody s_Partsu_initu) (defScope s_Partsu_initu) [] [] (He.ma K (He.ga K "Parts") "__init__") fd
  dm_Parts_part_in : ∃ fd, FunD K "part_in" "Parts.part_in" (defArgs s_Parts_part_in) (defBody s_Parts_part_in) (defScope s_Parts_part_in) [] [] (He.ma K (He.ga K "Parts") "part_in") fd
  gc_Parts : mg "Parts" = some (.ref (He.ga K "Parts"))
  cl_Parts : Cls K (He.ga K "Parts")
  mk_Parts : Mk K (He.ga K "Parts") (He.ma K (He.ga K "Parts") "__init__")
  na_Parts_rows : NoAttr K (He.ga K "Parts") "rows"
  me_Parts_part_in : Meth K (He.ga K "Parts") "part_in" (He.ma K (He.ga K "Parts") "part_in")
theorem facts_of {h : Heap} {K : PySem.W.Frag} {mg : Str → Option Value} (X : K.In h) (G : h.Ns mainGlobals mg) (c : He.SaysD fa fn K) : Facts K mg where
  d_is_whole := c.def_ 0 rfl
  g_is_whole := He.glo_ok X G (c.fact 0 rfl)
  d_is_within := c.def_ 1 rfl
  g_is_within := He.glo_ok X G (c.fact 1 rfl)
  d_rests_of := c.def_ 2 rfl
  g_rests_of := He.glo_ok X G (c.fact 2 rfl)
  d_parts_and_roots := c.def_ 3 rfl
  g_parts_and_roots := He.glo_ok X G (c.fact 3 rfl)
  d_parts_of := c.def_ 4 rfl
  g_parts_of := He.glo_ok X G (c.fact 4 rfl)
  d_roots_of := c.def_ 5 rfl
  g_roots_of := He.glo_ok X G (c.fact 5 rfl)
  d_own_parts := c.def_ 6 rfl
  g_own_parts := He.glo_ok X G (c.fact 6 rfl)
  d_is_order := c.def_ 7 rfl
  g_is_order := He.glo_ok X G (c.fact 7 rfl)
  d_held_by := c.def_ 8 rfl
  g_held_by := He.glo_ok X G (c.fact 8 rfl)
  d_needs_of := c.def_ 9 rfl
  g_needs_of := He.glo_ok X G (c.fact 9 rfl)
  d_falling := c.def_ 10 rfl
  g_falling := He.glo_ok X G (c.fact 10 rfl)
  d_needs_of_sets := c.def_ 11 rfl
  g_needs_of_sets := He.glo_ok X G (c.fact 11 rfl)
  d_law_cell := c.def_ 12 rfl
  g_law_cell := He.glo_ok X G (c.fact 12 rfl)
  d_law_stream := c.def_ 13 rfl
  g_law_stream := He.glo_ok X G (c.fact 13 rfl)
  d_law_take := c.def_ 14 rfl
  g_law_take := He.glo_ok X G (c.fact 14 rfl)
  d_law_e := c.def_ 15 rfl
  g_law_e := He.glo_ok X G (c.fact 15 rfl)
  d_law_sets := c.def_ 16 rfl
  g_law_sets := He.glo_ok X G (c.fact 16 rfl)
  d_law_part := c.def_ 17 rfl
  g_law_part := He.glo_ok X G (c.fact 17 rfl)
  d_law_parts := c.def_ 18 rfl
  g_law_parts := He.glo_ok X G (c.fact 18 rfl)
  d_law_own := c.def_ 19 rfl
  g_law_own := He.glo_ok X G (c.fact 19 rfl)
  d_law_order := c.def_ 20 rfl
  g_law_order := He.glo_ok X G (c.fact 20 rfl)
  d_law_held := c.def_ 21 rfl
  g_law_held := He.glo_ok X G (c.fact 21 rfl)
  d_law_no_orders := c.def_ 22 rfl
  g_law_no_orders := He.glo_ok X G (c.fact 22 rfl)
  d_law_right := c.def_ 23 rfl
  g_law_right := He.glo_ok X G (c.fact 23 rfl)
  d_law := c.def_ 24 rfl
  g_law := He.glo_ok X G (c.fact 24 rfl)
  f_bool := He.free_ok X G (c.fact 25 rfl)
  f_enumerate := He.free_ok X G (c.fact 26 rfl)
  f_int := He.free_ok X G (c.fact 27 rfl)
  f_isinstance := He.free_ok X G (c.fact 28 rfl)
  f_len := He.free_ok X G (c.fact 29 rfl)
  f_list := He.free_ok X G (c.fact 30 rfl)
  f_max := He.free_ok X G (c.fact 31 rfl)
  f_min := He.free_ok X G (c.fact 32 rfl)
  f_range := He.free_ok X G (c.fact 33 rfl)
  f_sorted := He.free_ok X G (c.fact 34 rfl)
  f_str := He.free_ok X G (c.fact 35 rfl)
  f_tuple := He.free_ok X G (c.fact 36 rfl)
  f_zip := He.free_ok X G (c.fact 37 rfl)
  dm_Parts___init__ := c.def_ 25 rfl
  dm_Parts_part_in := c.def_ 26 rfl
  gc_Parts := He.glo_ok X G (c.fact 38 rfl)
  cl_Parts := He.cls_ok (c.fact 39 rfl)
  mk_Parts := He.mkr_ok (c.fact 40 rfl)
  na_Parts_rows := He.noat_ok (c.fact 41 rfl)
  me_Parts_part_in := He.meth_ok (c.fact 42 rfl)
end J
namespace J
open PySem PySem.Spec PyProof.Rows L2
local macro_rules | `(tactic| walk_at "cls") => `(tactic| first
  | with_reducible exact Facts.cl_Parts)
local macro_rules | `(tactic| walk_at "na") => `(tactic| first
  | with_reducible exact Facts.na_Parts_rows)
local macro_rules | `(tactic| walk_at "ty") => `(tactic| first
  | with_reducible exact ty_int
  | with_reducible exact ty_bl
  | with_reducible exact ty_str
  | with_reducible exact ty_non
  | ((with_reducible refine' ty_lst ?vv); (case vv => walk_at "tr"))
  | ((with_reducible refine' ty_sqT ?vv); (case vv => walk_at "tr"))
  | ((with_reducible refine' ty_dic ?vv); (case vv => walk_at "tr")))
local macro_rules | `(tactic| walk_at "ix") => `(tactic| first | exact at0 | exact at1 | exact at2 | assumption)
local macro_rules | `(tactic| walk_at "size") => `(tactic| first
  | assumption
  | (show _ < sizeLine; rw [sizeLine_eq]; (try simp only [List.length_cons, List.length_nil, List.length_append, List.length_map]); omega)
  | (show _ ≤ sizeLine; rw [sizeLine_eq]; (try simp only [List.length_cons, List.length_nil, List.length_append, List.length_map]); omega))
local macro_rules | `(tactic| walk_at "side") => `(tactic| first
  | assumption
  | ((with_reducible refine cdw ?_ ?_) <;> omega)
  | omega
  | (exact ⟨by omega, by omega⟩)
  | (exact Or.inl ⟨by omega, by omega⟩)
  | (exact Or.inr ⟨by omega, by omega⟩)
  | decide
  | (simp only [List.length_cons, List.length_nil, List.length_append, List.length_map]; omega)
  | (show _ ≤ _; decide))
local macro_rules | `(tactic| walk_at "as") => `(tactic| with_reducible assumption)
local macro_rules | `(tactic| walk_at "tr") => `(tactic| first
  | with_reducible assumption
  | with_reducible exact upd_same
  | ((with_reducible refine' SqL.of ?hh); (case hh => walk_at "as"))
  | ((with_reducible refine' SqT.of ?hh); (case hh => walk_at "as"))
  | ((with_reducible refine' Same.stm ?ee ?gg); (case ee => walk_at "as"); (case gg => walk_at "tr"))
  | ((with_reducible refine' Same.sqT ?ee ?gg); (case ee => walk_at "as"); (case gg => walk_at "tr"))
  | ((with_reducible refine' Same.sqL ?ee ?gg); (case ee => walk_at "as"); (case gg => walk_at "tr"))
  | ((with_reducible refine' Same.at ?ee ?gg); (case ee => walk_at "as"); (case gg => walk_at "tr"))
  | ((with_reducible refine' But.stm ?ee ?ff ?gg); (case ee => walk_at "as"); (case ff => walk_at "ne"); (case gg => walk_at "tr"))
  | ((with_reducible refine' But.tup ?ee ?ff ?gg); (case ee => walk_at "as"); (case ff => walk_at "tr1"); (case gg => walk_at "tr"))
  | ((with_reducible refine' But.sqT ?ee ?ff ?gg); (case ee => walk_at "as"); (case ff => walk_at "tr1"); (case gg => walk_at "tr"))
  | ((with_reducible refine' But.tupL ?ee ?ff ?gg); (case ee => walk_at "as"); (case ff => walk_at "tr1"); (case gg => walk_at "tr"))
  | ((with_reducible refine' But.sqTL ?ee ?ff ?gg); (case ee => walk_at "as"); (case ff => walk_at "tr1"); (case gg => walk_at "tr"))
  | ((with_reducible refine' But.sqL ?ee ?ff ?gg); (case ee => walk_at "as"); (case ff => walk_at "ne"); (case gg => walk_at "tr"))
  | ((with_reducible refine' But.at ?ee ?ff ?gg); (case ee => walk_at "as"); (case ff => walk_at "ne"); (case gg => walk_at "tr")))
local macro_rules | `(tactic| walk_at "ts") => `(tactic| first
  | with_reducible assumption
  | with_reducible exact TS.refl _
  | ((with_reducible refine' TS.trans ?gg (TS.of ?ee)); (case ee => walk_at "as"); (case gg => walk_at "ts"))
  | ((with_reducible refine' TS.trans ?gg (TS.butS ?ee ?ff)); (case ee => walk_at "as"); (case ff => walk_at "tr1"); (case gg => walk_at "ts"))
  | ((with_reducible refine' TS.trans ?gg (TS.butL ?ee ?ff)); (case ee => walk_at "as"); (case ff => walk_at "tr1"); (case gg => walk_at "ts"))
  | ((with_reducible refine' TS.trans ?gg (TS.butI ?ee ?ff)); (case ee => walk_at "as"); (case ff => walk_at "tr1"); (case gg => walk_at "ts")))
local macro_rules | `(tactic| walk_at "sm") => `(tactic| first
  | with_reducible assumption
  | with_reducible exact Same.refl _
  | ((with_reducible refine' Same.trans ?gg ?ee); (case ee => walk_at "as"); (case gg => walk_at "sm"))
  | ((with_reducible refine' But.new ?gg ?nn ?ee); (case ee => walk_at "as"); (case nn => walk_at "fr"); (case gg => walk_at "sm")))
local macro_rules | `(tactic| walk_at "fr") => `(tactic| first
  | with_reducible assumption
  | ((with_reducible refine' Same.back ?ee ?nn); (case nn => walk_at "as"); (case ee => walk_at "sm"))
  | ((with_reducible refine' But.back ?ee ?ff ?nn); (case nn => walk_at "as"); (case ff => walk_at "ne0"); (case ee => walk_at "bu")))
local macro_rules | `(tactic| walk_at "bu") => `(tactic| first
  | with_reducible assumption
  | with_reducible exact But.refl _ _
  | ((with_reducible refine' But.trans ?gg ?ee); (case ee => walk_at "as"); (case gg => walk_at "bu"))
  | ((with_reducible refine' But.trans ?gg (But.of ?ee)); (case ee => walk_at "as"); (case gg => walk_at "bu"))
  | ((with_reducible refine' But.new2 ?gg ?nn ?ee); (case ee => walk_at "as"); (case nn => walk_at "frB"); (case gg => walk_at "bu")))
local macro_rules | `(tactic| walk_at "frB") => `(tactic| first
  | with_reducible assumption
  | ((with_reducible refine' Same.back ?ee ?nn); (case nn => walk_at "as"); (case ee => walk_at "sm"))
  | ((with_reducible refine' But.back' ?ee ?ff ?nn); (case nn => walk_at "as"); (case ee => walk_at "bu"); (case ff => walk_at "tr1")))
local macro_rules | `(tactic| walk_at "tr1") => `(tactic| first
  | with_reducible assumption
  | ((with_reducible refine' Same.stm ?ee ?gg); (case ee => walk_at "as"); (case gg => walk_at "tr1"))
  | ((with_reducible refine' Same.at ?ee ?gg); (case ee => walk_at "as"); (case gg => walk_at "tr1"))
  | ((with_reducible refine' But.at ?ee ?ff ?gg); (case ee => walk_at "as"); (case ff => walk_at "ne0"); (case gg => walk_at "tr1"))
  | ((with_reducible refine' But.stm ?ee ?ff ?gg); (case ee => walk_at "as"); (case ff => walk_at "ne0"); (case gg => walk_at "tr1")))
local macro_rules | `(tactic| walk_at "ne0") => `(tactic| first
  | with_reducible assumption
  | (with_reducible apply Ne.symm; with_reducible assumption))
local macro_rules | `(tactic| walk_at "ne") => `(tactic| first
  | with_reducible assumption
  | (with_reducible apply Ne.symm; with_reducible assumption)
  | ((with_reducible refine' stm_ne ?hh ?nn); (case nn => walk_at "as"); (case hh => walk_at "tr1"))
  | ((with_reducible refine' ne_of_none ?hh ?nn); (case nn => walk_at "as"); (case hh => walk_at "tr1"))
  | ((with_reducible apply Ne.symm); (with_reducible refine' ne_of_none ?hh ?nn); (case nn => walk_at "as"); (case hh => walk_at "tr1")))
local macro_rules | `(tactic| walk_at "v") => `(tactic| first
  | with_reducible refine w_seq ?_
  | ((with_reducible refine' w_var ?vv ?_); (case vv => exact rfl))
  | with_reducible refine w_c ?_
  | with_reducible refine w_op ?_
  | with_reducible refine w_asg ?_
  | with_reducible refine w_gName ?_
  | with_reducible refine w_ret ?_
  | with_reducible refine w_ifS ?_
  | with_reducible refine w_drop ?_
  | with_reducible refine w_next ?_
  | with_reducible refine w_cons ?_
  | with_reducible refine w_nil ?_
  | with_reducible refine w_call ?_
  | with_reducible refine w_cb ?_
  | with_reducible refine w_rI0 ?_
  | with_reducible refine w_addI ?_
  | with_reducible refine w_eqI ?_
  | with_reducible refine w_neI ?_
  | with_reducible refine w_eqS ?_
  | with_reducible refine w_neS ?_
  | with_reducible refine w_eqB ?_
  | with_reducible refine w_neB ?_
  | with_reducible refine w_chain ?_
  | with_reducible refine w_test ?_
  | with_reducible refine w_tB ?_
  | with_reducible refine w_bl ?_
  | ((with_reducible refine' w_mulI ?vv ?_); (case vv => walk_at "side"))
  | ((with_reducible refine' w_rI ?vv ?_); (case vv => walk_at "side"))
  | with_reducible refine w_int1 ?_
  | with_reducible refine w_int1b ?_
  | with_reducible refine w_tup ?_
  | with_reducible refine w_lst ?_
  | with_reducible refine w_un ?_
  | with_reducible refine w_rU ?_
  | with_reducible refine w_not ?_
  | with_reducible refine w_notV ?_
  | with_reducible refine w_ifE ?_
  | with_reducible refine w_nT ?_
  | with_reducible refine w_nF ?_
  | with_reducible refine iteT ?_
  | with_reducible refine iteF ?_
  | ((with_reducible refine' w_ixT ?vv ?ww ?_); (case vv => walk_at "tr"); (case ww => walk_at "ix"))
  | ((with_reducible refine' w_ixL ?vv ?ww ?_); (case vv => walk_at "tr"); (case ww => walk_at "ix"))
  | with_reducible refine w_gSub ?_
  | ((with_reducible refine' w_setL ?vv ?ww ?_); (case vv => walk_at "tr"); (case ww => first | rfl | decide | assumption))
  | ((with_reducible refine' w_lenL ?vv ?_); (case vv => walk_at "tr"))
  | ((with_reducible refine' w_lenT ?vv ?_); (case vv => walk_at "tr"))
  | with_reducible refine w_max2 ?_
  | with_reducible refine w_max3 ?_
  | with_reducible refine w_din ?_
  | with_reducible refine w_dnotin ?_
  | with_reducible refine w_dput ?_
  | with_reducible refine w_min2 ?_
  | with_reducible refine w_bm ?_
  | with_reducible refine w_bm0 ?_
  | ((with_reducible refine' w_tyL ?vv ?_); (case vv => walk_at "tr"))
  | ((with_reducible refine' w_append ?vv ?ww ?_); (case vv => walk_at "tr"); (case ww => walk_at "size"))
  | ((with_reducible refine' w_size ?vv ?_); (case vv => walk_at "size"))
  | with_reducible refine w_forL ?_
  | with_reducible refine w_forT ?_
  | with_reducible refine w_forR1 ?_
  | with_reducible refine w_forR2 ?_
  | with_reducible refine w_lcL ?_
  | with_reducible refine w_lcT ?_
  | with_reducible refine w_lcR1 ?_
  | with_reducible refine w_yes ?_
  | with_reducible refine w_sl ?_
  | with_reducible refine w_noPart ?_
  | with_reducible refine w_part ?_
  | with_reducible refine w_int ?_
  | ((with_reducible refine' w_slL ?vv ?_); (case vv => walk_at "tr"))
  | ((with_reducible refine' w_seqL ?vv ?ww ?_); (case vv => walk_at "tr"); (case ww => rfl))
  | ((with_reducible refine' w_seqT ?vv ?ww ?_); (case vv => walk_at "tr"); (case ww => rfl))
  | with_reducible refine w_gNil ?_
  | with_reducible refine w_gCons ?_
  | with_reducible refine w_forZ ?_
  | with_reducible refine w_forM ?_
  | with_reducible refine w_forE ?_
  | with_reducible refine w_forV ?_
  | with_reducible refine w_lcZ ?_
  | with_reducible refine w_lcE ?_
  | ((with_reducible refine' w_isi (b := true) ?vv ?ww ?_); (case vv => walk_at "ty"); (case ww => decide +kernel))
  | ((with_reducible refine' w_isi (b := false) ?vv ?ww ?_); (case vv => walk_at "ty"); (case ww => decide +kernel))
  | with_reducible refine w_revL ?_
  | with_reducible refine w_pairN ?_
  | with_reducible refine w_pairC ?_
  | with_reducible refine w_dget ?_
  | with_reducible refine w_met ?_
  | ((with_reducible refine' w_metAt ?vv ?ww ?_); (case vv => walk_at "tr"); (case ww => rfl))
  | with_reducible refine w_mkI ?_
  | with_reducible refine w_fld ?_
  | ((with_reducible refine' w_fldAt ?vv ?cc ?nn ?ww ?_); (case vv => walk_at "tr"); (case cc => walk_at "cls"); (case nn => walk_at "na"); (case ww => rfl))
  | with_reducible refine w_sfld ?_
  | ((with_reducible refine' w_sfldAt ?vv ?cc ?nn ?ll ?ee ?_); (case vv => walk_at "tr"); (case cc => walk_at "cls"); (case nn => walk_at "na"); (case ll => simp); (case ee => rfl))
  | ((with_reducible refine' w_tupL ?vv ?_); (case vv => walk_at "tr"))
  | ((with_reducible refine' w_tupT ?vv ?_); (case vv => walk_at "tr"))
  | ((with_reducible refine' w_listL ?vv ?_); (case vv => walk_at "tr"))
  | ((with_reducible refine' w_listT ?vv ?_); (case vv => walk_at "tr"))
  | with_reducible refine w_tyS ?_
  | with_reducible refine w_retN ?_
  | with_reducible refine w_break ?_
  | with_reducible refine w_cont ?_)
local macro_rules | `(tactic| walk_at "w") => `(tactic| first
  | walk_at "v"
  | with_reducible refine w_or ?_
  | with_reducible refine w_and ?_
  | with_reducible refine w_andV ?_
  | with_reducible refine w_orV ?_)
local macro_rules | `(tactic| walk_at "wd") => `(tactic| first
  | walk_at "w"
  | ((with_reducible refine' w_decT ?vv ?_); (case vv => decide +kernel))
  | ((with_reducible refine' w_decF ?vv ?_); (case vv => decide +kernel)))
local macro_rules | `(tactic| walk_at "tz") => `(tactic| (intro S z; (repeat walk_at "w"); exact z))
local macro_rules | `(tactic| walk_at "wf") => `(tactic| first
  | walk_at "wd"
  | ((with_reducible refine' w_decF ?vv ?_); (case vv => with_reducible assumption)))
/-! ### the draws, alike in all laws -/
def spCell (K : PySem.W.Frag) : Sp := fun vs H Q _ => ∃ (a : Addr) (ns : List Int) (k : Int), vs = [.ref a, .int k] ∧ SqL K H a (ns.map V.int) ∧ 0 ≤ k ∧ ∀ n : Int, Q (.int n) H
def spStream : Sp := fun vs H Q _ => ∃ c : Int, vs = [.int c] ∧ ∀ s H', Same H H' → H s = none → Stm H' s → Q (.ref s) H'
def spTake : Sp := fun vs H Q _ => ∃ (s : Addr) (m : Int), vs = [.ref s, .int m] ∧ Stm H s ∧ 0 < m ∧ m < 2 ^ 200 ∧ ∀ d H', 0 ≤ d → d < m → Stm H' s → But s H H' → Q (.int d) H'
theorem len_law_cell {K : PySem.W.Frag} {vs H Q E} (h : spCell K vs H Q E) : vs.length = 2 := by obtain ⟨_, _, _, rfl, _⟩ := h; rfl
theorem len_law_stream {vs H Q E} (h : spStream vs H Q E) : vs.length = 1 := by obtain ⟨_, rfl, _⟩ := h; rfl
theorem len_law_take {vs H Q E} (h : spTake vs H Q E) : vs.length = 2 := by obtain ⟨_, _, rfl, _⟩ := h; rfl
def spLaw (K : PySem.W.Frag) : Sp := fun vs H Q _ => ∃ (a : Addr) (ns : List Int), vs = [.ref a] ∧ SqL K H a (ns.map V.int) ∧ ns.length ≤ 63 ∧ ∀ H', Q (.bl true) H'
theorem len_law {K : PySem.W.Frag} {vs H Q E} (h : spLaw K vs H Q E) : vs.length = 1 := by obtain ⟨_, _, rfl, _⟩ := h; rfl
theorem law_in {K : PySem.W.Frag} {H : Hp} {a : Addr} {ns : List Int} (hl : ns.length ≤ 63) (_ : Only H) (hS : SqL K H a (ns.map V.int)) : spLaw K [.ref a] H (fun v _ => v = .bl true) fun _ _ _ => False :=
  ⟨a, ns, rfl, hS, hl, fun _ => rfl⟩
section
variable {P : Program} {w : World} {K : PySem.W.Frag} {mg : Str → Option Value}
theorem ok_law_cell [c : Facts K mg] : Fn P w K mg "_law_cell" 1 ["script", "k"] ((spCell K)) := by
  obtain ⟨fd, F⟩ := c.d_law_cell
  refine Fn.mk' F c.g_law_cell sc_law_cell (k := 0) (fun vs H Q E h => ?_) (fun _ _ _ _ _ _ us hl => match us, hl with | [_, _], _ => rfl) (fun base cdv A outer s H vs Q E hr h => ?_)
  · exact len_law_cell h
  · have nd := sc_law_cell.nd
    have hu := hu_of hr
    refine ⟨_, (pss_cons (ps_if (pt_cmpR op_lt (pv 1) (pe_callB (call_lenA (K := K) rfl) (by rfl) c.f_len boot_len (pa_cons (pv 0) pa_nil)) (nomark _)) (pss_one (ps_ret (pe_ix (ix_any (K := K) rfl) (pv 0) (pv 1) (fun _ _ => rfl)))) pss_nil)
      (pss_one (ps_ret (pe_op (op_addA (K := K) rfl) (pe_op op_mulA pe_int (pv 1)) pe_int)))), ?_⟩
    try dsimp only [cxOf, Cx.nox, Cx.wish]
    obtain ⟨a, ns, k, rfl, hS, h0, q⟩ := h
    repeat walk_at "w"
    refine ite2 (fun hk => ?_) (fun hk => ?_)
    · rw [decide_eq_true_eq] at hk
      repeat walk_at "w"
      obtain ⟨v, e1, e2, _⟩ := atI_some h0 hk
      obtain ⟨n, _, rfl⟩ := List.mem_map.mp e2
      exact w_ixL hS e1 (q n)
    · repeat walk_at "w"
      exact q _
theorem ok_law_stream [c : Facts K mg] : Fn P w K mg "_law_stream" 1 ["cell"] (spStream) := by
  obtain ⟨fd, F⟩ := c.d_law_stream
  refine Fn.mk' F c.g_law_stream sc_law_stream (k := 0) (fun vs H Q E h => ?_) (fun _ _ _ _ _ _ us hl => match us, hl with | [_], _ => rfl) (fun base cdv A outer s H vs Q E hr h => ?_)
  · exact len_law_stream h
  · have nd := sc_law_stream.nd
    have hu := hu_of hr
    refine ⟨_, (pss_one (ps_ret (pe_lst (pa_cons (pe_op op_mulA (pv 0) (pe_callTy call_int1A (by rfl) c.f_int boot_int (pa_cons (pe_cmpR op_ge (pv 0) (pe_op op_pow pe_int pe_int) (nomark _)) pa_nil))) (pa_cons (pe_op op_mod (pv 0) pe_int) (pa_cons pe_int pa_nil)))))), ?_⟩
    try dsimp only [cxOf, Cx.nox, Cx.wish]
    obtain ⟨n, rfl, q⟩ := h
    repeat walk_at "w"
    exact w_new fun p H1 n1 s1 f1 => q _ _ s1 n1 ⟨_, _, _, f1⟩
theorem ok_law_take [c : Facts K mg] : Fn P w K mg "_law_take" 1 ["stream", "many"] (spTake) := by
  obtain ⟨fd, F⟩ := c.d_law_take
  refine Fn.mk' F c.g_law_take sc_law_take (k := 0) (fun vs H Q E h => ?_) (fun _ _ _ _ _ _ us hl => match us, hl with | [_, _], _ => rfl) (fun base cdv A outer s H vs Q E hr h => ?_)
  · exact len_law_take h
  · have nd := sc_law_take.nd
    have hu := hu_of hr
    refine ⟨_, (pss_cons (ps_if (pt_cmpR op_gt (pe_ix (ix_any (K := K) rfl) (pv 0) pe_int (fun _ _ => rfl)) pe_int (nomark _)) (pss_cons (ps_set (i := 2) nd rfl (Or.inl rfl) (pe_op op_mod (pe_ix (ix_any (K := K) rfl) (pv 0) pe_int (fun _ _ => rfl)) (pv 1)))
      (pss_cons (ps_asg (pe_op op_fdivW (pe_ix (ix_any (K := K) rfl) (pv 0) pe_int (fun _ _ => rfl)) (pv 1)) (pg_sub (pv 0) pe_int set_list))
      (pss_one (ps_ret (pv 2))))) pss_nil)
      (pss_cons (ps_asg (pe_op (op_addA (K := K) rfl) (pe_ix (ix_any (K := K) rfl) (pv 0) pe_int (fun _ _ => rfl)) pe_int) (pg_sub (pv 0) pe_int set_list))
      (pss_cons (ps_set (i := 3) nd rfl (Or.inl rfl) (pe_op op_mod (pe_op (op_addA (K := K) rfl) (pe_op op_mulA (pe_op (op_addA (K := K) rfl) (pe_ix (ix_any (K := K) rfl) (pv 0) pe_int (fun _ _ => rfl)) (pe_op op_mulA pe_int (pe_ix (ix_any (K := K) rfl) (pv 0) pe_int (fun _ _ => rfl)))) pe_int) pe_int) pe_int))
      (pss_cons (ps_set (i := 3) nd rfl (Or.inl rfl) (pe_op op_mod (pe_op op_mulA (pv 3) (pv 3)) pe_int))
      (pss_one (ps_ret (pe_op op_mod (pe_op op_fdivW (pe_op op_mod (pe_op (op_addA (K := K) rfl) (pe_op op_mulA (pv 3) (pv 3)) (pe_op op_mulA pe_int (pe_ix (ix_any (K := K) rfl) (pv 0) pe_int (fun _ _ => rfl)))) pe_int) pe_int) (pv 1)))))))), ?_⟩
    try dsimp only [cxOf, Cx.nox, Cx.wish]
    obtain ⟨s, m, rfl, ⟨a, b, d, hs⟩, hm, hl, q⟩ := h
    repeat walk_at "w"
    refine ite2 (fun hk => ?_) (fun hk => ?_)
    · repeat walk_at "w"
      refine w_chg fun H1 e1 f1 => ?_
      repeat walk_at "w"
      exact q _ _ (Int.emod_nonneg _ (by omega)) (Int.emod_lt_of_pos _ hm) ⟨_, _, _, f1⟩ e1
    · repeat walk_at "w"
      refine w_chg fun H1 e1 f1 => ?_
      repeat walk_at "w"
      exact q _ _ (Int.emod_nonneg _ (by omega)) (Int.emod_lt_of_pos _ hm) ⟨_, _, _, f1⟩ e1
end


end J
namespace J
open PySem PySem.Spec PyProof.Rows L2
local macro_rules | `(tactic| walk_at "cls") => `(tactic| first
  | with_reducible exact Facts.cl_Parts)
local macro_rules | `(tactic| walk_at "na") => `(tactic| first
  | with_reducible exact Facts.na_Parts_rows)
local macro_rules | `(tactic| walk_at "ty") => `(tactic| first
  | with_reducible exact ty_int
  | with_reducible exact ty_bl
  | with_reducible exact ty_str
  | with_reducible exact ty_non
  | ((with_reducible refine' ty_lst ?vv); (case vv => walk_at "tr"))
  | ((with_reducible refine' ty_sqT ?vv); (case vv => walk_at "tr"))
  | ((with_reducible refine' ty_dic ?vv); (case vv => walk_at "tr")))
local macro_rules | `(tactic| walk_at "ix") => `(tactic| first | exact at0 | exact at1 | exact at2 | assumption)
local macro_rules | `(tactic| walk_at "size") => `(tactic| first
  | assumption
  | (show _ < sizeLine; rw [sizeLine_eq]; (try simp only [List.length_cons, List.length_nil, List.length_append, List.length_map]); omega)
  | (show _ ≤ sizeLine; rw [sizeLine_eq]; (try simp only [List.length_cons, List.length_nil, List.length_append, List.length_map]); omega))
local macro_rules | `(tactic| walk_at "side") => `(tactic| first
  | assumption
  | ((with_reducible refine cdw ?_ ?_) <;> omega)
  | omega
  | (exact ⟨by omega, by omega⟩)
  | (exact Or.inl ⟨by omega, by omega⟩)
  | (exact Or.inr ⟨by omega, by omega⟩)
  | decide
  | (simp only [List.length_cons, List.length_nil, List.length_append, List.length_map]; omega)
  | (show _ ≤ _; decide))
local macro_rules | `(tactic| walk_at "as") => `(tactic| with_reducible assumption)
local macro_rules | `(tactic| walk_at "tr") => `(tactic| first
  | with_reducible assumption
  | with_reducible exact upd_same
  | ((with_reducible refine' SqL.of ?hh); (case hh => walk_at "as"))
  | ((with_reducible refine' SqT.of ?hh); (case hh => walk_at "as"))
  | ((with_reducible refine' Same.stm ?ee ?gg); (case ee => walk_at "as"); (case gg => walk_at "tr"))
  | ((with_reducible refine' Same.sqT ?ee ?gg); (case ee => walk_at "as"); (case gg => walk_at "tr"))
  | ((with_reducible refine' Same.sqL ?ee ?gg); (case ee => walk_at "as"); (case gg => walk_at "tr"))
  | ((with_reducible refine' Same.at ?ee ?gg); (case ee => walk_at "as"); (case gg => walk_at "tr"))
  | ((with_reducible refine' But.stm ?ee ?ff ?gg); (case ee => walk_at "as"); (case ff => walk_at "ne"); (case gg => walk_at "tr"))
  | ((with_reducible refine' But.tup ?ee ?ff ?gg); (case ee => walk_at "as"); (case ff => walk_at "tr1"); (case gg => walk_at "tr"))
  | ((with_reducible refine' But.sqT ?ee ?ff ?gg); (case ee => walk_at "as"); (case ff => walk_at "tr1"); (case gg => walk_at "tr"))
  | ((with_reducible refine' But.tupL ?ee ?ff ?gg); (case ee => walk_at "as"); (case ff => walk_at "tr1"); (case gg => walk_at "tr"))
  | ((with_reducible refine' But.sqTL ?ee ?ff ?gg); (case ee => walk_at "as"); (case ff => walk_at "tr1"); (case gg => walk_at "tr"))
  | ((with_reducible refine' But.sqL ?ee ?ff ?gg); (case ee => walk_at "as"); (case ff => walk_at "ne"); (case gg => walk_at "tr"))
  | ((with_reducible refine' But.at ?ee ?ff ?gg); (case ee => walk_at "as"); (case ff => walk_at "ne"); (case gg => walk_at "tr")))
local macro_rules | `(tactic| walk_at "ts") => `(tactic| first
  | with_reducible assumption
  | with_reducible exact TS.refl _
  | ((with_reducible refine' TS.trans ?gg (TS.of ?ee)); (case ee => walk_at "as"); (case gg => walk_at "ts"))
  | ((with_reducible refine' TS.trans ?gg (TS.butS ?ee ?ff)); (case ee => walk_at "as"); (case ff => walk_at "tr1"); (case gg => walk_at "ts"))
  | ((with_reducible refine' TS.trans ?gg (TS.butL ?ee ?ff)); (case ee => walk_at "as"); (case ff => walk_at "tr1"); (case gg => walk_at "ts"))
  | ((with_reducible refine' TS.trans ?gg (TS.butI ?ee ?ff)); (case ee => walk_at "as"); (case ff => walk_at "tr1"); (case gg => walk_at "ts")))
local macro_rules | `(tactic| walk_at "sm") => `(tactic| first
  | with_reducible assumption
  | with_reducible exact Same.refl _
  | ((with_reducible refine' Same.trans ?gg ?ee); (case ee => walk_at "as"); (case gg => walk_at "sm"))
  | ((with_reducible refine' But.new ?gg ?nn ?ee); (case ee => walk_at "as"); (case nn => walk_at "fr"); (case gg => walk_at "sm")))
local macro_rules | `(tactic| walk_at "fr") => `(tactic| first
  | with_reducible assumption
  | ((with_reducible refine' Same.back ?ee ?nn); (case nn => walk_at "as"); (case ee => walk_at "sm"))
  | ((with_reducible refine' But.back ?ee ?ff ?nn); (case nn => walk_at "as"); (case ff => walk_at "ne0"); (case ee => walk_at "bu")))
local macro_rules | `(tactic| walk_at "bu") => `(tactic| first
  | with_reducible assumption
  | with_reducible exact But.refl _ _
  | ((with_reducible refine' But.trans ?gg ?ee); (case ee => walk_at "as"); (case gg => walk_at "bu"))
  | ((with_reducible refine' But.trans ?gg (But.of ?ee)); (case ee => walk_at "as"); (case gg => walk_at "bu"))
  | ((with_reducible refine' But.new2 ?gg ?nn ?ee); (case ee => walk_at "as"); (case nn => walk_at "frB"); (case gg => walk_at "bu")))
local macro_rules | `(tactic| walk_at "frB") => `(tactic| first
  | with_reducible assumption
  | ((with_reducible refine' Same.back ?ee ?nn); (case nn => walk_at "as"); (case ee => walk_at "sm"))
  | ((with_reducible refine' But.back' ?ee ?ff ?nn); (case nn => walk_at "as"); (case ee => walk_at "bu"); (case ff => walk_at "tr1")))
local macro_rules | `(tactic| walk_at "tr1") => `(tactic| first
  | with_reducible assumption
  | ((with_reducible refine' Same.stm ?ee ?gg); (case ee => walk_at "as"); (case gg => walk_at "tr1"))
  | ((with_reducible refine' Same.at ?ee ?gg); (case ee => walk_at "as"); (case gg => walk_at "tr1"))
  | ((with_reducible refine' But.at ?ee ?ff ?gg); (case ee => walk_at "as"); (case ff => walk_at "ne0"); (case gg => walk_at "tr1"))
  | ((with_reducible refine' But.stm ?ee ?ff ?gg); (case ee => walk_at "as"); (case ff => walk_at "ne0"); (case gg => walk_at "tr1")))
local macro_rules | `(tactic| walk_at "ne0") => `(tactic| first
  | with_reducible assumption
  | (with_reducible apply Ne.symm; with_reducible assumption))
local macro_rules | `(tactic| walk_at "ne") => `(tactic| first
  | with_reducible assumption
  | (with_reducible apply Ne.symm; with_reducible assumption)
  | ((with_reducible refine' stm_ne ?hh ?nn); (case nn => walk_at "as"); (case hh => walk_at "tr1"))
  | ((with_reducible refine' ne_of_none ?hh ?nn); (case nn => walk_at "as"); (case hh => walk_at "tr1"))
  | ((with_reducible apply Ne.symm); (with_reducible refine' ne_of_none ?hh ?nn); (case nn => walk_at "as"); (case hh => walk_at "tr1")))
local macro_rules | `(tactic| walk_at "v") => `(tactic| first
  | with_reducible refine w_seq ?_
  | ((with_reducible refine' w_var ?vv ?_); (case vv => exact rfl))
  | with_reducible refine w_c ?_
  | with_reducible refine w_op ?_
  | with_reducible refine w_asg ?_
  | with_reducible refine w_gName ?_
  | with_reducible refine w_ret ?_
  | with_reducible refine w_ifS ?_
  | with_reducible refine w_drop ?_
  | with_reducible refine w_next ?_
  | with_reducible refine w_cons ?_
  | with_reducible refine w_nil ?_
  | with_reducible refine w_call ?_
  | with_reducible refine w_cb ?_
  | with_reducible refine w_rI0 ?_
  | with_reducible refine w_addI ?_
  | with_reducible refine w_eqI ?_
  | with_reducible refine w_neI ?_
  | with_reducible refine w_eqS ?_
  | with_reducible refine w_neS ?_
  | with_reducible refine w_eqB ?_
  | with_reducible refine w_neB ?_
  | with_reducible refine w_chain ?_
  | with_reducible refine w_test ?_
  | with_reducible refine w_tB ?_
  | with_reducible refine w_bl ?_
  | ((with_reducible refine' w_mulI ?vv ?_); (case vv => walk_at "side"))
  | ((with_reducible refine' w_rI ?vv ?_); (case vv => walk_at "side"))
  | with_reducible refine w_int1 ?_
  | with_reducible refine w_int1b ?_
  | with_reducible refine w_tup ?_
  | with_reducible refine w_lst ?_
  | with_reducible refine w_un ?_
  | with_reducible refine w_rU ?_
  | with_reducible refine w_not ?_
  | with_reducible refine w_notV ?_
  | with_reducible refine w_ifE ?_
  | with_reducible refine w_nT ?_
  | with_reducible refine w_nF ?_
  | with_reducible refine iteT ?_
  | with_reducible refine iteF ?_
  | ((with_reducible refine' w_ixT ?vv ?ww ?_); (case vv => walk_at "tr"); (case ww => walk_at "ix"))
  | ((with_reducible refine' w_ixL ?vv ?ww ?_); (case vv => walk_at "tr"); (case ww => walk_at "ix"))
  | with_reducible refine w_gSub ?_
  | ((with_reducible refine' w_setL ?vv ?ww ?_); (case vv => walk_at "tr"); (case ww => first | rfl | decide | assumption))
  | ((with_reducible refine' w_lenL ?vv ?_); (case vv => walk_at "tr"))
  | ((with_reducible refine' w_lenT ?vv ?_); (case vv => walk_at "tr"))
  | with_reducible refine w_max2 ?_
  | with_reducible refine w_max3 ?_
  | with_reducible refine w_din ?_
  | with_reducible refine w_dnotin ?_
  | with_reducible refine w_dput ?_
  | with_reducible refine w_min2 ?_
  | with_reducible refine w_bm ?_
  | with_reducible refine w_bm0 ?_
  | ((with_reducible refine' w_tyL ?vv ?_); (case vv => walk_at "tr"))
  | ((with_reducible refine' w_append ?vv ?ww ?_); (case vv => walk_at "tr"); (case ww => walk_at "size"))
  | ((with_reducible refine' w_size ?vv ?_); (case vv => walk_at "size"))
  | with_reducible refine w_forL ?_
  | with_reducible refine w_forT ?_
  | with_reducible refine w_forR1 ?_
  | with_reducible refine w_forR2 ?_
  | with_reducible refine w_lcL ?_
  | with_reducible refine w_lcT ?_
  | with_reducible refine w_lcR1 ?_
  | with_reducible refine w_yes ?_
  | with_reducible refine w_sl ?_
  | with_reducible refine w_noPart ?_
  | with_reducible refine w_part ?_
  | with_reducible refine w_int ?_
  | ((with_reducible refine' w_slL ?vv ?_); (case vv => walk_at "tr"))
  | ((with_reducible refine' w_seqL ?vv ?ww ?_); (case vv => walk_at "tr"); (case ww => rfl))
  | ((with_reducible refine' w_seqT ?vv ?ww ?_); (case vv => walk_at "tr"); (case ww => rfl))
  | with_reducible refine w_gNil ?_
  | with_reducible refine w_gCons ?_
  | with_reducible refine w_forZ ?_
  | with_reducible refine w_forM ?_
  | with_reducible refine w_forE ?_
  | with_reducible refine w_forV ?_
  | with_reducible refine w_lcZ ?_
  | with_reducible refine w_lcE ?_
  | ((with_reducible refine' w_isi (b := true) ?vv ?ww ?_); (case vv => walk_at "ty"); (case ww => decide +kernel))
  | ((with_reducible refine' w_isi (b := false) ?vv ?ww ?_); (case vv => walk_at "ty"); (case ww => decide +kernel))
  | with_reducible refine w_revL ?_
  | with_reducible refine w_pairN ?_
  | with_reducible refine w_pairC ?_
  | with_reducible refine w_dget ?_
  | with_reducible refine w_met ?_
  | ((with_reducible refine' w_metAt ?vv ?ww ?_); (case vv => walk_at "tr"); (case ww => rfl))
  | with_reducible refine w_mkI ?_
  | with_reducible refine w_fld ?_
  | ((with_reducible refine' w_fldAt ?vv ?cc ?nn ?ww ?_); (case vv => walk_at "tr"); (case cc => walk_at "cls"); (case nn => walk_at "na"); (case ww => rfl))
  | with_reducible refine w_sfld ?_
  | ((with_reducible refine' w_sfldAt ?vv ?cc ?nn ?ll ?ee ?_); (case vv => walk_at "tr"); (case cc => walk_at "cls"); (case nn => walk_at "na"); (case ll => simp); (case ee => rfl))
  | ((with_reducible refine' w_tupL ?vv ?_); (case vv => walk_at "tr"))
  | ((with_reducible refine' w_tupT ?vv ?_); (case vv => walk_at "tr"))
  | ((with_reducible refine' w_listL ?vv ?_); (case vv => walk_at "tr"))
  | ((with_reducible refine' w_listT ?vv ?_); (case vv => walk_at "tr"))
  | with_reducible refine w_tyS ?_
  | with_reducible refine w_retN ?_
  | with_reducible refine w_break ?_
  | with_reducible refine w_cont ?_)
local macro_rules | `(tactic| walk_at "w") => `(tactic| first
  | walk_at "v"
  | with_reducible refine w_or ?_
  | with_reducible refine w_and ?_
  | with_reducible refine w_andV ?_
  | with_reducible refine w_orV ?_)
local macro_rules | `(tactic| walk_at "wd") => `(tactic| first
  | walk_at "w"
  | ((with_reducible refine' w_decT ?vv ?_); (case vv => decide +kernel))
  | ((with_reducible refine' w_decF ?vv ?_); (case vv => decide +kernel)))
local macro_rules | `(tactic| walk_at "tz") => `(tactic| (intro S z; (repeat walk_at "w"); exact z))
local macro_rules | `(tactic| walk_at "wf") => `(tactic| first
  | walk_at "wd"
  | ((with_reducible refine' w_decF ?vv ?_); (case vv => with_reducible assumption)))
/-! ### sorted: tuples of ints, item by item -/
def lexI : List Int → List Int → Bool
  | [], [] => false
  | [], _ :: _ => true
  | _ :: _, [] => false
  | a :: l, b :: m => if a = b then lexI l m else decide (a < b)
theorem lexI_asym : ∀ x y : List Int, lexI x y = true → lexI y x = false
  | [], [], h => by cases h
  | [], _ :: _, _ => rfl
  | _ :: _, [], h => by cases h
  | a :: l, b :: m, h => by
    unfold lexI at h ⊢
    by_cases e : a = b
    · rw [if_pos e] at h
      rw [if_pos e.symm]
      exact lexI_asym l m h
    · rw [if_neg e, decide_eq_true_eq] at h
      rw [if_neg (fun z => e z.symm)]
      exact decide_eq_false (by omega)
theorem lexI_tr : ∀ x y z : List Int, lexI y x = false → lexI z y = false → lexI z x = false
  | [], [], [], _, _ => rfl
  | [], [], _ :: _, _, h => h
  | [], _ :: _, [], h, _ => rfl
  | [], _ :: _, _ :: _, h, _ => rfl
  | _ :: _, [], _, h, _ => by cases h
  | _ :: _, _ :: _, [], _, h => by cases h
  | a :: l, b :: m, c :: n, h1, h2 => by
    unfold lexI at h1 h2 ⊢
    by_cases e1 : b = a
    · subst e1
      rw [if_pos rfl] at h1
      by_cases e2 : c = b
      · subst e2
        rw [if_pos rfl] at h2 ⊢
        exact lexI_tr l m n h1 h2
      · rw [if_neg e2] at h2 ⊢
        exact h2
    · rw [if_neg e1, decide_eq_false_iff_not] at h1
      by_cases e2 : c = b
      · subst e2
        rw [if_neg e1]
        exact decide_eq_false h1
      · rw [if_neg e2, decide_eq_false_iff_not] at h2
        rw [if_neg (by omega)]
        exact decide_eq_false (by omega)
theorem lexI_swo {α : Type} (k : α → List Int) : SrtO.Swo fun x y => lexI (k x) (k y) := ⟨fun x y => lexI_asym _ _, fun x y z => lexI_tr _ _ _⟩
section
variable {prog : Program} {w : World} {A : Around} {E : Value → Shared → Prop} {s : Shared} {Q : Bool → Shared → Prop}
theorem lexI_run {b : Bool} {xs ys : List Value} {ns ms : List Int} (i : Nat) (hx : IntsAre xs ns) (hy : IntsAre ys ms) (hl : ns.length = ms.length)
    (h : Q (lexI ns ms) s) : PySem.W.KatLex prog w A b false Q (xs.zip ys) i s := by
  induction hx generalizing ys ms i with
  | nil =>
    cases hy with
    | nil => exact PySem.W.kat_nil h
    | cons q u hy => simp at hl
  | @cons p t xs ns hx ih =>
    cases hy with
    | nil => simp at hl
    | @cons q u ys ms hy =>
      have hl' : ns.length = ms.length := by simpa using hl
      show PySem.W.KatLex prog w A b false Q ((Value.int p t, Value.int q u) :: xs.zip ys) i s
      refine PySem.W.kat_cons (wpAny_eqBool_int ?_)
      unfold lexI at h
      by_cases e : p = q
      · subst e
        rw [beq_self_eq_true]
        rw [if_pos rfl] at h
        refine PySem.W.kat_yes ?_
        first
          | exact ih (i + 1) hy hl' h
          | exact ih _ _ (i + 1) hy hl' h
      · rw [show (p == q) = false from beq_eq_false_iff_ne.mpr e]
        rw [if_neg e] at h
        exact PySem.W.kat_no (TS.oneLt_ints _ h)
end
def TupsI (h : Heap) (d : Nat) (k : Value → List Int) (vs : List Value) : Prop := ∀ v, v ∈ vs → TS.TupInts h v (k v) ∧ (k v).length = d
theorem firstsI {h : Heap} {d : Nat} {k : Value → List Int} (hd : 1 ≤ d) : ∀ vs : List Value, TupsI h d k vs → ∃ fs, PySem.W.KatTups h vs fs ∧ fs.length = vs.length ∧ ∀ f, f ∈ fs → ∃ n t, f = Value.int n t
  | [], _ => ⟨[], PySem.W.KatTups.nil, rfl, fun f hf => by simp at hf⟩
  | v :: vs, x => by
    obtain ⟨fs, kk, hl, hi⟩ := firstsI hd vs fun u hu => x u (List.mem_cons_of_mem _ hu)
    obtain ⟨⟨a, xs, e0, ⟨o, ho, hc, n, hdt⟩, i⟩, hn⟩ := x v (List.mem_cons_self ..)
    generalize k v = ns at i hn
    subst e0
    obtain ⟨y, ys, e⟩ : ∃ y ys, xs.toList = y :: ys := by
      cases q : xs.toList with
      | nil =>
        rw [q] at i
        have l := i.length
        rw [List.length_nil, hn] at l
        omega
      | cons y ys => exact ⟨y, ys, rfl⟩
    obtain ⟨m, t, hy⟩ := i.all y (by rw [e]; exact List.mem_cons_self ..)
    refine ⟨y :: fs, PySem.W.KatTups.cons ho hc hdt ?_ kk, by simp [hl], ?_⟩
    · have z := congrArg (fun l : List Value => l[0]?) e
      simpa using z
    · intro f hf
      rcases List.mem_cons.mp hf with rfl | hf
      · exact ⟨m, t, hy⟩
      · exact hi f hf
section
variable {prog : Program} {w : World} {A : Around} {s : Shared}
theorem tupsI_sortable {a : Addr} {vs : List Value} {d : Nat} {k : Value → List Int} (hd : 1 ≤ d) (h2 : 2 ≤ vs.length) (x : TupsI s.heap d k vs) (ha : ∀ o, s.heap.get? a = some o → o.cls ≠ .type "tuple") :
    SrtO.SortableO prog w A s a vs fun v u => lexI (k v) (k u) := by
  intro h' keep
  have x' : TupsI h' d k vs := fun v hv => ⟨(x v hv).1.keeps fun b o e c => keep b o (fun z => by subst z; exact ha o e c) e, (x v hv).2⟩
  obtain ⟨fs, kt, hl, hi⟩ := firstsI hd vs x'
  refine ⟨_, fun Q E hq => PySem.W.kat_kind (T := Value.type "int") kt (by omega) (fun f hf => ?_) rfl hq, fun p q hp hq => ?_⟩
  · obtain ⟨n, t, rfl⟩ := hi f hf
    exact PySem.W.Looks.of_pure rfl
  · obtain ⟨tp, lp⟩ := x' _ hp
    obtain ⟨tq, lq⟩ := x' _ hq
    show wpAny (model prog w) A _ (fun r s' => s' = { s with heap := h' } ∧ r = lexI (k p.1) (k q.1)) (fun _ _ => False) _
    generalize k p.1 = ns at tp lp ⊢
    generalize k q.1 = ms at tq lq ⊢
    obtain ⟨a, xs, e1, ⟨o, ho, hc, n, hdt⟩, i⟩ := tp
    obtain ⟨a', ys, e2, ⟨o', ho', hc', n', hdt'⟩, i'⟩ := tq
    rw [e1, e2]
    refine PySem.W.kat_lt ho hdt ho' hdt' ?_
    have sz : decide (xs.size < ys.size) = false := by
      have l1 := i.length
      have l2 := i'.length
      rw [Array.length_toList] at l1 l2
      exact decide_eq_false (by omega)
    rw [sz]
    exact lexI_run 0 i i' (by omega) ⟨rfl, rfl⟩
theorem sorted_tupsI {E : Value → Shared → Prop} {l : Addr} {vs : List Value} {d : Nat} {k : Value → List Int} {Q : Value → Shared → Prop} (hd : 1 ≤ d) (hl : s.heap.IsList l vs.toArray) (hz : vs.length ≤ sizeLine) (hp : TupsI s.heap d k vs)
    (h : ∀ (h' : Heap) (d : Addr) (out : List Value), SrtO.Srtd (fun v u => lexI (k v) (k u)) out → SrtO.Stb (fun v u => lexI (k v) (k u)) out vs → (∀ b o, s.heap.get? b = some o → h'.get? b = some o) → s.heap.objs.size ≤ d → (∃ n, h'.get? d = some (seqObj "list" out.toArray n)) → Q (.ref d) { s with heap := h' }) :
    wpAny (model prog w) A (call (.builtin "sorted") [.ref l]) Q E s := by
  refine SrtO.sorted_ord (lexI_swo k) hl hz (fun h2 h₁ a ha kk => ?_) fun out hs hb => ?_
  · refine tupsI_sortable (s := { s with heap := h₁ }) hd (by omega) (fun v hm => ⟨(hp v hm).1.keeps fun b o e _ => (kk b o e).2, (hp v hm).2⟩) fun o e => ?_
    have e' : some o = some (seqObj "list" vs.toArray 0) := e.symm.trans ha
    cases e'
    intro c
    exact absurd (Value.type.inj c) (by decide)
  · exact h _ _ out hs hb (fun b o e => sortedAll_old e) (Nat.le_succ _) (sortedAll_at s.heap vs out.toArray)
end
/-- sorted(xs), xs a list of tuples of d ints: a new list, ascending item by item -/
def rSortedL (K : PySem.W.Frag) : List V → Hp → VK → Prop := fun vs H Q => ∃ (a : Addr) (xs : List V) (k : V → List Int) (d : Nat), vs = [V.ref a] ∧ SqL K H a xs ∧ 1 ≤ d ∧ (∀ x ∈ xs, TupI K H x (k x) ∧ (k x).length = d) ∧
  ∀ ys, ys.Perm xs → ys.Pairwise (fun x y => lexI (k y) (k x) = false) → NewO (.lst ys) H Q
section
variable {X : Cx} {K : PySem.W.Frag}
theorem call_sortedL (hK : X.K = K) : CallR X (.builtin "sorted") (rSortedL K) := by
  subst hK
  intro pins s σ H vs us Q I r h
  obtain ⟨a, xs, k, d, rfl, hs, hd, hx, q⟩ := h
  obtain ⟨its, rv, hl, hz⟩ := I.list hs
  obtain ⟨u, rfl, ru⟩ := vals1 r
  obtain rfl : u = Value.ref a := ru
  obtain ⟨e1, e2⟩ := refs_back rv fun x m => by
    obtain ⟨⟨t, e, _⟩, _⟩ := hx x m
    exact ⟨t, e⟩
  refine sorted_tupsI (k := fun u => k (backV u)) hd hl.isList (by rw [← rv.length]; exact hz) (fun v hv => ?_) fun h' d out h1 h2 kp hd hn => ?_
  · obtain ⟨t, rfl⟩ := e2 v hv
    have hm : V.ref t ∈ xs := by rw [e1]; exact List.mem_map.mpr ⟨_, hv, rfl⟩
    obtain ⟨⟨t', e, ht⟩, hn⟩ := hx _ hm
    cases e
    exact ⟨tupI_raw I ht, hn⟩
  · have h3 : ∀ u ∈ out, ∃ a, u = Value.ref a := fun u hu => e2 u (h2.perm.mem_iff.mp hu)
    obtain ⟨n, hn⟩ := hn
    have hb : (out.map backV).Perm xs := by
      rw [e1]
      exact h2.perm.map backV
    refine ⟨.ref d, upd H d (.lst (out.map backV)), I.laid (t' := s.toks) kp hd ⟨?_, out, n, vals_back h3, hn⟩, rfl, q _ hb (List.pairwise_map.mpr h1) d (I.hok.fresh hd)⟩
    rw [hb.length_eq]
    exact hz
end

end J
namespace J
open PySem PySem.Spec PyProof.Rows L2
local macro_rules | `(tactic| walk_at "cls") => `(tactic| first
  | with_reducible exact Facts.cl_Parts)
local macro_rules | `(tactic| walk_at "na") => `(tactic| first
  | with_reducible exact Facts.na_Parts_rows)
local macro_rules | `(tactic| walk_at "ty") => `(tactic| first
  | with_reducible exact ty_int
  | with_reducible exact ty_bl
  | with_reducible exact ty_str
  | with_reducible exact ty_non
  | ((with_reducible refine' ty_lst ?vv); (case vv => walk_at "tr"))
  | ((with_reducible refine' ty_sqT ?vv); (case vv => walk_at "tr"))
  | ((with_reducible refine' ty_dic ?vv); (case vv => walk_at "tr")))
local macro_rules | `(tactic| walk_at "ix") => `(tactic| first | exact at0 | exact at1 | exact at2 | assumption)
local macro_rules | `(tactic| walk_at "size") => `(tactic| first
  | assumption
  | (show _ < sizeLine; rw [sizeLine_eq]; (try simp only [List.length_cons, List.length_nil, List.length_append, List.length_map]); omega)
  | (show _ ≤ sizeLine; rw [sizeLine_eq]; (try simp only [List.length_cons, List.length_nil, List.length_append, List.length_map]); omega))
local macro_rules | `(tactic| walk_at "side") => `(tactic| first
  | assumption
  | ((with_reducible refine cdw ?_ ?_) <;> omega)
  | omega
  | (exact ⟨by omega, by omega⟩)
  | (exact Or.inl ⟨by omega, by omega⟩)
  | (exact Or.inr ⟨by omega, by omega⟩)
  | decide
  | (simp only [List.length_cons, List.length_nil, List.length_append, List.length_map]; omega)
  | (show _ ≤ _; decide))
local macro_rules | `(tactic| walk_at "as") => `(tactic| with_reducible assumption)
local macro_rules | `(tactic| walk_at "tr") => `(tactic| first
  | with_reducible assumption
  | with_reducible exact upd_same
  | ((with_reducible refine' SqL.of ?hh); (case hh => walk_at "as"))
  | ((with_reducible refine' SqT.of ?hh); (case hh => walk_at "as"))
  | ((with_reducible refine' Same.stm ?ee ?gg); (case ee => walk_at "as"); (case gg => walk_at "tr"))
  | ((with_reducible refine' Same.sqT ?ee ?gg); (case ee => walk_at "as"); (case gg => walk_at "tr"))
  | ((with_reducible refine' Same.sqL ?ee ?gg); (case ee => walk_at "as"); (case gg => walk_at "tr"))
  | ((with_reducible refine' Same.at ?ee ?gg); (case ee => walk_at "as"); (case gg => walk_at "tr"))
  | ((with_reducible refine' But.stm ?ee ?ff ?gg); (case ee => walk_at "as"); (case ff => walk_at "ne"); (case gg => walk_at "tr"))
  | ((with_reducible refine' But.tup ?ee ?ff ?gg); (case ee => walk_at "as"); (case ff => walk_at "tr1"); (case gg => walk_at "tr"))
  | ((with_reducible refine' But.sqT ?ee ?ff ?gg); (case ee => walk_at "as"); (case ff => walk_at "tr1"); (case gg => walk_at "tr"))
  | ((with_reducible refine' But.tupL ?ee ?ff ?gg); (case ee => walk_at "as"); (case ff => walk_at "tr1"); (case gg => walk_at "tr"))
  | ((with_reducible refine' But.sqTL ?ee ?ff ?gg); (case ee => walk_at "as"); (case ff => walk_at "tr1"); (case gg => walk_at "tr"))
  | ((with_reducible refine' But.sqL ?ee ?ff ?gg); (case ee => walk_at "as"); (case ff => walk_at "ne"); (case gg => walk_at "tr"))
  | ((with_reducible refine' But.at ?ee ?ff ?gg); (case ee => walk_at "as"); (case ff => walk_at "ne"); (case gg => walk_at "tr")))
local macro_rules | `(tactic| walk_at "ts") => `(tactic| first
  | with_reducible assumption
  | with_reducible exact TS.refl _
  | ((with_reducible refine' TS.trans ?gg (TS.of ?ee)); (case ee => walk_at "as"); (case gg => walk_at "ts"))
  | ((with_reducible refine' TS.trans ?gg (TS.butS ?ee ?ff)); (case ee => walk_at "as"); (case ff => walk_at "tr1"); (case gg => walk_at "ts"))
  | ((with_reducible refine' TS.trans ?gg (TS.butL ?ee ?ff)); (case ee => walk_at "as"); (case ff => walk_at "tr1"); (case gg => walk_at "ts"))
  | ((with_reducible refine' TS.trans ?gg (TS.butI ?ee ?ff)); (case ee => walk_at "as"); (case ff => walk_at "tr1"); (case gg => walk_at "ts")))
local macro_rules | `(tactic| walk_at "sm") => `(tactic| first
  | with_reducible assumption
  | with_reducible exact Same.refl _
  | ((with_reducible refine' Same.trans ?gg ?ee); (case ee => walk_at "as"); (case gg => walk_at "sm"))
  | ((with_reducible refine' But.new ?gg ?nn ?ee); (case ee => walk_at "as"); (case nn => walk_at "fr"); (case gg => walk_at "sm")))
local macro_rules | `(tactic| walk_at "fr") => `(tactic| first
  | with_reducible assumption
  | ((with_reducible refine' Same.back ?ee ?nn); (case nn => walk_at "as"); (case ee => walk_at "sm"))
  | ((with_reducible refine' But.back ?ee ?ff ?nn); (case nn => walk_at "as"); (case ff => walk_at "ne0"); (case ee => walk_at "bu")))
local macro_rules | `(tactic| walk_at "bu") => `(tactic| first
  | with_reducible assumption
  | with_reducible exact But.refl _ _
  | ((with_reducible refine' But.trans ?gg ?ee); (case ee => walk_at "as"); (case gg => walk_at "bu"))
  | ((with_reducible refine' But.trans ?gg (But.of ?ee)); (case ee => walk_at "as"); (case gg => walk_at "bu"))
  | ((with_reducible refine' But.new2 ?gg ?nn ?ee); (case ee => walk_at "as"); (case nn => walk_at "frB"); (case gg => walk_at "bu")))
local macro_rules | `(tactic| walk_at "frB") => `(tactic| first
  | with_reducible assumption
  | ((with_reducible refine' Same.back ?ee ?nn); (case nn => walk_at "as"); (case ee => walk_at "sm"))
  | ((with_reducible refine' But.back' ?ee ?ff ?nn); (case nn => walk_at "as"); (case ee => walk_at "bu"); (case ff => walk_at "tr1")))
local macro_rules | `(tactic| walk_at "tr1") => `(tactic| first
  | with_reducible assumption
  | ((with_reducible refine' Same.stm ?ee ?gg); (case ee => walk_at "as"); (case gg => walk_at "tr1"))
  | ((with_reducible refine' Same.at ?ee ?gg); (case ee => walk_at "as"); (case gg => walk_at "tr1"))
  | ((with_reducible refine' But.at ?ee ?ff ?gg); (case ee => walk_at "as"); (case ff => walk_at "ne0"); (case gg => walk_at "tr1"))
  | ((with_reducible refine' But.stm ?ee ?ff ?gg); (case ee => walk_at "as"); (case ff => walk_at "ne0"); (case gg => walk_at "tr1")))
local macro_rules | `(tactic| walk_at "ne0") => `(tactic| first
  | with_reducible assumption
  | (with_reducible apply Ne.symm; with_reducible assumption))
local macro_rules | `(tactic| walk_at "ne") => `(tactic| first
  | with_reducible assumption
  | (with_reducible apply Ne.symm; with_reducible assumption)
  | ((with_reducible refine' stm_ne ?hh ?nn); (case nn => walk_at "as"); (case hh => walk_at "tr1"))
  | ((with_reducible refine' ne_of_none ?hh ?nn); (case nn => walk_at "as"); (case hh => walk_at "tr1"))
  | ((with_reducible apply Ne.symm); (with_reducible refine' ne_of_none ?hh ?nn); (case nn => walk_at "as"); (case hh => walk_at "tr1")))
local macro_rules | `(tactic| walk_at "v") => `(tactic| first
  | with_reducible refine w_seq ?_
  | ((with_reducible refine' w_var ?vv ?_); (case vv => exact rfl))
  | with_reducible refine w_c ?_
  | with_reducible refine w_op ?_
  | with_reducible refine w_asg ?_
  | with_reducible refine w_gName ?_
  | with_reducible refine w_ret ?_
  | with_reducible refine w_ifS ?_
  | with_reducible refine w_drop ?_
  | with_reducible refine w_next ?_
  | with_reducible refine w_cons ?_
  | with_reducible refine w_nil ?_
  | with_reducible refine w_call ?_
  | with_reducible refine w_cb ?_
  | with_reducible refine w_rI0 ?_
  | with_reducible refine w_addI ?_
  | with_reducible refine w_eqI ?_
  | with_reducible refine w_neI ?_
  | with_reducible refine w_eqS ?_
  | with_reducible refine w_neS ?_
  | with_reducible refine w_eqB ?_
  | with_reducible refine w_neB ?_
  | with_reducible refine w_chain ?_
  | with_reducible refine w_test ?_
  | with_reducible refine w_tB ?_
  | with_reducible refine w_bl ?_
  | ((with_reducible refine' w_mulI ?vv ?_); (case vv => walk_at "side"))
  | ((with_reducible refine' w_rI ?vv ?_); (case vv => walk_at "side"))
  | with_reducible refine w_int1 ?_
  | with_reducible refine w_int1b ?_
  | with_reducible refine w_tup ?_
  | with_reducible refine w_lst ?_
  | with_reducible refine w_un ?_
  | with_reducible refine w_rU ?_
  | with_reducible refine w_not ?_
  | with_reducible refine w_notV ?_
  | with_reducible refine w_ifE ?_
  | with_reducible refine w_nT ?_
  | with_reducible refine w_nF ?_
  | with_reducible refine iteT ?_
  | with_reducible refine iteF ?_
  | ((with_reducible refine' w_ixT ?vv ?ww ?_); (case vv => walk_at "tr"); (case ww => walk_at "ix"))
  | ((with_reducible refine' w_ixL ?vv ?ww ?_); (case vv => walk_at "tr"); (case ww => walk_at "ix"))
  | with_reducible refine w_gSub ?_
  | ((with_reducible refine' w_setL ?vv ?ww ?_); (case vv => walk_at "tr"); (case ww => first | rfl | decide | assumption))
  | ((with_reducible refine' w_lenL ?vv ?_); (case vv => walk_at "tr"))
  | ((with_reducible refine' w_lenT ?vv ?_); (case vv => walk_at "tr"))
  | with_reducible refine w_max2 ?_
  | with_reducible refine w_max3 ?_
  | with_reducible refine w_din ?_
  | with_reducible refine w_dnotin ?_
  | with_reducible refine w_dput ?_
  | with_reducible refine w_min2 ?_
  | with_reducible refine w_bm ?_
  | with_reducible refine w_bm0 ?_
  | ((with_reducible refine' w_tyL ?vv ?_); (case vv => walk_at "tr"))
  | ((with_reducible refine' w_append ?vv ?ww ?_); (case vv => walk_at "tr"); (case ww => walk_at "size"))
  | ((with_reducible refine' w_size ?vv ?_); (case vv => walk_at "size"))
  | with_reducible refine w_forL ?_
  | with_reducible refine w_forT ?_
  | with_reducible refine w_forR1 ?_
  | with_reducible refine w_forR2 ?_
  | with_reducible refine w_lcL ?_
  | with_reducible refine w_lcT ?_
  | with_reducible refine w_lcR1 ?_
  | with_reducible refine w_yes ?_
  | with_reducible refine w_sl ?_
  | with_reducible refine w_noPart ?_
  | with_reducible refine w_part ?_
  | with_reducible refine w_int ?_
  | ((with_reducible refine' w_slL ?vv ?_); (case vv => walk_at "tr"))
  | ((with_reducible refine' w_seqL ?vv ?ww ?_); (case vv => walk_at "tr"); (case ww => rfl))
  | ((with_reducible refine' w_seqT ?vv ?ww ?_); (case vv => walk_at "tr"); (case ww => rfl))
  | with_reducible refine w_gNil ?_
  | with_reducible refine w_gCons ?_
  | with_reducible refine w_forZ ?_
  | with_reducible refine w_forM ?_
  | with_reducible refine w_forE ?_
  | with_reducible refine w_forV ?_
  | with_reducible refine w_lcZ ?_
  | with_reducible refine w_lcE ?_
  | ((with_reducible refine' w_isi (b := true) ?vv ?ww ?_); (case vv => walk_at "ty"); (case ww => decide +kernel))
  | ((with_reducible refine' w_isi (b := false) ?vv ?ww ?_); (case vv => walk_at "ty"); (case ww => decide +kernel))
  | with_reducible refine w_revL ?_
  | with_reducible refine w_pairN ?_
  | with_reducible refine w_pairC ?_
  | with_reducible refine w_dget ?_
  | with_reducible refine w_met ?_
  | ((with_reducible refine' w_metAt ?vv ?ww ?_); (case vv => walk_at "tr"); (case ww => rfl))
  | with_reducible refine w_mkI ?_
  | with_reducible refine w_fld ?_
  | ((with_reducible refine' w_fldAt ?vv ?cc ?nn ?ww ?_); (case vv => walk_at "tr"); (case cc => walk_at "cls"); (case nn => walk_at "na"); (case ww => rfl))
  | with_reducible refine w_sfld ?_
  | ((with_reducible refine' w_sfldAt ?vv ?cc ?nn ?ll ?ee ?_); (case vv => walk_at "tr"); (case cc => walk_at "cls"); (case nn => walk_at "na"); (case ll => simp); (case ee => rfl))
  | ((with_reducible refine' w_tupL ?vv ?_); (case vv => walk_at "tr"))
  | ((with_reducible refine' w_tupT ?vv ?_); (case vv => walk_at "tr"))
  | ((with_reducible refine' w_listL ?vv ?_); (case vv => walk_at "tr"))
  | ((with_reducible refine' w_listT ?vv ?_); (case vv => walk_at "tr"))
  | with_reducible refine w_tyS ?_
  | with_reducible refine w_retN ?_
  | with_reducible refine w_break ?_
  | with_reducible refine w_cont ?_)
local macro_rules | `(tactic| walk_at "w") => `(tactic| first
  | walk_at "v"
  | with_reducible refine w_or ?_
  | with_reducible refine w_and ?_
  | with_reducible refine w_andV ?_
  | with_reducible refine w_orV ?_)
local macro_rules | `(tactic| walk_at "wd") => `(tactic| first
  | walk_at "w"
  | ((with_reducible refine' w_decT ?vv ?_); (case vv => decide +kernel))
  | ((with_reducible refine' w_decF ?vv ?_); (case vv => decide +kernel)))
local macro_rules | `(tactic| walk_at "tz") => `(tactic| (intro S z; (repeat walk_at "w"); exact z))
local macro_rules | `(tactic| walk_at "wf") => `(tactic| first
  | walk_at "wd"
  | ((with_reducible refine' w_decF ?vv ?_); (case vv => with_reducible assumption)))
section
variable {X : Cx} {K : PySem.W.Frag} {H : Hp} {Q : VK}
/-- max, min of a list of ints; max of three -/
def rMaxO (K : PySem.W.Frag) : List V → Hp → VK → Prop := fun vs H Q => ∃ (a : Addr) (ns : List Int), vs = [V.ref a] ∧ SqL K H a (ns.map V.int) ∧ 0 < ns.length ∧ ∀ m, m ∈ ns → (∀ y, y ∈ ns → y ≤ m) → Q (.int m) H
theorem call_maxL (hK : X.K = K) (hc : X.calm = true) : CallR X (.builtin "max") (rMaxO K) := by subst hK; exact cr_max hc
theorem w_maxL {a : Addr} {ns : List Int} (h : SqL K H a (ns.map V.int)) (hl : 0 < ns.length) (k : ∀ m, m ∈ ns → (∀ y, y ∈ ns → y ≤ m) → Q (.int m) H) : rMaxO K [.ref a] H Q := ⟨a, ns, rfl, h, hl, k⟩
def rMax3 : List V → Hp → VK → Prop := fun xs H Q => ∃ i j k : Int, xs = [.int i, .int j, .int k] ∧ Q (.int (max (max i j) k)) H
theorem lt3 (i j : Int) : (if decide (j > i) = true then V.int j else .int i) = .int (max i j) := by
  by_cases h : j > i
  · rw [decide_eq_true h, if_pos rfl]; exact congrArg V.int (by omega)
  · rw [decide_eq_false h, if_neg Bool.false_ne_true]; exact congrArg V.int (by omega)
theorem call_max3A (hc : X.calm = true) : CallR X (.builtin "max") rMax3 := fun pins s σ H xs us Q I r h => by
  obtain ⟨i, j, k, rfl, q⟩ := h
  refine call_max3Nu hc pins s σ H _ us Q I r ⟨.int i, .int j, .int k, .int (max (max i j) k), rfl, ?_, q⟩
  have m2 : ∀ i j : Int, nuMax2 (.int i) (.int j) = some (.int (max i j)) := fun i j => by
    show some _ = _
    exact congrArg some (lt3 i j)
  show (nuMax2 (.int i) (.int j)).bind _ = _
  rw [m2]
  exact m2 _ _
theorem w_max3 {i j k : Int} (q : Q (.int (max (max i j) k)) H) : rMax3 [.int i, .int j, .int k] H Q := ⟨i, j, k, rfl, q⟩
/-- list.index -/
theorem mt_indexA (hK : X.K = K) : MtR X "list.index" (rIndex K) := by subst hK; exact mt_index
theorem w_indexI {a : Addr} {ns : List Int} {k : Int} {j : Nat} (h : SqL K H a (ns.map V.int)) (e : ns[j]? = some k) (no : ∀ m, m < j → ns[m]? ≠ some k) (q : Q (.int (j : Nat)) H) : rIndex K (.ref a) [.int k] H Q :=
  ⟨a, ns.map V.int, .int k, j, .int k, rfl, rfl, h, rfl, by rw [List.all_eq_true]; intro x hx; obtain ⟨_, _, rfl⟩ := List.mem_map.mp hx; rfl, by rw [List.getElem?_map, e]; rfl, by simp [eqV], fun m z hm hz => by
    rw [List.getElem?_map] at hz
    cases h2 : ns[m]? with
    | none => rw [h2] at hz; cases hz
    | some y =>
      rw [h2] at hz
      cases Option.some.inj hz
      have : y ≠ k := fun z => no m hm (by rw [h2, z])
      simp [eqV, this], q⟩
/-- list(range(n)) -/
def rRng1 : List V → Hp → VK → Prop := fun vs H Q => ∃ j : Int, vs = [V.int j] ∧ NewO (.rng 0 j) H Q
theorem call_rng1 : CallR X (.type "range") rRng1 := by
  intro pins s σ H vs us Q I r h
  obtain ⟨j, rfl, q⟩ := h
  obtain ⟨u, rfl, ru⟩ := vals1 r
  obtain ⟨t, rfl⟩ := ru
  refine call_range_1 ⟨.ref s.heap.objs.size, upd H s.heap.objs.size (.rng 0 j), I.laid (t' := s.toks + 1 + 1) (fun b o e => Heap.get?_push_of_some _ e) (Nat.le_refl _) ?_, rfl, q _ (I.hok.fresh (Nat.le_refl _))⟩
  exact ⟨s.toks, t, s.toks + 1, Heap.get?_push_size _ rfl⟩
def rListRng : List V → Hp → VK → Prop := fun vs H Q => ∃ (a : Addr) (j : Int), vs = [V.ref a] ∧ H a = some (.rng 0 j) ∧ 0 ≤ j ∧ j ≤ 1000 ∧ NewO (.lst ((List.range j.toNat).map fun i : Nat => V.int (i : Int))) H Q
theorem vals_ixR : ∀ {xs : List V} {us : List Value}, xs.length = us.length → (∀ (j : Nat) (x : V) (u : Value), xs[j]? = some x → us[j]? = some u → RelV x u) → Vals xs us
  | [], [], _, _ => .nil
  | [], _ :: _, h, _ => by simp at h
  | _ :: _, [], h, _ => by simp at h
  | x :: xs, u :: us, h, f => .cons (f 0 x u rfl rfl) (vals_ixR (by simpa using h) fun j y w h1 h2 => f (j + 1) y w (by simpa using h1) (by simpa using h2))
theorem vals_items {acc : Array Value} {n : Nat} (h : ItemsOf (fun i v => ∃ t, v = Value.int (0 + (i : Int) * 1) t) acc n) : Vals ((List.range n).map fun i : Nat => V.int (i : Int)) acc.toList := by
  refine vals_ixR (by rw [List.length_map, List.length_range, Array.length_toList]; exact h.1.symm) fun j x u hx hu => ?_
  rw [List.getElem?_map] at hx
  cases hr : (List.range n)[j]? with
  | none => rw [hr] at hx; cases hx
  | some i =>
    rw [hr] at hx
    obtain ⟨hl, he⟩ := List.getElem?_eq_some_iff.mp hr
    rw [List.getElem_range] at he
    subst he
    rw [List.length_range] at hl
    cases Option.some.inj hx
    rw [Array.getElem?_toList] at hu
    obtain ⟨t, rfl⟩ := h.2 j u hu
    exact ⟨t, by rw [Int.zero_add, Int.mul_one]⟩
theorem call_listRng (hc : X.calm = true) : CallR X (.type "list") rListRng := by
  intro pins s σ H vs us Q I r h
  obtain ⟨a, j, rfl, ha, h0, h1, q⟩ := h
  obtain ⟨u, rfl, ru⟩ := vals1 r
  obtain rfl : u = Value.ref a := ru
  obtain ⟨t, u, v, hr⟩ := I.hok a _ ha
  refine call_list_range (n := j.toNat) (I.ok.hd hc) hr ?_ ?_ (by omega) fun h' tk acc' c' hk hS hi => ?_
  · exact PySem.small_one (by decide) (by decide) (by omega) (by omega)
  · rw [PySem.rangeSize_one]
    by_cases z : 0 < j
    · rw [if_pos z]; omega
    · rw [if_neg z]; omega
  · refine ⟨.ref s.heap.objs.size, upd H s.heap.objs.size (.lst _), I.laid (t' := tk) hk (Nat.le_refl _) ⟨?_, acc'.toList, c', vals_items hi, by simpa using hS⟩, rfl, q _ (I.hok.fresh (Nat.le_refl _))⟩
    rw [List.length_map, List.length_range, sizeLine_eq]
    omega
theorem w_rng1 {j : Int} (k : NewO (.rng 0 j) H Q) : rRng1 [.int j] H Q := ⟨j, rfl, k⟩
theorem w_listRng {a : Addr} {j : Int} (h : H a = some (.rng 0 j)) (h0 : 0 ≤ j) (h1 : j ≤ 1000) (k : NewO (.lst ((List.range j.toNat).map fun i : Nat => V.int (i : Int))) H Q) : rListRng [.ref a] H Q := ⟨a, j, rfl, h, h0, h1, k⟩
/-- list.remove -/
theorem w_remove {a : Addr} {ns : List Int} {k : Int} {j : Nat} (h : H a = some (.lst (ns.map V.int))) (e : ns[j]? = some k) (no : ∀ m, m < j → ns[m]? ≠ some k) (q : ChgO a (.lst ((ns.eraseIdx j).map V.int)) H (Q .non)) : rRemI (.ref a) [.int k] H Q := ⟨a, ns, k, j, rfl, rfl, h, e, no, q⟩
end
section
variable {K : PySem.W.Frag} {H : Hp} {Q : VK} {σ : L2.St} {ty td tv : TE}
theorem w_din (k : ty σ H fun y H1 => td σ H1 fun x H2 => ∃ a o, x = .ref a ∧ DGet H2 a y o ∧ Q (.bl o.isSome) H2) : tDIn ty td σ H Q := k
theorem w_dnotin (k : ty σ H fun y H1 => td σ H1 fun x H2 => ∃ a o, x = .ref a ∧ DGet H2 a y o ∧ Q (.bl (!o.isSome)) H2) : tDNotIn ty td σ H Q := k
theorem w_dput {D : L2.Ends} (k : tv σ H fun v H1 => td σ H1 fun x H2 => ty σ H2 fun y H3 => ∃ a H4, x = .ref a ∧ DPut H3 a y v H4 ∧ D.nx σ H4) : sDPut td ty tv D σ H := k
end
/-- a comprehension within one -/
theorem lookup_rel {env : Env} : ∀ {names : List (Str × NameKind)} {x : Str}, (names.lookup x = some .cell ∨ names.lookup x = some .free) →
    ((names.map fun (n, k) => if (k == NameKind.free && env.scope.kind == .function && env.kindOf n == some .cell) then (n, NameKind.cell) else (n, k)).lookup x = some .cell ∨
     (names.map fun (n, k) => if (k == NameKind.free && env.scope.kind == .function && env.kindOf n == some .cell) then (n, NameKind.cell) else (n, k)).lookup x = some .free)
  | [], x, h => by simp at h
  | (n, k) :: r, x, h => by
    have ih := @lookup_rel env r x
    show List.lookup x ((if (k == NameKind.free && env.scope.kind == .function && env.kindOf n == some .cell) = true then (n, NameKind.cell) else (n, k)) :: _) = _ ∨ List.lookup x ((if (k == NameKind.free && env.scope.kind == .function && env.kindOf n == some .cell) = true then (n, NameKind.cell) else (n, k)) :: _) = _
    cases hx : x == n with
    | true =>
      simp only [List.lookup_cons, hx] at h
      by_cases hc : (k == NameKind.free && env.scope.kind == .function && env.kindOf n == some .cell) = true
      · rw [if_pos hc]; simp only [List.lookup_cons, hx]; exact .inl trivial
      · rw [if_neg hc]; simp only [List.lookup_cons, hx]; exact h
    | false =>
      simp only [List.lookup_cons, hx] at h
      by_cases hc : (k == NameKind.free && env.scope.kind == .function && env.kindOf n == some .cell) = true
      · rw [if_pos hc]; simp only [List.lookup_cons, hx]; exact ih h
      · rw [if_neg hc]; simp only [List.lookup_cons, hx]; exact ih h
theorem blkOk_rel {N : List Str} {sc0 scope : Scope} {env : Env} {own : List (Str × Nat)} (h : blkC N sc0 scope own = true) : BlkOk N (relabel sc0 env) scope own := by
  have b := blkOk_by h
  exact ⟨b.kind, b.uniq, b.ix, fun y hy e => lookup_rel (b.free y hy e), b.own⟩

end J
namespace J
open PySem PySem.Spec PyProof.Rows L2
local macro_rules | `(tactic| walk_at "cls") => `(tactic| first
  | with_reducible exact Facts.cl_Parts)
local macro_rules | `(tactic| walk_at "na") => `(tactic| first
  | with_reducible exact Facts.na_Parts_rows)
local macro_rules | `(tactic| walk_at "ty") => `(tactic| first
  | with_reducible exact ty_int
  | with_reducible exact ty_bl
  | with_reducible exact ty_str
  | with_reducible exact ty_non
  | ((with_reducible refine' ty_lst ?vv); (case vv => walk_at "tr"))
  | ((with_reducible refine' ty_sqT ?vv); (case vv => walk_at "tr"))
  | ((with_reducible refine' ty_dic ?vv); (case vv => walk_at "tr")))
local macro_rules | `(tactic| walk_at "ix") => `(tactic| first | exact at0 | exact at1 | exact at2 | assumption)
local macro_rules | `(tactic| walk_at "size") => `(tactic| first
  | assumption
  | (show _ < sizeLine; rw [sizeLine_eq]; (try simp only [List.length_cons, List.length_nil, List.length_append, List.length_map]); omega)
  | (show _ ≤ sizeLine; rw [sizeLine_eq]; (try simp only [List.length_cons, List.length_nil, List.length_append, List.length_map]); omega))
local macro_rules | `(tactic| walk_at "side") => `(tactic| first
  | assumption
  | ((with_reducible refine cdw ?_ ?_) <;> omega)
  | omega
  | (exact ⟨by omega, by omega⟩)
  | (exact Or.inl ⟨by omega, by omega⟩)
  | (exact Or.inr ⟨by omega, by omega⟩)
  | decide
  | (simp only [List.length_cons, List.length_nil, List.length_append, List.length_map]; omega)
  | (show _ ≤ _; decide))
local macro_rules | `(tactic| walk_at "as") => `(tactic| with_reducible assumption)
local macro_rules | `(tactic| walk_at "tr") => `(tactic| first
  | with_reducible assumption
  | with_reducible exact upd_same
  | ((with_reducible refine' SqL.of ?hh); (case hh => walk_at "as"))
  | ((with_reducible refine' SqT.of ?hh); (case hh => walk_at "as"))
  | ((with_reducible refine' Same.stm ?ee ?gg); (case ee => walk_at "as"); (case gg => walk_at "tr"))
  | ((with_reducible refine' Same.sqT ?ee ?gg); (case ee => walk_at "as"); (case gg => walk_at "tr"))
  | ((with_reducible refine' Same.sqL ?ee ?gg); (case ee => walk_at "as"); (case gg => walk_at "tr"))
  | ((with_reducible refine' Same.at ?ee ?gg); (case ee => walk_at "as"); (case gg => walk_at "tr"))
  | ((with_reducible refine' But.stm ?ee ?ff ?gg); (case ee => walk_at "as"); (case ff => walk_at "ne"); (case gg => walk_at "tr"))
  | ((with_reducible refine' But.tup ?ee ?ff ?gg); (case ee => walk_at "as"); (case ff => walk_at "tr1"); (case gg => walk_at "tr"))
  | ((with_reducible refine' But.sqT ?ee ?ff ?gg); (case ee => walk_at "as"); (case ff => walk_at "tr1"); (case gg => walk_at "tr"))
  | ((with_reducible refine' But.tupL ?ee ?ff ?gg); (case ee => walk_at "as"); (case ff => walk_at "tr1"); (case gg => walk_at "tr"))
  | ((with_reducible refine' But.sqTL ?ee ?ff ?gg); (case ee => walk_at "as"); (case ff => walk_at "tr1"); (case gg => walk_at "tr"))
  | ((with_reducible refine' But.sqL ?ee ?ff ?gg); (case ee => walk_at "as"); (case ff => walk_at "ne"); (case gg => walk_at "tr"))
  | ((with_reducible refine' But.at ?ee ?ff ?gg); (case ee => walk_at "as"); (case ff => walk_at "ne"); (case gg => walk_at "tr")))
local macro_rules | `(tactic| walk_at "ts") => `(tactic| first
  | with_reducible assumption
  | with_reducible exact TS.refl _
  | ((with_reducible refine' TS.trans ?gg (TS.of ?ee)); (case ee => walk_at "as"); (case gg => walk_at "ts"))
  | ((with_reducible refine' TS.trans ?gg (TS.butS ?ee ?ff)); (case ee => walk_at "as"); (case ff => walk_at "tr1"); (case gg => walk_at "ts"))
  | ((with_reducible refine' TS.trans ?gg (TS.butL ?ee ?ff)); (case ee => walk_at "as"); (case ff => walk_at "tr1"); (case gg => walk_at "ts"))
  | ((with_reducible refine' TS.trans ?gg (TS.butI ?ee ?ff)); (case ee => walk_at "as"); (case ff => walk_at "tr1"); (case gg => walk_at "ts")))
local macro_rules | `(tactic| walk_at "sm") => `(tactic| first
  | with_reducible assumption
  | with_reducible exact Same.refl _
  | ((with_reducible refine' Same.trans ?gg ?ee); (case ee => walk_at "as"); (case gg => walk_at "sm"))
  | ((with_reducible refine' But.new ?gg ?nn ?ee); (case ee => walk_at "as"); (case nn => walk_at "fr"); (case gg => walk_at "sm")))
local macro_rules | `(tactic| walk_at "fr") => `(tactic| first
  | with_reducible assumption
  | ((with_reducible refine' Same.back ?ee ?nn); (case nn => walk_at "as"); (case ee => walk_at "sm"))
  | ((with_reducible refine' But.back ?ee ?ff ?nn); (case nn => walk_at "as"); (case ff => walk_at "ne0"); (case ee => walk_at "bu")))
local macro_rules | `(tactic| walk_at "bu") => `(tactic| first
  | with_reducible assumption
  | with_reducible exact But.refl _ _
  | ((with_reducible refine' But.trans ?gg ?ee); (case ee => walk_at "as"); (case gg => walk_at "bu"))
  | ((with_reducible refine' But.trans ?gg (But.of ?ee)); (case ee => walk_at "as"); (case gg => walk_at "bu"))
  | ((with_reducible refine' But.new2 ?gg ?nn ?ee); (case ee => walk_at "as"); (case nn => walk_at "frB"); (case gg => walk_at "bu")))
local macro_rules | `(tactic| walk_at "frB") => `(tactic| first
  | with_reducible assumption
  | ((with_reducible refine' Same.back ?ee ?nn); (case nn => walk_at "as"); (case ee => walk_at "sm"))
  | ((with_reducible refine' But.back' ?ee ?ff ?nn); (case nn => walk_at "as"); (case ee => walk_at "bu"); (case ff => walk_at "tr1")))
local macro_rules | `(tactic| walk_at "tr1") => `(tactic| first
  | with_reducible assumption
  | ((with_reducible refine' Same.stm ?ee ?gg); (case ee => walk_at "as"); (case gg => walk_at "tr1"))
  | ((with_reducible refine' Same.at ?ee ?gg); (case ee => walk_at "as"); (case gg => walk_at "tr1"))
  | ((with_reducible refine' But.at ?ee ?ff ?gg); (case ee => walk_at "as"); (case ff => walk_at "ne0"); (case gg => walk_at "tr1"))
  | ((with_reducible refine' But.stm ?ee ?ff ?gg); (case ee => walk_at "as"); (case ff => walk_at "ne0"); (case gg => walk_at "tr1")))
local macro_rules | `(tactic| walk_at "ne0") => `(tactic| first
  | with_reducible assumption
  | (with_reducible apply Ne.symm; with_reducible assumption))
local macro_rules | `(tactic| walk_at "ne") => `(tactic| first
  | with_reducible assumption
  | (with_reducible apply Ne.symm; with_reducible assumption)
  | ((with_reducible refine' stm_ne ?hh ?nn); (case nn => walk_at "as"); (case hh => walk_at "tr1"))
  | ((with_reducible refine' ne_of_none ?hh ?nn); (case nn => walk_at "as"); (case hh => walk_at "tr1"))
  | ((with_reducible apply Ne.symm); (with_reducible refine' ne_of_none ?hh ?nn); (case nn => walk_at "as"); (case hh => walk_at "tr1")))
local macro_rules | `(tactic| walk_at "v") => `(tactic| first
  | with_reducible refine w_seq ?_
  | ((with_reducible refine' w_var ?vv ?_); (case vv => exact rfl))
  | with_reducible refine w_c ?_
  | with_reducible refine w_op ?_
  | with_reducible refine w_asg ?_
  | with_reducible refine w_gName ?_
  | with_reducible refine w_ret ?_
  | with_reducible refine w_ifS ?_
  | with_reducible refine w_drop ?_
  | with_reducible refine w_next ?_
  | with_reducible refine w_cons ?_
  | with_reducible refine w_nil ?_
  | with_reducible refine w_call ?_
  | with_reducible refine w_cb ?_
  | with_reducible refine w_rI0 ?_
  | with_reducible refine w_addI ?_
  | with_reducible refine w_eqI ?_
  | with_reducible refine w_neI ?_
  | with_reducible refine w_eqS ?_
  | with_reducible refine w_neS ?_
  | with_reducible refine w_eqB ?_
  | with_reducible refine w_neB ?_
  | with_reducible refine w_chain ?_
  | with_reducible refine w_test ?_
  | with_reducible refine w_tB ?_
  | with_reducible refine w_bl ?_
  | ((with_reducible refine' w_mulI ?vv ?_); (case vv => walk_at "side"))
  | ((with_reducible refine' w_rI ?vv ?_); (case vv => walk_at "side"))
  | with_reducible refine w_int1 ?_
  | with_reducible refine w_int1b ?_
  | with_reducible refine w_tup ?_
  | with_reducible refine w_lst ?_
  | with_reducible refine w_un ?_
  | with_reducible refine w_rU ?_
  | with_reducible refine w_not ?_
  | with_reducible refine w_notV ?_
  | with_reducible refine w_ifE ?_
  | with_reducible refine w_nT ?_
  | with_reducible refine w_nF ?_
  | with_reducible refine iteT ?_
  | with_reducible refine iteF ?_
  | ((with_reducible refine' w_ixT ?vv ?ww ?_); (case vv => walk_at "tr"); (case ww => walk_at "ix"))
  | ((with_reducible refine' w_ixL ?vv ?ww ?_); (case vv => walk_at "tr"); (case ww => walk_at "ix"))
  | with_reducible refine w_gSub ?_
  | ((with_reducible refine' w_setL ?vv ?ww ?_); (case vv => walk_at "tr"); (case ww => first | rfl | decide | assumption))
  | ((with_reducible refine' w_lenL ?vv ?_); (case vv => walk_at "tr"))
  | ((with_reducible refine' w_lenT ?vv ?_); (case vv => walk_at "tr"))
  | with_reducible refine w_max2 ?_
  | with_reducible refine w_max3 ?_
  | with_reducible refine w_din ?_
  | with_reducible refine w_dnotin ?_
  | with_reducible refine w_dput ?_
  | with_reducible refine w_min2 ?_
  | with_reducible refine w_bm ?_
  | with_reducible refine w_bm0 ?_
  | ((with_reducible refine' w_tyL ?vv ?_); (case vv => walk_at "tr"))
  | ((with_reducible refine' w_append ?vv ?ww ?_); (case vv => walk_at "tr"); (case ww => walk_at "size"))
  | ((with_reducible refine' w_size ?vv ?_); (case vv => walk_at "size"))
  | with_reducible refine w_forL ?_
  | with_reducible refine w_forT ?_
  | with_reducible refine w_forR1 ?_
  | with_reducible refine w_forR2 ?_
  | with_reducible refine w_lcL ?_
  | with_reducible refine w_lcT ?_
  | with_reducible refine w_lcR1 ?_
  | with_reducible refine w_yes ?_
  | with_reducible refine w_sl ?_
  | with_reducible refine w_noPart ?_
  | with_reducible refine w_part ?_
  | with_reducible refine w_int ?_
  | ((with_reducible refine' w_slL ?vv ?_); (case vv => walk_at "tr"))
  | ((with_reducible refine' w_seqL ?vv ?ww ?_); (case vv => walk_at "tr"); (case ww => rfl))
  | ((with_reducible refine' w_seqT ?vv ?ww ?_); (case vv => walk_at "tr"); (case ww => rfl))
  | with_reducible refine w_gNil ?_
  | with_reducible refine w_gCons ?_
  | with_reducible refine w_forZ ?_
  | with_reducible refine w_forM ?_
  | with_reducible refine w_forE ?_
  | with_reducible refine w_forV ?_
  | with_reducible refine w_lcZ ?_
  | with_reducible refine w_lcE ?_
  | ((with_reducible refine' w_isi (b := true) ?vv ?ww ?_); (case vv => walk_at "ty"); (case ww => decide +kernel))
  | ((with_reducible refine' w_isi (b := false) ?vv ?ww ?_); (case vv => walk_at "ty"); (case ww => decide +kernel))
  | with_reducible refine w_revL ?_
  | with_reducible refine w_pairN ?_
  | with_reducible refine w_pairC ?_
  | with_reducible refine w_dget ?_
  | with_reducible refine w_met ?_
  | ((with_reducible refine' w_metAt ?vv ?ww ?_); (case vv => walk_at "tr"); (case ww => rfl))
  | with_reducible refine w_mkI ?_
  | with_reducible refine w_fld ?_
  | ((with_reducible refine' w_fldAt ?vv ?cc ?nn ?ww ?_); (case vv => walk_at "tr"); (case cc => walk_at "cls"); (case nn => walk_at "na"); (case ww => rfl))
  | with_reducible refine w_sfld ?_
  | ((with_reducible refine' w_sfldAt ?vv ?cc ?nn ?ll ?ee ?_); (case vv => walk_at "tr"); (case cc => walk_at "cls"); (case nn => walk_at "na"); (case ll => simp); (case ee => rfl))
  | ((with_reducible refine' w_tupL ?vv ?_); (case vv => walk_at "tr"))
  | ((with_reducible refine' w_tupT ?vv ?_); (case vv => walk_at "tr"))
  | ((with_reducible refine' w_listL ?vv ?_); (case vv => walk_at "tr"))
  | ((with_reducible refine' w_listT ?vv ?_); (case vv => walk_at "tr"))
  | with_reducible refine w_tyS ?_
  | with_reducible refine w_retN ?_
  | with_reducible refine w_break ?_
  | with_reducible refine w_cont ?_)
local macro_rules | `(tactic| walk_at "w") => `(tactic| first
  | walk_at "v"
  | with_reducible refine w_or ?_
  | with_reducible refine w_and ?_
  | with_reducible refine w_andV ?_
  | with_reducible refine w_orV ?_)
local macro_rules | `(tactic| walk_at "wd") => `(tactic| first
  | walk_at "w"
  | ((with_reducible refine' w_decT ?vv ?_); (case vv => decide +kernel))
  | ((with_reducible refine' w_decF ?vv ?_); (case vv => decide +kernel)))
local macro_rules | `(tactic| walk_at "tz") => `(tactic| (intro S z; (repeat walk_at "w"); exact z))
local macro_rules | `(tactic| walk_at "wf") => `(tactic| first
  | walk_at "wd"
  | ((with_reducible refine' w_decF ?vv ?_); (case vv => with_reducible assumption)))
/-! ### zip of lists and tuples in any mix (t: a tuple) -/
def SqX (t : Bool) (K : PySem.W.Frag) (H : Hp) (a : Addr) (xs : List V) : Prop := match t with
  | true => SqT K H a xs
  | false => SqL K H a xs
def ItX (t : Bool) (h : Heap) (it l : Addr) (i : Nat) : Prop := match t with
  | true => h.IsTupleIter it l i
  | false => h.IsListIter it l i
def SeqX (t : Bool) (h : Heap) (l : Addr) (xs : Array Value) : Prop := match t with
  | true => h.IsTuple l xs
  | false => h.IsList l xs
theorem drawsX {prog : Program} {w : World} {A : Around} (t : Bool) (hh : A.handled = none) (it l : Addr) (hne : l ≠ it) (items : Array Value) :
    PySem.Draws prog w A it [it, l] items.size (fun i v => items[i]? = some v) (fun i h => ItX t h it l i ∧ SeqX t h l items) := by
  cases t with
  | true => exact PySem.Draws.tuple hh it l hne items
  | false => exact PySem.Draws.list hh it l hne items
def itO (t : Bool) (l : Addr) : Obj := match t with
  | true => { cls := .type "tuple_iterator", data := .fields #[.ref l, .int 0 0] }
  | false => { cls := .type "list_iterator", data := .fields #[.ref l, .int 0 0] }
theorem beginsX (t : Bool) (l : Addr) (items : Array Value) : PySem.Begins (.ref l) (itO t l) fun h => SeqX t h l items := by
  cases t with
  | true => exact PySem.begins_tuple l items
  | false => exact PySem.begins_list l items
theorem itX_new (t : Bool) {h : Heap} {it l : Addr} (e : h.get? it = some (itO t l)) : ItX t h it l 0 := by
  cases t with
  | true => exact ⟨_, e, rfl, rfl⟩
  | false => exact ⟨_, e, rfl, rfl⟩
theorem itX_at (t : Bool) {h h' : Heap} {it l : Addr} {i : Nat} (x : ItX t h it l i) (k : ∀ o, h.get? it = some o → h'.get? it = some o) : ItX t h' it l i := by
  cases t with
  | true => exact PySem.Heap.IsTupleIter.at x k
  | false => exact PySem.Heap.IsListIter.at x k
theorem itX_obj (t : Bool) {h : Heap} {it l : Addr} {i : Nat} (x : ItX t h it l i) : ∃ o, h.get? it = some o ∧ ∀ v, o.data ≠ .cell v := by
  cases t with
  | true => obtain ⟨o, e, _, d⟩ := x; exact ⟨o, e, fun v q => by rw [d] at q; cases q⟩
  | false => obtain ⟨o, e, _, d⟩ := x; exact ⟨o, e, fun v q => by rw [d] at q; cases q⟩
section
variable {X : Cx} {pins : List (Addr × Obj)} {σ : L2.St} {H : Hp} {s : Shared}
theorem inv_seqX (I : Inv X pins σ H s) (t : Bool) {a : Addr} {xs : List V} (h : SqX t X.K H a xs) : ∃ its : List Value, Vals xs its ∧ SeqX t s.heap a its.toArray ∧ a < s.heap.objs.size := by
  cases t with
  | true =>
    obtain ⟨its, rv, p, _⟩ := I.tuple h
    obtain ⟨o, ho, _⟩ := id p
    exact ⟨its, rv, p, Heap.lt_size ho⟩
  | false =>
    obtain ⟨its, rv, p, _⟩ := I.list h
    exact ⟨its, rv, p.isList, p.lt⟩
theorem inv_injX (I : Inv X pins σ H s) (t : Bool) {a : Addr} {xs ys : List V} (h : SqX t X.K H a xs) (g : SqX t X.K H a ys) : xs = ys := by
  cases t with
  | true => exact I.tuple_inj h g
  | false => exact I.list_inj h g
end
def ItzM (t u : Bool) (K : PySem.W.Frag) (a b : Addr) : It :=
  ⟨fun i H => ∃ (xs ys : List V) (x y : V), SqX t K H a xs ∧ SqX u K H b ys ∧ xs[i]? = some x ∧ ys[i]? = some y,
    fun i H v H' => ∃ T x y, v = .ref T ∧ H T = none ∧ H' = upd H T (.tup [x, y]) ∧ (∀ xs, SqX t K H a xs → xs[i]? = some x) ∧ ∀ ys, SqX u K H b ys → ys[i]? = some y,
    fun i H => ∃ xs ys : List V, SqX t K H a xs ∧ SqX u K H b ys ∧ i ≤ xs.length ∧ i ≤ ys.length ∧ (xs.length ≤ i ∨ ys.length ≤ i)⟩
theorem sepX {z TI TO i1 i2 l1 l2 : Addr} (D : ZipApart z TI TO i1 i2 l1 l2) : PySem.ZipSep2 z TI TO i1 i2 [i1, l1] [i2, l2] where
  TIz := D.TIz
  TOz := D.TOz
  TITO := D.TITO
  TIi1 := D.TIi1
  mem1 := by simp
  zf1 := by
    have a := D.i1z
    have b := D.l1z
    simp only [List.mem_cons, List.not_mem_nil, or_false, not_or]
    exact ⟨a.symm, b.symm⟩
  Tf1 := by
    simp only [List.mem_cons, List.not_mem_nil, or_false, not_or]
    exact ⟨D.TOi1, D.l1TO.symm⟩
  TIi2 := D.TIi2
  mem2 := by simp
  zf2 := by
    simp only [List.mem_cons, List.not_mem_nil, or_false, not_or]
    exact ⟨D.i2z.symm, D.l2z.symm⟩
  Tf2 := by
    simp only [List.mem_cons, List.not_mem_nil, or_false, not_or]
    exact ⟨D.TOi2, D.l2TO.symm⟩
  sep1_2 := by
    simp only [List.mem_cons, List.not_mem_nil, or_false, not_or]
    exact ⟨D.i12, D.l2i1.symm⟩
  sep2_1 := by
    simp only [List.mem_cons, List.not_mem_nil, or_false, not_or]
    exact ⟨D.i12.symm, D.l1i2.symm⟩
theorem turn_zipM {P : Program} {w : World} {K : PySem.W.Frag} {elts : List Expr} {kk : Nat} {tpos : Pos} {a b z TI TO i1 i2 : Addr} (t u : Bool) (D : ZipApart z TI TO i1 i2 a b) :
    Turn P w K (.Tuple elts kk tpos) (ItzM t u K a b) [z, TI, TO, i1, i2] z (fun i h => IsZip h z TI TO .none ∧ IsPair h TI (.ref i1) (.ref i2) ∧ (∃ x y, IsPair h TO x y) ∧ ItX t h i1 a i ∧ ItX u h i2 b i) where
  mem := by simp
  obj := fun i h st c hc => by
    obtain ⟨hz, hTI, ⟨x, y, hTO⟩, h1, h2⟩ := st
    have e' : c = z ∨ c = TI ∨ c = TO ∨ c = i1 ∨ c = i2 := by simpa using hc
    rcases e' with q | q | q | q | q
    · rw [q]; exact ⟨_, hz, fun v q => nomatch q⟩
    · rw [q]; exact ⟨_, hTI, fun v q => nomatch q⟩
    · rw [q]; exact ⟨_, hTO, fun v q => nomatch q⟩
    · rw [q]; exact itX_obj t h1
    · rw [q]; exact itX_obj u h2
  keep := fun i h h' st k => by
    obtain ⟨hz, hTI, ⟨x, y, hTO⟩, h1, h2⟩ := st
    exact ⟨k z (by simp) _ hz, k TI (by simp) _ hTI, ⟨x, y, k TO (by simp) _ hTO⟩, itX_at t h1 fun o q => k i1 (by simp) o q, itX_at u h2 fun o q => k i2 (by simp) o q⟩
  item := by
    intro X hP hw hK hc i pins s σ H E I hf st hg
    subst hP hw hK
    obtain ⟨hz, hTI, ⟨x0, y0, hTO⟩, h1, h2⟩ := st
    obtain ⟨xs, ys, x, y, hqx, hqy, hx, hy⟩ := hg
    obtain ⟨its, rv, p, lt1⟩ := inv_seqX I t hqx
    obtain ⟨its2, rv2, p2, lt2⟩ := inv_seqX I u hqy
    obtain ⟨v1, hu, ru⟩ := rv.get hx
    obtain ⟨v2, hu2, ru2⟩ := rv2.get hy
    have hzl : z < s.heap.objs.size := Heap.lt_size hz
    have hh : X.A.in1.handled = none := I.ok.hd hc
    have D1 := drawsX (prog := X.prog) (w := X.w) t hh i1 a D.l1i1 its.toArray
    have D2 := drawsX (prog := X.prog) (w := X.w) u hh i2 b D.l2i2 its2.toArray
    have n1 : i < its.toArray.size := by rw [List.size_toArray]; exact (List.getElem?_eq_some_iff.mp hu).1
    have n2 : i < its2.toArray.size := by rw [List.size_toArray]; exact (List.getElem?_eq_some_iff.mp hu2).1
    refine PySem.wpAny_pyNext_zipD2_item (sepX D) D1 D2 hz hTI hTO ⟨h1, p⟩ ⟨h2, p2⟩ n1 n2 fun w1 w2 h' tk g1 g2 z' TO' h1' h2' hT hsz hk => ?_
    have e1 : w1 = v1 := by
      have := g1.symm.trans (by simpa using hu : its.toArray[i]? = some v1)
      exact Option.some.inj this
    have e2 : w2 = v2 := by
      have := g2.symm.trans (by simpa using hu2 : its2.toArray[i]? = some v2)
      exact Option.some.inj this
    subst e1 e2
    refine ⟨_, rfl, wpAny_letOwnedTupleGo_zip (s := { s with heap := h', toks := tk }) z' fun h'' z'' sb => ?_⟩
    have hT2 : h''.get? s.heap.objs.size = some { cls := .type "tuple", data := .seq #[w1, w2] } := (sb.2 _ (Nat.ne_of_gt hzl)).trans hT
    have new : ObjOk X.prog X.w (upd H s.heap.objs.size (.tup [x, y])) h'' s.heap.objs.size (.tup [x, y]) :=
      ⟨by show 2 ≤ sizeLine; decide, [w1, w2], .cons ru (.cons ru2 .nil), ⟨_, hT2, rfl, _, rfl⟩⟩
    have I1 : Inv X pins σ (upd H s.heap.objs.size (.tup [x, y])) { s with heap := h'', toks := tk } :=
      I.turnedNew (t' := tk) (ch := [z, TI, TO, i1, i2]) (fun c o hb q => (sb.2 c (fun q' => hb (by simp [q']))).trans (hk c o (fun q' => hb (by simp [q'])) (fun q' => hb (by simp [q'])) (fun q' => hb (by simp [q'])) (fun q' => hb (by simp [q'])) q)) hf (Nat.le_refl _) new
    refine ⟨.ref s.heap.objs.size, _, I1, rfl, ⟨_, x, y, rfl, I.hok.fresh (Nat.le_refl _), rfl, fun l hl => by rw [inv_injX I t hl hqx]; exact hx, fun l hl => by rw [inv_injX I u hl hqy]; exact hy⟩, ⟨z'', ?_, ⟨w1, w2, ?_⟩, ?_, ?_⟩, fun c hcm => ?_⟩
    · exact (sb.2 _ D.TIz).trans (hk _ _ D.TIz D.TITO D.TIi1 D.TIi2 hTI)
    · exact (sb.2 _ D.TOz).trans TO'
    · exact itX_at t h1'.1 fun o q => (sb.2 _ D.i1z).trans q
    · exact itX_at u h2'.1 fun o q => (sb.2 _ D.i2z).trans q
    · have hlt : c < s.heap.objs.size := by
        have e' : c = z ∨ c = TI ∨ c = TO ∨ c = i1 ∨ c = i2 := by simpa using hcm
        rcases e' with q | q | q | q | q
        · rw [q]; exact hzl
        · rw [q]; exact Heap.lt_size hTI
        · rw [q]; exact Heap.lt_size hTO
        · rw [q]; obtain ⟨_, e1, _⟩ := itX_obj t h1; exact Heap.lt_size e1
        · rw [q]; obtain ⟨_, e2, _⟩ := itX_obj u h2; exact Heap.lt_size e2
      rw [upd_ne (Nat.ne_of_lt hlt)]
      exact (hf c hcm).1
  done := by
    intro X hP hw hK hc i pins s σ H E I hf st hg
    subst hP hw hK
    obtain ⟨hz, hTI, ⟨x0, y0, hTO⟩, h1, h2⟩ := st
    obtain ⟨xs, ys, hqx, hqy, le1, le2, hend⟩ := hg
    obtain ⟨its, rv, p, lt1⟩ := inv_seqX I t hqx
    obtain ⟨its2, rv2, p2, lt2⟩ := inv_seqX I u hqy
    have l1 := rv.length
    have l2 := rv2.length
    have hh : X.A.in1.handled = none := I.ok.hd hc
    have D1 := drawsX (prog := X.prog) (w := X.w) t hh i1 a D.l1i1 its.toArray
    have D2 := drawsX (prog := X.prog) (w := X.w) u hh i2 b D.l2i2 its2.toArray
    refine PySem.wpAny_pyNext_zipD2_end (sepX D) D1 D2 hz hTI hTO ⟨h1, p⟩ ⟨h2, p2⟩ (by rw [List.size_toArray]; omega) (by rw [List.size_toArray]; omega) (by rw [List.size_toArray, List.size_toArray]; omega) fun h' tk hk => ⟨rfl, I.turnedL (t' := tk) (ch := [z, TI, TO, i1, i2]) (fun c o hb q =>
      hk c o (fun q' => hb (by simp [q'])) (fun q' => hb (by simp [q'])) (fun q' => hb (by simp [q'])) (fun q' => hb (by simp [q'])) q) hf⟩
  self := fun A i s Q E st h => wpAny_pyIter_zip st.1 h
def iZipM (t u : Bool) (K : PySem.W.Frag) (ta : TA) : TI := fun σ H R => ta σ H fun vs H1 => ∃ a b xs ys, vs = [.ref a, .ref b] ∧ SqX t K H1 a xs ∧ SqX u K H1 b ys ∧ R (ItzM t u K a b) H1
theorem pi_zipM {X : Cx} {K : PySem.W.Frag} {e e2 : Expr} {ta : TA} {p pos tpos : Pos} {elts : List Expr} {kk : Nat} (t u : Bool) (hK : X.K = K) (hg : Gl X "zip") (hm : X.mg "zip" = none) (ha : PA X [e, e2] ta)
    (hs : starEach [e, e2] X.env = (false, eval e X.env) :: starEach [e2] X.env := by rfl) (hpl : (backTo pos (starEach [e2] X.env)).any (·.1) = false := by rfl) :
    PI X (.Tuple elts kk tpos) (.Call (.Name "zip" p) [e, e2] [] pos) (iZipM t u K ta) := by
  subst hK
  refine ⟨fun pins s σ H R I h => ?_⟩
  refine Call_ (ld_blt I hg hm PyProof.Rows.boot_zip (PyProof.Rows.callWith_type1 (thn (ha.run pos pins s σ H _ I h) fun us s1 ⟨vs, H1, I1, r1, q1⟩ => ?_) hs hpl))
  obtain ⟨a, b, xs, ys, ex, hqx, hqy, q⟩ := q1
  subst ex
  cases r1 with
  | cons r rr =>
    cases rr with
    | cons r' rr =>
      cases rr
      cases r
      cases r'
      have fresh5 : ∀ c, c ∈ [s1.heap.objs.size + 4, s1.heap.objs.size + 2, s1.heap.objs.size + 3, s1.heap.objs.size, s1.heap.objs.size + 1] → FpOk X pins H1 c := fun c hcm => by
        have e' : c = s1.heap.objs.size + 4 ∨ c = s1.heap.objs.size + 2 ∨ c = s1.heap.objs.size + 3 ∨ c = s1.heap.objs.size ∨ c = s1.heap.objs.size + 1 := by simpa using hcm
        have hle : s1.heap.objs.size ≤ c := by
          rcases e' with z | z | z | z | z
          · rw [z]; exact Nat.le_add_right _ _
          · rw [z]; exact Nat.le_add_right _ _
          · rw [z]; exact Nat.le_add_right _ _
          · rw [z]; exact Nat.le_refl _
          · rw [z]; exact Nat.le_add_right _ _
        exact I1.fpOk hle (I1.hok.fresh hle)
      obtain ⟨its, rv, p1, lt1⟩ := inv_seqX I1 t hqx
      obtain ⟨its2, rv2, p2, lt2⟩ := inv_seqX I1 u hqy
      refine PySem.zip_begins2 (beginsX t a its.toArray) (beginsX u b its2.toArray) p1 p2 fun h' hz hTI hTO h1 h2 hsz hk => wpAny_pyIter_zip hz ?_
      have I2 : Inv X pins σ H1 { s1 with heap := h' } := I1.kept (t' := s1.toks) hk
      exact ⟨s1.heap.objs.size + 4, [s1.heap.objs.size + 4, s1.heap.objs.size + 2, s1.heap.objs.size + 3, s1.heap.objs.size, s1.heap.objs.size + 1], _, _, H1, rfl, I2, turn_zipM t u (PySem.W.ktu_apart s1.heap.objs.size a b lt1 lt2), ⟨hz, hTI, ⟨_, _, hTO⟩, itX_new t h1, itX_new u h2⟩, fresh5, q⟩
section
variable {K : PySem.W.Frag} {σ : L2.St} {H : Hp} {a b : Addr} {xs ys : List V} {g : TG} {tb : L2.TS} {nx : L2.St → Hp → Prop} {rt : VK} {bk ct : L2.St → Hp → Prop} {ta : TA} {t u : Bool}
theorem w_forM (k : ta σ H fun vs H1 => ∃ a b xs ys, vs = [.ref a, .ref b] ∧ SqX t K H1 a xs ∧ SqX u K H1 b ys ∧ WFor (ItzM t u K a b) g tb nx rt σ H1) : tFor (iZipM t u K ta) g tb ⟨nx, rt, bk, ct⟩ σ H := k
theorem walk_zipM {n : Nat} (hn : n = min xs.length ys.length) : Walk (ItzM t u K a b) n (fun H => SqX t K H a xs ∧ SqX u K H b ys) (YPair (fun i => xs[i]?) (fun i => ys[i]?)) := by
  subst hn
  refine ⟨fun i _ hi q => ?_, fun _ q => ⟨xs, ys, q.1, q.2, by omega⟩, fun i H v H' _ q y => ?_⟩
  · have h1 : i < xs.length := by omega
    have h2 : i < ys.length := by omega
    exact ⟨xs, ys, xs[i], ys[i], q.1, q.2, by simp [h1], by simp [h2]⟩
  · obtain ⟨T, x, z, h1, h2, h3, h4, h5⟩ := y
    exact ⟨T, x, z, h1, h2, h3, h4 xs q.1, h5 ys q.2⟩
theorem fl_zipM (Pv : Nat → L2.St → Hp → Prop) (hx : SqX t K H a xs) (hy : SqX u K H b ys) (h0 : Pv 0 σ H) (hG : ∀ i σ H, i ≤ min xs.length ys.length → Pv i σ H → SqX t K H a xs ∧ SqX u K H b ys)
    (hs : ∀ i x y T σ H H', xs[i]? = some x → ys[i]? = some y → Pv i σ H → H T = none → Same H H' → H' T = some (.tup [x, y]) → g (.ref T) σ H' fun σ2 H2 => tb ⟨Pv (i + 1), rt, nx, Pv (i + 1)⟩ σ2 H2) (hd : ∀ σ H, Pv (min xs.length ys.length) σ H → nx σ H) :
    ∃ p q us ws, [V.ref a, .ref b] = [.ref p, .ref q] ∧ SqX t K H p us ∧ SqX u K H q ws ∧ WFor (ItzM t u K p q) g tb nx rt σ H :=
  ⟨a, b, xs, ys, rfl, hx, hy, wfor_it (walk_zipM rfl) Pv h0 hG (fun i v σ H H' hi p ⟨T, x, y, e, nT, e2, h1, h2⟩ => by subst e e2; exact hs i x y T σ H _ h1 h2 p nT (Same.one nT) upd_same) hd⟩
end

end J
namespace J
open PySem PySem.Spec PyProof.Rows L2
local macro_rules | `(tactic| walk_at "cls") => `(tactic| first
  | with_reducible exact Facts.cl_Parts)
local macro_rules | `(tactic| walk_at "na") => `(tactic| first
  | with_reducible exact Facts.na_Parts_rows)
local macro_rules | `(tactic| walk_at "ty") => `(tactic| first
  | with_reducible exact ty_int
  | with_reducible exact ty_bl
  | with_reducible exact ty_str
  | with_reducible exact ty_non
  | ((with_reducible refine' ty_lst ?vv); (case vv => walk_at "tr"))
  | ((with_reducible refine' ty_sqT ?vv); (case vv => walk_at "tr"))
  | ((with_reducible refine' ty_dic ?vv); (case vv => walk_at "tr")))
local macro_rules | `(tactic| walk_at "ix") => `(tactic| first | exact at0 | exact at1 | exact at2 | assumption)
local macro_rules | `(tactic| walk_at "size") => `(tactic| first
  | assumption
  | (show _ < sizeLine; rw [sizeLine_eq]; (try simp only [List.length_cons, List.length_nil, List.length_append, List.length_map]); omega)
  | (show _ ≤ sizeLine; rw [sizeLine_eq]; (try simp only [List.length_cons, List.length_nil, List.length_append, List.length_map]); omega))
local macro_rules | `(tactic| walk_at "side") => `(tactic| first
  | assumption
  | ((with_reducible refine cdw ?_ ?_) <;> omega)
  | omega
  | (exact ⟨by omega, by omega⟩)
  | (exact Or.inl ⟨by omega, by omega⟩)
  | (exact Or.inr ⟨by omega, by omega⟩)
  | decide
  | (simp only [List.length_cons, List.length_nil, List.length_append, List.length_map]; omega)
  | (show _ ≤ _; decide))
local macro_rules | `(tactic| walk_at "as") => `(tactic| with_reducible assumption)
local macro_rules | `(tactic| walk_at "tr") => `(tactic| first
  | with_reducible assumption
  | with_reducible exact upd_same
  | ((with_reducible refine' SqL.of ?hh); (case hh => walk_at "as"))
  | ((with_reducible refine' SqT.of ?hh); (case hh => walk_at "as"))
  | ((with_reducible refine' Same.stm ?ee ?gg); (case ee => walk_at "as"); (case gg => walk_at "tr"))
  | ((with_reducible refine' Same.sqT ?ee ?gg); (case ee => walk_at "as"); (case gg => walk_at "tr"))
  | ((with_reducible refine' Same.sqL ?ee ?gg); (case ee => walk_at "as"); (case gg => walk_at "tr"))
  | ((with_reducible refine' Same.at ?ee ?gg); (case ee => walk_at "as"); (case gg => walk_at "tr"))
  | ((with_reducible refine' But.stm ?ee ?ff ?gg); (case ee => walk_at "as"); (case ff => walk_at "ne"); (case gg => walk_at "tr"))
  | ((with_reducible refine' But.tup ?ee ?ff ?gg); (case ee => walk_at "as"); (case ff => walk_at "tr1"); (case gg => walk_at "tr"))
  | ((with_reducible refine' But.sqT ?ee ?ff ?gg); (case ee => walk_at "as"); (case ff => walk_at "tr1"); (case gg => walk_at "tr"))
  | ((with_reducible refine' But.tupL ?ee ?ff ?gg); (case ee => walk_at "as"); (case ff => walk_at "tr1"); (case gg => walk_at "tr"))
  | ((with_reducible refine' But.sqTL ?ee ?ff ?gg); (case ee => walk_at "as"); (case ff => walk_at "tr1"); (case gg => walk_at "tr"))
  | ((with_reducible refine' But.sqL ?ee ?ff ?gg); (case ee => walk_at "as"); (case ff => walk_at "ne"); (case gg => walk_at "tr"))
  | ((with_reducible refine' But.at ?ee ?ff ?gg); (case ee => walk_at "as"); (case ff => walk_at "ne"); (case gg => walk_at "tr")))
local macro_rules | `(tactic| walk_at "ts") => `(tactic| first
  | with_reducible assumption
  | with_reducible exact TS.refl _
  | ((with_reducible refine' TS.trans ?gg (TS.of ?ee)); (case ee => walk_at "as"); (case gg => walk_at "ts"))
  | ((with_reducible refine' TS.trans ?gg (TS.butS ?ee ?ff)); (case ee => walk_at "as"); (case ff => walk_at "tr1"); (case gg => walk_at "ts"))
  | ((with_reducible refine' TS.trans ?gg (TS.butL ?ee ?ff)); (case ee => walk_at "as"); (case ff => walk_at "tr1"); (case gg => walk_at "ts"))
  | ((with_reducible refine' TS.trans ?gg (TS.butI ?ee ?ff)); (case ee => walk_at "as"); (case ff => walk_at "tr1"); (case gg => walk_at "ts")))
local macro_rules | `(tactic| walk_at "sm") => `(tactic| first
  | with_reducible assumption
  | with_reducible exact Same.refl _
  | ((with_reducible refine' Same.trans ?gg ?ee); (case ee => walk_at "as"); (case gg => walk_at "sm"))
  | ((with_reducible refine' But.new ?gg ?nn ?ee); (case ee => walk_at "as"); (case nn => walk_at "fr"); (case gg => walk_at "sm")))
local macro_rules | `(tactic| walk_at "fr") => `(tactic| first
  | with_reducible assumption
  | ((with_reducible refine' Same.back ?ee ?nn); (case nn => walk_at "as"); (case ee => walk_at "sm"))
  | ((with_reducible refine' But.back ?ee ?ff ?nn); (case nn => walk_at "as"); (case ff => walk_at "ne0"); (case ee => walk_at "bu")))
local macro_rules | `(tactic| walk_at "bu") => `(tactic| first
  | with_reducible assumption
  | with_reducible exact But.refl _ _
  | ((with_reducible refine' But.trans ?gg ?ee); (case ee => walk_at "as"); (case gg => walk_at "bu"))
  | ((with_reducible refine' But.trans ?gg (But.of ?ee)); (case ee => walk_at "as"); (case gg => walk_at "bu"))
  | ((with_reducible refine' But.new2 ?gg ?nn ?ee); (case ee => walk_at "as"); (case nn => walk_at "frB"); (case gg => walk_at "bu")))
local macro_rules | `(tactic| walk_at "frB") => `(tactic| first
  | with_reducible assumption
  | ((with_reducible refine' Same.back ?ee ?nn); (case nn => walk_at "as"); (case ee => walk_at "sm"))
  | ((with_reducible refine' But.back' ?ee ?ff ?nn); (case nn => walk_at "as"); (case ee => walk_at "bu"); (case ff => walk_at "tr1")))
local macro_rules | `(tactic| walk_at "tr1") => `(tactic| first
  | with_reducible assumption
  | ((with_reducible refine' Same.stm ?ee ?gg); (case ee => walk_at "as"); (case gg => walk_at "tr1"))
  | ((with_reducible refine' Same.at ?ee ?gg); (case ee => walk_at "as"); (case gg => walk_at "tr1"))
  | ((with_reducible refine' But.at ?ee ?ff ?gg); (case ee => walk_at "as"); (case ff => walk_at "ne0"); (case gg => walk_at "tr1"))
  | ((with_reducible refine' But.stm ?ee ?ff ?gg); (case ee => walk_at "as"); (case ff => walk_at "ne0"); (case gg => walk_at "tr1")))
local macro_rules | `(tactic| walk_at "ne0") => `(tactic| first
  | with_reducible assumption
  | (with_reducible apply Ne.symm; with_reducible assumption))
local macro_rules | `(tactic| walk_at "ne") => `(tactic| first
  | with_reducible assumption
  | (with_reducible apply Ne.symm; with_reducible assumption)
  | ((with_reducible refine' stm_ne ?hh ?nn); (case nn => walk_at "as"); (case hh => walk_at "tr1"))
  | ((with_reducible refine' ne_of_none ?hh ?nn); (case nn => walk_at "as"); (case hh => walk_at "tr1"))
  | ((with_reducible apply Ne.symm); (with_reducible refine' ne_of_none ?hh ?nn); (case nn => walk_at "as"); (case hh => walk_at "tr1")))
local macro_rules | `(tactic| walk_at "v") => `(tactic| first
  | with_reducible refine w_seq ?_
  | ((with_reducible refine' w_var ?vv ?_); (case vv => exact rfl))
  | with_reducible refine w_c ?_
  | with_reducible refine w_op ?_
  | with_reducible refine w_asg ?_
  | with_reducible refine w_gName ?_
  | with_reducible refine w_ret ?_
  | with_reducible refine w_ifS ?_
  | with_reducible refine w_drop ?_
  | with_reducible refine w_next ?_
  | with_reducible refine w_cons ?_
  | with_reducible refine w_nil ?_
  | with_reducible refine w_call ?_
  | with_reducible refine w_cb ?_
  | with_reducible refine w_rI0 ?_
  | with_reducible refine w_addI ?_
  | with_reducible refine w_eqI ?_
  | with_reducible refine w_neI ?_
  | with_reducible refine w_eqS ?_
  | with_reducible refine w_neS ?_
  | with_reducible refine w_eqB ?_
  | with_reducible refine w_neB ?_
  | with_reducible refine w_chain ?_
  | with_reducible refine w_test ?_
  | with_reducible refine w_tB ?_
  | with_reducible refine w_bl ?_
  | ((with_reducible refine' w_mulI ?vv ?_); (case vv => walk_at "side"))
  | ((with_reducible refine' w_rI ?vv ?_); (case vv => walk_at "side"))
  | with_reducible refine w_int1 ?_
  | with_reducible refine w_int1b ?_
  | with_reducible refine w_tup ?_
  | with_reducible refine w_lst ?_
  | with_reducible refine w_un ?_
  | with_reducible refine w_rU ?_
  | with_reducible refine w_not ?_
  | with_reducible refine w_notV ?_
  | with_reducible refine w_ifE ?_
  | with_reducible refine w_nT ?_
  | with_reducible refine w_nF ?_
  | with_reducible refine iteT ?_
  | with_reducible refine iteF ?_
  | ((with_reducible refine' w_ixT ?vv ?ww ?_); (case vv => walk_at "tr"); (case ww => walk_at "ix"))
  | ((with_reducible refine' w_ixL ?vv ?ww ?_); (case vv => walk_at "tr"); (case ww => walk_at "ix"))
  | with_reducible refine w_gSub ?_
  | ((with_reducible refine' w_setL ?vv ?ww ?_); (case vv => walk_at "tr"); (case ww => first | rfl | decide | assumption))
  | ((with_reducible refine' w_lenL ?vv ?_); (case vv => walk_at "tr"))
  | ((with_reducible refine' w_lenT ?vv ?_); (case vv => walk_at "tr"))
  | with_reducible refine w_max2 ?_
  | with_reducible refine w_max3 ?_
  | with_reducible refine w_din ?_
  | with_reducible refine w_dnotin ?_
  | with_reducible refine w_dput ?_
  | with_reducible refine w_min2 ?_
  | with_reducible refine w_bm ?_
  | with_reducible refine w_bm0 ?_
  | ((with_reducible refine' w_tyL ?vv ?_); (case vv => walk_at "tr"))
  | ((with_reducible refine' w_append ?vv ?ww ?_); (case vv => walk_at "tr"); (case ww => walk_at "size"))
  | ((with_reducible refine' w_size ?vv ?_); (case vv => walk_at "size"))
  | with_reducible refine w_forL ?_
  | with_reducible refine w_forT ?_
  | with_reducible refine w_forR1 ?_
  | with_reducible refine w_forR2 ?_
  | with_reducible refine w_lcL ?_
  | with_reducible refine w_lcT ?_
  | with_reducible refine w_lcR1 ?_
  | with_reducible refine w_yes ?_
  | with_reducible refine w_sl ?_
  | with_reducible refine w_noPart ?_
  | with_reducible refine w_part ?_
  | with_reducible refine w_int ?_
  | ((with_reducible refine' w_slL ?vv ?_); (case vv => walk_at "tr"))
  | ((with_reducible refine' w_seqL ?vv ?ww ?_); (case vv => walk_at "tr"); (case ww => rfl))
  | ((with_reducible refine' w_seqT ?vv ?ww ?_); (case vv => walk_at "tr"); (case ww => rfl))
  | with_reducible refine w_gNil ?_
  | with_reducible refine w_gCons ?_
  | with_reducible refine w_forZ ?_
  | with_reducible refine w_forM ?_
  | with_reducible refine w_forE ?_
  | with_reducible refine w_forV ?_
  | with_reducible refine w_lcZ ?_
  | with_reducible refine w_lcE ?_
  | ((with_reducible refine' w_isi (b := true) ?vv ?ww ?_); (case vv => walk_at "ty"); (case ww => decide +kernel))
  | ((with_reducible refine' w_isi (b := false) ?vv ?ww ?_); (case vv => walk_at "ty"); (case ww => decide +kernel))
  | with_reducible refine w_revL ?_
  | with_reducible refine w_pairN ?_
  | with_reducible refine w_pairC ?_
  | with_reducible refine w_dget ?_
  | with_reducible refine w_met ?_
  | ((with_reducible refine' w_metAt ?vv ?ww ?_); (case vv => walk_at "tr"); (case ww => rfl))
  | with_reducible refine w_mkI ?_
  | with_reducible refine w_fld ?_
  | ((with_reducible refine' w_fldAt ?vv ?cc ?nn ?ww ?_); (case vv => walk_at "tr"); (case cc => walk_at "cls"); (case nn => walk_at "na"); (case ww => rfl))
  | with_reducible refine w_sfld ?_
  | ((with_reducible refine' w_sfldAt ?vv ?cc ?nn ?ll ?ee ?_); (case vv => walk_at "tr"); (case cc => walk_at "cls"); (case nn => walk_at "na"); (case ll => simp); (case ee => rfl))
  | ((with_reducible refine' w_tupL ?vv ?_); (case vv => walk_at "tr"))
  | ((with_reducible refine' w_tupT ?vv ?_); (case vv => walk_at "tr"))
  | ((with_reducible refine' w_listL ?vv ?_); (case vv => walk_at "tr"))
  | ((with_reducible refine' w_listT ?vv ?_); (case vv => walk_at "tr"))
  | with_reducible refine w_tyS ?_
  | with_reducible refine w_retN ?_
  | with_reducible refine w_break ?_
  | with_reducible refine w_cont ?_)
local macro_rules | `(tactic| walk_at "w") => `(tactic| first
  | walk_at "v"
  | with_reducible refine w_or ?_
  | with_reducible refine w_and ?_
  | with_reducible refine w_andV ?_
  | with_reducible refine w_orV ?_)
local macro_rules | `(tactic| walk_at "wd") => `(tactic| first
  | walk_at "w"
  | ((with_reducible refine' w_decT ?vv ?_); (case vv => decide +kernel))
  | ((with_reducible refine' w_decF ?vv ?_); (case vv => decide +kernel)))
local macro_rules | `(tactic| walk_at "tz") => `(tactic| (intro S z; (repeat walk_at "w"); exact z))
local macro_rules | `(tactic| walk_at "wf") => `(tactic| first
  | walk_at "wd"
  | ((with_reducible refine' w_decF ?vv ?_); (case vv => with_reducible assumption)))
/-! ### expressions, sets, parts: plain -/
def selD (k : Str) (n : Int) : PyData := .tuple [.str k, .int n]
inductive Exp where
  | num (n : Int)
  | fld (n : Int)
  | plc (k : Str) (n : Int)
  | mrk (k : Str) (n : Int)
  | cell (a : Exp)
  | two (o : Str) (a b : Exp)
def Exp.d : Exp → PyData
  | .num n => .tuple [.str "number", .int n]
  | .fld n => .tuple [.str "field", .int n]
  | .plc k n => .tuple [.str "place", selD k n]
  | .mrk k n => .tuple [.str "mark", selD k n]
  | .cell a => .tuple [.str "cell", a.d]
  | .two o a b => .tuple [.str o, a.d, b.d]
def Exp.dep : Exp → Nat
  | .cell a => a.dep + 1
  | .two _ a b => max a.dep b.dep + 1
  | _ => 1
def OpS (o : Str) : Prop := o = "+" ∨ o = "-" ∨ o = "&" ∨ o = "|" ∨ o = "^" ∨ o = "<<" ∨ o = ">>" ∨ o = "<" ∨ o = "="
def SelS (k : Str) : Prop := k = "is" ∨ k = "by"
theorem OpS.ok {o : Str} (h : OpS o) : PyData.strOk o = true := by
  rcases h with rfl | rfl | rfl | rfl | rfl | rfl | rfl | rfl | rfl <;> decide +kernel
theorem SelS.ok {o : Str} (h : SelS o) : PyData.strOk o = true := by
  rcases h with rfl | rfl <;> decide +kernel
theorem OpS.ne {o : Str} (h : OpS o) : o ≠ "number" ∧ o ≠ "field" ∧ o ≠ "place" ∧ o ≠ "mark" ∧ o ≠ "cell" := by
  rcases h with rfl | rfl | rfl | rfl | rfl | rfl | rfl | rfl | rfl <;> decide +kernel
def Exp.good : Exp → Prop
  | .plc k _ => SelS k
  | .mrk k _ => SelS k
  | .cell a => a.good
  | .two o a b => OpS o ∧ a.good ∧ b.good
  | _ => True
def OkE (n : Nat) (e : Exp) : Prop := e.dep ≤ n ∧ e.good
theorem OkE.mono {m n : Nat} {e : Exp} (h : OkE m e) (l : m ≤ n) : OkE n e := ⟨Nat.le_trans h.1 l, h.2⟩
theorem Exp.dep_pos : ∀ e : Exp, 1 ≤ e.dep
  | .num _ | .fld _ | .plc _ _ | .mrk _ _ => Nat.le_refl 1
  | .cell _ | .two _ _ _ => Nat.succ_le_succ (Nat.zero_le _)
theorem okE_0 {e : Exp} (h : OkE 0 e) : False := by have := e.dep_pos; have := h.1; omega
theorem okE_cell {n : Nat} {a : Exp} (h : OkE (n + 1) (.cell a)) : OkE n a := ⟨Nat.le_of_succ_le_succ h.1, h.2⟩
theorem okE_two {n : Nat} {o : Str} {a b : Exp} (h : OkE (n + 1) (.two o a b)) : OpS o ∧ OkE n a ∧ OkE n b := by
  obtain ⟨h1, h2, h3, h4⟩ := h
  have h5 : max a.dep b.dep ≤ n := Nat.le_of_succ_le_succ h1
  exact ⟨h2, ⟨by omega, h3⟩, by omega, h4⟩
theorem tupD_sel (k : Str) (n : Int) : tupD (selD k n) = true := by simp [selD, tupD, tupAll]
theorem Exp.tup : ∀ e : Exp, tupD e.d = true
  | .num _ => by simp [Exp.d, tupD, tupAll]
  | .fld _ => by simp [Exp.d, tupD, tupAll]
  | .plc _ _ => by simp [Exp.d, tupD, tupAll, tupD_sel]
  | .mrk _ _ => by simp [Exp.d, tupD, tupAll, tupD_sel]
  | .cell a => by simp [Exp.d, tupD, tupAll, Exp.tup a]
  | .two _ a b => by simp [Exp.d, tupD, tupAll, Exp.tup a, Exp.tup b]
theorem Exp.cln : ∀ {e : Exp}, e.good → clean e.d = true
  | .num _, _ => by
    simp only [Exp.d, clean, cleanAll]
    decide +kernel
  | .fld _, _ => by
    simp only [Exp.d, clean, cleanAll]
    decide +kernel
  | .plc _ _, h => by
    have := SelS.ok h
    simp only [Exp.d, selD, clean, cleanAll, this]
    decide +kernel
  | .mrk _ _, h => by
    have := SelS.ok h
    simp only [Exp.d, selD, clean, cleanAll, this]
    decide +kernel
  | .cell a, h => by
    have := Exp.cln (e := a) h
    simp only [Exp.d, clean, cleanAll, this]
    decide +kernel
  | .two _ a b, h => by
    have := Exp.cln (e := a) h.2.1
    have := Exp.cln (e := b) h.2.2
    have := h.1.ok
    simp only [Exp.d, clean, cleanAll, *]
    decide +kernel
theorem Exp.depth : ∀ e : Exp, e.d.depth ≤ e.dep + 1
  | .num _ | .fld _ | .plc _ _ | .mrk _ _ => by simp [Exp.d, selD, PyData.depth, PyData.depthAll, Exp.dep]
  | .cell a => by
    have := Exp.depth a
    simp only [Exp.d, PyData.depth, PyData.depthAll, Exp.dep]
    omega
  | .two _ a b => by
    have := Exp.depth a
    have := Exp.depth b
    simp only [Exp.d, PyData.depth, PyData.depthAll, Exp.dep]
    omega
/-- sets -/
inductive SetE where
  | cell (a b : Exp)
  | sel (m : Bool) (k : Str) (n : Int) (e : Exp)
def SetE.d : SetE → PyData
  | .cell a b => .tuple [.str "cell", a.d, b.d]
  | .sel m k n e => .tuple [.str (if m then "mark" else "place"), selD k n, e.d]
def OkS (n : Nat) : SetE → Prop
  | .cell a b => OkE n a ∧ OkE n b
  | .sel _ k _ e => SelS k ∧ OkE n e
theorem SetE.tup : ∀ s : SetE, tupD s.d = true
  | .cell a b => by simp [SetE.d, tupD, tupAll, a.tup, b.tup]
  | .sel _ _ _ e => by simp [SetE.d, tupD, tupAll, e.tup, tupD_sel]
theorem OkE.cln' {n : Nat} {e : Exp} (h : OkE n e) : clean e.d = true := Exp.cln h.2
theorem SetE.cln {n : Nat} : ∀ {s : SetE}, OkS n s → clean s.d = true
  | .cell a b, h => by
    have := h.1.cln'
    have := h.2.cln'
    simp only [SetE.d, clean, cleanAll, *]
    decide +kernel
  | .sel m k _ e, h => by
    have := h.1.ok
    have := h.2.cln'
    cases m <;> simp only [SetE.d, selD, clean, cleanAll, *] <;> decide +kernel
theorem SetE.depth {n : Nat} : ∀ {s : SetE}, OkS n s → s.d.depth ≤ n + 2
  | .cell a b, h => by
    have := a.depth
    have := b.depth
    have := h.1.1
    have := h.2.1
    simp only [SetE.d, PyData.depth, PyData.depthAll]
    omega
  | .sel m k _ e, h => by
    have := e.depth
    have := h.2.1
    simp only [SetE.d, selD, PyData.depth, PyData.depthAll]
    omega
theorem sets_cmp : ∀ {ss : List SetE}, (∀ s ∈ ss, OkS 4 s) → cleanAll (ss.map SetE.d) = true ∧ PyData.depthAll (ss.map SetE.d) ≤ 6
  | [], _ => by simp [cleanAll, PyData.depthAll]
  | s :: ss, h => by
    obtain ⟨a, b⟩ := sets_cmp (ss := ss) (fun x hx => h x (List.mem_cons_of_mem _ hx))
    have c := h s List.mem_cons_self
    have d := SetE.cln c
    have e := SetE.depth c
    rw [List.map_cons, cleanAll, PyData.depthAll, d, a]
    exact ⟨rfl, by omega⟩
theorem cmpL {ss : List SetE} (h : ∀ s ∈ ss, OkS 4 s) : Cmp (.list (ss.map SetE.d)) := by
  obtain ⟨a, b⟩ := sets_cmp h
  refine ⟨by rw [clean]; exact a, ?_⟩
  rw [PyData.depth]
  omega
def setsD (ss : List SetE) : PyData := .tuple (ss.map SetE.d)
theorem setsD_tup : ∀ ss : List SetE, tupAll (ss.map SetE.d) = true
  | [] => rfl
  | s :: ss => by rw [List.map_cons, tupAll, s.tup, setsD_tup ss]; rfl
/-! rows of items -/
inductive Item : PyData → Prop
  | int (n : Int) : Item (.int n)
  | str {s : Str} (h : PyData.strOk s = true) : Item (.str s)
  | pair {s : Str} (h : PyData.strOk s = true) (n : Int) : Item (.tuple [.str s, .int n])
def Row (d : PyData) : Prop := ∃ xs, d = .tuple xs ∧ ∀ x ∈ xs, Item x
def Rows (ds : List PyData) : Prop := ∀ d ∈ ds, Row d
theorem Item.tup {d : PyData} (h : Item d) : tupD d = true := by cases h <;> simp [tupD, tupAll]
theorem Item.cln {d : PyData} (h : Item d) : clean d = true := by
  cases h with
  | int => simp [clean]
  | str h => rw [clean]; exact h
  | pair h => rw [clean, cleanAll, cleanAll, cleanAll, clean, clean, h]; rfl
theorem Item.dep {d : PyData} (h : Item d) : d.depth ≤ 1 := by
  cases h <;> simp [PyData.depth, PyData.depthAll]
theorem items_all : ∀ {xs : List PyData}, (∀ x ∈ xs, Item x) → tupAll xs = true ∧ cleanAll xs = true ∧ PyData.depthAll xs ≤ 1
  | [], _ => by simp [tupAll, cleanAll, PyData.depthAll]
  | x :: xs, h => by
    obtain ⟨a, b, c⟩ := items_all (xs := xs) (fun y hy => h y (List.mem_cons_of_mem _ hy))
    have i := h x List.mem_cons_self
    refine ⟨by rw [tupAll, i.tup, a]; rfl, by rw [cleanAll, i.cln, b]; rfl, ?_⟩
    rw [PyData.depthAll]
    have := i.dep
    omega
theorem Row.all {d : PyData} (h : Row d) : tupD d = true ∧ clean d = true ∧ d.depth ≤ 2 := by
  obtain ⟨xs, rfl, h⟩ := h
  obtain ⟨a, b, c⟩ := items_all h
  refine ⟨by rw [tupD]; exact a, by rw [clean]; exact b, ?_⟩
  rw [PyData.depth]
  omega
theorem rows_all : ∀ {ds : List PyData}, Rows ds → tupAll ds = true ∧ cleanAll ds = true ∧ PyData.depthAll ds ≤ 2
  | [], _ => by simp [tupAll, cleanAll, PyData.depthAll]
  | x :: xs, h => by
    obtain ⟨a, b, c⟩ := rows_all (ds := xs) (fun y hy => h y (List.mem_cons_of_mem _ hy))
    have i := (h x List.mem_cons_self).all
    refine ⟨by rw [tupAll, i.1, a]; rfl, by rw [cleanAll, i.2.1, b]; rfl, ?_⟩
    rw [PyData.depthAll]
    omega
theorem Rows.cmp {ds : List PyData} (h : Rows ds) : Cmp (.list ds) := by
  obtain ⟨_, b, c⟩ := rows_all h
  refine ⟨by rw [clean]; exact b, ?_⟩
  rw [PyData.depth]
  omega
theorem rows_nil : Rows [] := fun _ h => (List.not_mem_nil h).elim
theorem rows_snoc {ds : List PyData} {d : PyData} (h : Rows ds) (i : Row d) : Rows (ds ++ [d]) := fun x hx => by
  rcases List.mem_append.mp hx with q | q
  · exact h x q
  · rw [List.mem_singleton.mp q]; exact i
/-! parts and roots -/
def Exp.part : Exp → List PyData → PyData × List PyData
  | .num n, ps => (.tuple [.str "number", .int n], ps)
  | .fld n, ps => (.tuple [.str "field", .int n], ps)
  | .plc k n, ps => (.int ps.length, ps ++ [.tuple [.str "get", selD k n]])
  | .mrk k n, ps => (.int ps.length, ps ++ [.tuple [.str "ask", selD k n]])
  | .cell a, ps => (.int (a.part ps).2.length, (a.part ps).2 ++ [.tuple [.str "cell", (a.part ps).1]])
  | .two o a b, ps => (.int (b.part (a.part ps).2).2.length, (b.part (a.part ps).2).2 ++ [.tuple [.str o, (a.part ps).1, (b.part (a.part ps).2).1]])
def Exp.cnt : Exp → Nat
  | .num _ => 0
  | .fld _ => 0
  | .plc _ _ => 1
  | .mrk _ _ => 1
  | .cell a => a.cnt + 1
  | .two _ a b => a.cnt + b.cnt + 1
theorem Exp.part_len : ∀ (e : Exp) (ps : List PyData), (e.part ps).2.length = ps.length + e.cnt
  | .num _, ps => rfl
  | .fld _, ps => rfl
  | .plc _ _, ps => by simp [Exp.part, Exp.cnt]
  | .mrk _ _, ps => by simp [Exp.part, Exp.cnt]
  | .cell a, ps => by simp [Exp.part, Exp.cnt, Exp.part_len a]; omega
  | .two _ a b, ps => by simp [Exp.part, Exp.cnt, Exp.part_len a, Exp.part_len b]; omega
theorem Exp.cnt_le : ∀ e : Exp, e.cnt + 1 ≤ 2 ^ e.dep
  | .num _ | .fld _ | .plc _ _ | .mrk _ _ => by simp [Exp.cnt, Exp.dep]
  | .cell a => by
    have := Exp.cnt_le a
    simp only [Exp.cnt, Exp.dep, Nat.pow_succ]
    have := Nat.two_pow_pos a.dep
    omega
  | .two _ a b => by
    have := Exp.cnt_le a
    have := Exp.cnt_le b
    simp only [Exp.cnt, Exp.dep, Nat.pow_succ]
    have := Nat.pow_le_pow_right (show 0 < 2 by decide) (Nat.le_max_left a.dep b.dep)
    have := Nat.pow_le_pow_right (show 0 < 2 by decide) (Nat.le_max_right a.dep b.dep)
    omega
theorem cnt4 {n : Nat} {e : Exp} (h : OkE n e) (hn : n ≤ 4) : e.cnt ≤ 15 := by
  have := e.cnt_le
  have := Nat.pow_le_pow_right (show 0 < 2 by decide) (Nat.le_trans h.1 hn)
  omega
theorem row_sel {s k : Str} {n : Int} (h : PyData.strOk s = true) (hk : SelS k) : Row (.tuple [.str s, selD k n]) := ⟨_, rfl, fun x hx => by
  simp only [List.mem_cons, List.mem_nil_iff, or_false] at hx
  rcases hx with rfl | rfl
  · exact .str h
  · exact .pair hk.ok n⟩
theorem Exp.part_ok : ∀ (e : Exp) {ps : List PyData}, e.good → Rows ps → Item (e.part ps).1 ∧ Rows (e.part ps).2
  | .num n, ps, _, h => ⟨.pair (by decide +kernel) _, h⟩
  | .fld n, ps, _, h => ⟨.pair (by decide +kernel) _, h⟩
  | .plc k n, ps, g, h => ⟨.int _, rows_snoc h (row_sel (by decide +kernel) g)⟩
  | .mrk k n, ps, g, h => ⟨.int _, rows_snoc h (row_sel (by decide +kernel) g)⟩
  | .cell a, ps, g, h => by
    obtain ⟨i, r⟩ := Exp.part_ok a g h
    refine ⟨.int _, rows_snoc r ⟨_, rfl, fun x hx => ?_⟩⟩
    simp only [List.mem_cons, List.mem_nil_iff, or_false] at hx
    rcases hx with rfl | rfl
    · exact .str (by decide +kernel)
    · exact i
  | .two o a b, ps, g, h => by
    obtain ⟨i, r⟩ := Exp.part_ok a g.2.1 h
    obtain ⟨j, q⟩ := Exp.part_ok b g.2.2 r
    refine ⟨.int _, rows_snoc q ⟨_, rfl, fun x hx => ?_⟩⟩
    simp only [List.mem_cons, List.mem_nil_iff, or_false] at hx
    rcases hx with rfl | rfl | rfl
    · exact .str g.1.ok
    · exact i
    · exact j
/-- one behind the other -/
def parts : List Exp → List PyData → List PyData × List PyData
  | [], ps => ([], ps)
  | e :: es, ps => ((e.part ps).1 :: (parts es (e.part ps).2).1, (parts es (e.part ps).2).2)
theorem parts_snoc : ∀ (es : List Exp) (e : Exp) (ps : List PyData), parts (es ++ [e]) ps = ((parts es ps).1 ++ [(e.part (parts es ps).2).1], (e.part (parts es ps).2).2)
  | [], e, ps => rfl
  | x :: es, e, ps => by
    rw [List.cons_append, parts, parts_snoc es e]
    rfl
def SetE.rests : SetE → List Exp
  | .cell a b => [a, b]
  | .sel _ _ _ e => [e]
def proots : List SetE → List PyData → List PyData × List PyData
  | [], ps => ([], ps)
  | s :: ss, ps => (.tuple (parts s.rests ps).1 :: (proots ss (parts s.rests ps).2).1, (proots ss (parts s.rests ps).2).2)
theorem proots_snoc : ∀ (ss : List SetE) (s : SetE) (ps : List PyData), proots (ss ++ [s]) ps = ((proots ss ps).1 ++ [.tuple (parts s.rests (proots ss ps).2).1], (parts s.rests (proots ss ps).2).2)
  | [], s, ps => rfl
  | x :: ss, s, ps => by
    rw [List.cons_append, proots, proots_snoc ss s]
    rfl
theorem take_snoc {α : Type} {xs : List α} {i : Nat} {x : α} (h : xs[i]? = some x) : xs.take (i + 1) = xs.take i ++ [x] := by
  obtain ⟨hl, rfl⟩ := List.getElem?_eq_some_iff.mp h
  exact List.take_succ_eq_append_getElem hl
theorem parts_ok : ∀ (es : List Exp) {ps : List PyData}, (∀ e ∈ es, e.good) → Rows ps → (∀ x ∈ (parts es ps).1, Item x) ∧ Rows (parts es ps).2
  | [], ps, _, h => ⟨fun _ q => (List.not_mem_nil q).elim, h⟩
  | e :: es, ps, g, h => by
    obtain ⟨i, r⟩ := e.part_ok (g e List.mem_cons_self) h
    obtain ⟨j, q⟩ := parts_ok es (ps := (e.part ps).2) (fun x hx => g x (List.mem_cons_of_mem _ hx)) r
    refine ⟨fun x hx => ?_, q⟩
    rcases List.mem_cons.mp hx with rfl | hx
    · exact i
    · exact j x hx
theorem okS_rests {n : Nat} {s : SetE} (h : OkS n s) : ∀ e ∈ s.rests, OkE n e := by
  cases s with
  | cell a b =>
    intro e he
    simp only [SetE.rests, List.mem_cons, List.mem_nil_iff, or_false] at he
    rcases he with rfl | rfl
    · exact h.1
    · exact h.2
  | sel m k j e =>
    intro x hx
    rw [List.mem_singleton.mp hx]
    exact h.2
theorem proots_ok : ∀ (ss : List SetE) {n : Nat} {ps : List PyData}, (∀ s ∈ ss, OkS n s) → Rows ps → Rows (proots ss ps).1 ∧ Rows (proots ss ps).2
  | [], n, ps, _, h => ⟨rows_nil, h⟩
  | s :: ss, n, ps, g, h => by
    obtain ⟨i, r⟩ := parts_ok s.rests (fun e he => (okS_rests (g s List.mem_cons_self) e he).2) h
    obtain ⟨j, q⟩ := proots_ok ss (ps := (parts s.rests ps).2) (fun x hx => g x (List.mem_cons_of_mem _ hx)) r
    refine ⟨fun x hx => ?_, q⟩
    rcases List.mem_cons.mp hx with rfl | hx
    · exact ⟨_, rfl, i⟩
    · exact j x hx
def cnts : List Exp → Nat
  | [] => 0
  | e :: es => e.cnt + cnts es
theorem parts_len : ∀ (es : List Exp) (ps : List PyData), (parts es ps).2.length = ps.length + cnts es
  | [], ps => rfl
  | e :: es, ps => by rw [parts, parts_len es, e.part_len, cnts]; omega
theorem cnts_le : ∀ (es : List Exp), (∀ e ∈ es, OkE 4 e) → cnts es ≤ 15 * es.length
  | [], _ => Nat.le_refl 0
  | e :: es, h => by
    have := cnts_le es (fun x hx => h x (List.mem_cons_of_mem _ hx))
    have := cnt4 (h e List.mem_cons_self) (Nat.le_refl 4)
    rw [cnts, List.length_cons]
    omega
theorem proots_len : ∀ (ss : List SetE) (ps : List PyData), (∀ s ∈ ss, OkS 4 s) → (proots ss ps).2.length ≤ ps.length + 30 * ss.length ∧ (proots ss ps).1.length = ss.length
  | [], ps, _ => ⟨Nat.le_refl _, rfl⟩
  | s :: ss, ps, h => by
    obtain ⟨a, b⟩ := proots_len ss (parts s.rests ps).2 (fun x hx => h x (List.mem_cons_of_mem _ hx))
    have c := cnts_le s.rests (okS_rests (h s List.mem_cons_self))
    have d : s.rests.length ≤ 2 := by cases s <;> simp [SetE.rests]
    rw [parts_len] at a
    refine ⟨?_, ?_⟩
    · rw [proots, List.length_cons]
      show (proots ss (parts s.rests ps).2).2.length ≤ _
      omega
    · rw [proots, List.length_cons, List.length_cons]
      show (proots ss (parts s.rests ps).2).1.length + 1 = _
      omega

end J
namespace J
open PySem PySem.Spec PyProof.Rows L2
--plain
/-! ### orders of parts: how many are held -/
def Exp.need : Exp → Nat
  | .num _ => 0
  | .fld _ => 0
  | .plc _ _ => 1
  | .mrk _ _ => 1
  | .cell a => max 1 a.need
  | .two _ a b => if a.need = b.need ∧ 0 < a.need then a.need + 1 else max 1 (max a.need b.need)
theorem need_cnt : ∀ e : Exp, 0 < e.need ↔ 0 < e.cnt
  | .num _ | .fld _ => by simp [Exp.need, Exp.cnt]
  | .plc _ _ | .mrk _ _ => by simp [Exp.need, Exp.cnt]
  | .cell a => by simp [Exp.need, Exp.cnt]; omega
  | .two _ a b => by
    simp only [Exp.need, Exp.cnt]
    by_cases h : a.need = b.need ∧ 0 < a.need
    · rw [if_pos h]; omega
    · rw [if_neg h]; omega
/-- the root's number, if there is one -/
def Exp.rt (e : Exp) (b : Int) : List Int := if e.cnt = 0 then [] else [b + e.cnt - 1]
/-- own parts, part by part -/
def Exp.own : Exp → Int → List (List Int)
  | .num _, _ => []
  | .fld _, _ => []
  | .plc _ _, _ => [[]]
  | .mrk _ _, _ => [[]]
  | .cell a, b => a.own b ++ [a.rt b]
  | .two _ a c, b => a.own b ++ c.own (b + a.cnt) ++ [a.rt b ++ c.rt (b + a.cnt)]
theorem own_len : ∀ (e : Exp) (b : Int), (e.own b).length = e.cnt
  | .num _, _ | .fld _, _ | .plc _ _, _ | .mrk _ _, _ => rfl
  | .cell a, b => by simp [Exp.own, Exp.cnt, own_len a]
  | .two _ a c, b => by simp [Exp.own, Exp.cnt, own_len a, own_len c]; omega
/-- own tells what the parts from b on have -/
def Tr (own : Int → List Int) (e : Exp) (b : Int) : Prop := ∀ (i : Nat) (l : List Int), (e.own b)[i]? = some l → own (b + i) = l
theorem tr_cell {own : Int → List Int} {a : Exp} {b : Int} (h : Tr own (.cell a) b) : Tr own a b ∧ own (b + a.cnt) = a.rt b := by
  refine ⟨fun i l hi => h i l ?_, h a.cnt _ ?_⟩
  · rw [Exp.own, List.getElem?_append_left (List.getElem?_eq_some_iff.mp hi).1]; exact hi
  · rw [Exp.own, List.getElem?_append_right (by rw [own_len]; exact Nat.le_refl _), own_len, Nat.sub_self]; rfl
theorem tr_two {own : Int → List Int} {o : Str} {a c : Exp} {b : Int} (h : Tr own (.two o a c) b) : Tr own a b ∧ Tr own c (b + a.cnt) ∧ own (b + a.cnt + c.cnt) = a.rt b ++ c.rt (b + a.cnt) := by
  refine ⟨fun i l hi => h i l ?_, fun i l hi => ?_, ?_⟩
  · have := (List.getElem?_eq_some_iff.mp hi).1
    rw [Exp.own, List.append_assoc, List.getElem?_append_left this]; exact hi
  · have hl := (List.getElem?_eq_some_iff.mp hi).1
    have := h (a.cnt + i) l (by
      rw [Exp.own, List.append_assoc, List.getElem?_append_right (by rw [own_len]; omega), own_len, Nat.add_sub_cancel_left, List.getElem?_append_left hl]; exact hi)
    rw [← this]; congr 1; omega
  · have := h (a.cnt + c.cnt) (a.rt b ++ c.rt (b + a.cnt)) (by
      rw [Exp.own, List.getElem?_append_right (by rw [List.length_append, own_len, own_len]; exact Nat.le_refl _), List.length_append, own_len, own_len, Nat.sub_self]; rfl)
    rw [← this]; congr 1; omega
theorem rt_mem {e : Exp} {b y : Int} (h : y ∈ e.rt b) : 0 < e.cnt ∧ y = b + e.cnt - 1 := by
  unfold Exp.rt at h
  by_cases z : e.cnt = 0
  · rw [if_pos z] at h; exact (List.not_mem_nil h).elim
  · rw [if_neg z, List.mem_singleton] at h
    exact ⟨by omega, h⟩
theorem own_sub {own : Int → List Int} : ∀ (e : Exp) (b : Int), Tr own e b → ∀ x, b ≤ x → x < b + e.cnt → ∀ y ∈ own x, b ≤ y ∧ y < x
  | .num _, b, _, x, h1, h2, y, _ => by simp [Exp.cnt] at h2; omega
  | .fld _, b, _, x, h1, h2, y, _ => by simp [Exp.cnt] at h2; omega
  | .plc _ _, b, t, x, h1, h2, y, hy => by
    have e : x = b + (0 : Nat) := by simp [Exp.cnt] at h2; omega
    rw [e, t 0 [] rfl] at hy
    exact (List.not_mem_nil hy).elim
  | .mrk _ _, b, t, x, h1, h2, y, hy => by
    have e : x = b + (0 : Nat) := by simp [Exp.cnt] at h2; omega
    rw [e, t 0 [] rfl] at hy
    exact (List.not_mem_nil hy).elim
  | .cell a, b, t, x, h1, h2, y, hy => by
    obtain ⟨ta, tr⟩ := tr_cell t
    simp only [Exp.cnt] at h2
    by_cases z : x < b + a.cnt
    · exact own_sub a b ta x h1 z y hy
    · have e : x = b + a.cnt := by omega
      rw [e, tr] at hy
      have := rt_mem hy
      omega
  | .two o a c, b, t, x, h1, h2, y, hy => by
    obtain ⟨ta, tc, tr⟩ := tr_two t
    simp only [Exp.cnt] at h2
    by_cases z : x < b + a.cnt
    · exact own_sub a b ta x h1 z y hy
    · by_cases z2 : x < b + a.cnt + c.cnt
      · have := own_sub c (b + a.cnt) tc x (by omega) z2 y hy
        omega
      · have e : x = b + a.cnt + c.cnt := by omega
        rw [e, tr] at hy
        rcases List.mem_append.mp hy with g | g
        · have := rt_mem g
          omega
        · have := rt_mem g
          omega
/-- an order, the last one first -/
def Val (own : Int → List Int) : List Int → Prop
  | [] => True
  | x :: r => x ∉ r ∧ (∀ y ∈ own x, y ∈ r) ∧ Val own r
def held (own : Int → List Int) : List Int → List Int
  | [] => []
  | x :: r => x :: (held own r).filter fun y => !decide (y ∈ own x)
theorem val_suffix {own : Int → List Int} : ∀ {R S : List Int}, S <:+ R → Val own R → Val own S
  | [], S, h, v => by rw [List.suffix_nil.mp h]; trivial
  | x :: r, S, h, v => by
    rcases List.suffix_cons_iff.mp h with rfl | h
    · exact v
    · exact val_suffix h v.2.2
theorem filter_held {own : Int → List Int} {T : Int → Bool} : ∀ {R : List Int}, (∀ x ∈ R, T x = true → ∀ y ∈ own x, T y = true) → (∀ x ∈ R, T x = false → ∀ y ∈ own x, T y = false) → held own (R.filter T) = (held own R).filter T
  | [], _, _ => rfl
  | x :: r, h1, h2 => by
    have ih := filter_held (R := r) (fun x hx => h1 x (List.mem_cons_of_mem _ hx)) (fun x hx => h2 x (List.mem_cons_of_mem _ hx))
    rw [List.filter_cons, held, List.filter_cons]
    by_cases t : T x = true
    · rw [if_pos t, if_pos t, held, ih, List.filter_filter, List.filter_filter]
      congr 1
      apply List.filter_congr
      intro y _
      cases T y <;> simp
    · rw [if_neg t, if_neg t, ih, List.filter_filter]
      apply List.filter_congr
      intro y _
      cases hy : T y with
      | false => rfl
      | true =>
        have : y ∉ own x := fun g => by
          have := h2 x List.mem_cons_self (by simpa using t) y g
          rw [hy] at this; cases this
        simp [this]
theorem filter_val {own : Int → List Int} {T : Int → Bool} : ∀ {R : List Int}, (∀ x ∈ R, T x = true → ∀ y ∈ own x, T y = true) → Val own R → Val own (R.filter T)
  | [], _, _ => trivial
  | x :: r, h1, v => by
    have ih := filter_val (R := r) (fun x hx => h1 x (List.mem_cons_of_mem _ hx)) v.2.2
    rw [List.filter_cons]
    by_cases t : T x = true
    · rw [if_pos t]
      refine ⟨fun g => v.1 (List.mem_filter.mp g).1, fun y hy => List.mem_filter.mpr ⟨v.2.1 y hy, h1 x List.mem_cons_self t y hy⟩, ih⟩
    · rw [if_neg t]; exact ih
theorem suffix_filter {T : Int → Bool} : ∀ {R S' : List Int}, S' <:+ R.filter T → ∃ S, S <:+ R ∧ S.filter T = S'
  | [], S', h => ⟨[], List.suffix_refl _, (List.suffix_nil.mp h).symm⟩
  | x :: r, S', h => by
    rw [List.filter_cons] at h
    by_cases t : T x = true
    · rw [if_pos t] at h
      rcases List.suffix_cons_iff.mp h with rfl | h
      · exact ⟨x :: r, List.suffix_refl _, by rw [List.filter_cons, if_pos t]⟩
      · obtain ⟨S, h1, h2⟩ := suffix_filter h
        exact ⟨S, h1.trans (List.suffix_cons _ _), h2⟩
    · rw [if_neg t] at h
      obtain ⟨S, h1, h2⟩ := suffix_filter h
      exact ⟨S, h1.trans (List.suffix_cons _ _), h2⟩
theorem held_ne {own : Int → List Int} {R : List Int} (h : R ≠ []) : held own R ≠ [] := by
  cases R with
  | nil => exact h
  | cons x r => exact List.cons_ne_nil _ _
/-- the stretch of a tree -/
def inT (b : Int) (c : Nat) (x : Int) : Bool := decide (b ≤ x ∧ x < b + c)
theorem inT_iff {b : Int} {c : Nat} {x : Int} : inT b c x = true ↔ b ≤ x ∧ x < b + c := decide_eq_true_iff
theorem inT_no {b : Int} {c : Nat} {x : Int} : inT b c x = false ↔ ¬ (b ≤ x ∧ x < b + c) := decide_eq_false_iff_not
theorem val_nodup {own : Int → List Int} : ∀ {R : List Int}, Val own R → R.Nodup
  | [], _ => List.nodup_nil
  | _ :: _, v => List.nodup_cons.mpr ⟨v.1, val_nodup v.2.2⟩
theorem filter_none {T : Int → Bool} {R : List Int} (h : ∀ x ∈ R, T x = false) : R.filter T = [] := List.filter_eq_nil_iff.mpr fun x hx => by rw [h x hx]; decide
/-- the root is the last one -/
theorem root_last {own : Int → List Int} : ∀ (e : Exp) (b : Int) (R : List Int), Tr own e b → Val own R → (∀ x, x ∈ R ↔ b ≤ x ∧ x < b + e.cnt) → 0 < e.cnt → ∃ r, R = (b + e.cnt - 1) :: r := by
  have one : ∀ (b : Int) (R : List Int), (∀ x, x ∈ R ↔ b ≤ x ∧ x < b + 1) → ∃ r, R = b :: r := fun b R h => by
    cases R with
    | nil => exact (List.not_mem_nil ((h b).mpr ⟨Int.le_refl _, by omega⟩)).elim
    | cons x r =>
      have := (h x).mp List.mem_cons_self
      exact ⟨r, by rw [show x = b by omega]⟩
  -- a sub-tree's root stands behind its parent
  have sub : ∀ (a : Exp) (ba root y : Int) (r : List Int), (∀ R, Tr own a ba → Val own R → (∀ x, x ∈ R ↔ ba ≤ x ∧ x < ba + a.cnt) → 0 < a.cnt → ∃ r, R = (ba + a.cnt - 1) :: r) → Tr own a ba → Val own (y :: r) → root ∈ r →
      (∀ x, ba ≤ x ∧ x < ba + a.cnt → x ∈ y :: r) → ba ≤ y ∧ y < ba + a.cnt → ba + a.cnt - 1 ∈ own root → False := fun a ba root y r ih ta v hr all hy ho => by
    have ha : 0 < a.cnt := by omega
    have v2 := filter_val (own := own) (T := inT ba a.cnt) (R := y :: r) (fun x _ hT z hz => by
      have := inT_iff.mp hT
      have := own_sub a ba ta x this.1 this.2 z hz
      exact inT_iff.mpr (by omega)) v
    obtain ⟨r', e⟩ := ih _ ta v2 (fun x => by
      rw [List.mem_filter, inT_iff]
      exact ⟨fun g => g.2, fun g => ⟨all x g, g⟩⟩) ha
    rw [List.filter_cons, if_pos (inT_iff.mpr hy)] at e
    have ey : y = ba + a.cnt - 1 := (List.cons.inj e).1
    -- root's own are behind it
    have key : ∀ (l : List Int), Val own l → root ∈ l → ∀ z ∈ own root, z ∈ l := fun l => by
      induction l with
      | nil => intro _ h; exact (List.not_mem_nil h).elim
      | cons w l ih =>
        intro v h z hz
        rcases List.mem_cons.mp h with rfl | h
        · exact List.mem_cons_of_mem _ (v.2.1 z hz)
        · exact List.mem_cons_of_mem _ (ih v.2.2 h z hz)
    exact v.1 (by rw [ey]; exact key r v.2.2 hr _ ho)
  intro e
  induction e with
  | num _ => intro b R _ _ _ h; exact absurd h (by simp [Exp.cnt])
  | fld _ => intro b R _ _ _ h; exact absurd h (by simp [Exp.cnt])
  | plc _ _ =>
    intro b R _ _ h _
    obtain ⟨r, e⟩ := one b R (fun x => by rw [h x]; simp [Exp.cnt])
    exact ⟨r, by rw [e]; simp [Exp.cnt]⟩
  | mrk _ _ =>
    intro b R _ _ h _
    obtain ⟨r, e⟩ := one b R (fun x => by rw [h x]; simp [Exp.cnt])
    exact ⟨r, by rw [e]; simp [Exp.cnt]⟩
  | cell a ih =>
    intro b R t v h _
    obtain ⟨ta, tr⟩ := tr_cell t
    have e0 : b + ((Exp.cell a).cnt : Int) - 1 = b + a.cnt := by simp [Exp.cnt]; omega
    rw [e0]
    have c0 : ((Exp.cell a).cnt : Int) = a.cnt + 1 := by simp [Exp.cnt]
    rw [c0] at h
    cases R with
    | nil => exact (List.not_mem_nil ((h (b + a.cnt)).mpr (by omega))).elim
    | cons y r =>
      by_cases ey : y = b + a.cnt
      · exact ⟨r, by rw [ey]⟩
      · have hy := (h y).mp List.mem_cons_self
        have hr : b + (a.cnt : Int) ∈ r := by
          have := (h (b + a.cnt)).mpr (by omega)
          rcases List.mem_cons.mp this with g | g
          · exact absurd g.symm ey
          · exact g
        refine (sub a b (b + a.cnt) y r (ih b) ta v hr (fun x g => (h x).mpr (by omega)) (by omega) ?_).elim
        rw [tr]
        unfold Exp.rt
        rw [if_neg (by omega)]
        exact List.mem_singleton.mpr rfl
  | two o a c iha ihc =>
    intro b R t v h _
    obtain ⟨ta, tc, tr⟩ := tr_two t
    have c0 : ((Exp.two o a c).cnt : Int) = a.cnt + c.cnt + 1 := by simp [Exp.cnt]
    have e0 : b + ((Exp.two o a c).cnt : Int) - 1 = b + a.cnt + c.cnt := by omega
    rw [e0]
    rw [c0] at h
    cases R with
    | nil => exact (List.not_mem_nil ((h (b + a.cnt + c.cnt)).mpr (by omega))).elim
    | cons y r =>
      by_cases ey : y = b + a.cnt + c.cnt
      · exact ⟨r, by rw [ey]⟩
      · have hy := (h y).mp List.mem_cons_self
        have hr : b + (a.cnt : Int) + c.cnt ∈ r := by
          have := (h (b + a.cnt + c.cnt)).mpr (by omega)
          rcases List.mem_cons.mp this with g | g
          · exact absurd g.symm ey
          · exact g
        by_cases ya : y < b + a.cnt
        · refine (sub a b (b + a.cnt + c.cnt) y r (iha b) ta v hr (fun x g => (h x).mpr (by omega)) (by omega) ?_).elim
          rw [tr]
          refine List.mem_append_left _ ?_
          unfold Exp.rt
          rw [if_neg (by omega)]
          exact List.mem_singleton.mpr rfl
        · refine (sub c (b + a.cnt) (b + a.cnt + c.cnt) y r (ihc _) tc v hr (fun x g => (h x).mpr (by omega)) (by omega) ?_).elim
          rw [tr]
          refine List.mem_append_right _ ?_
          unfold Exp.rt
          rw [if_neg (by omega)]
          exact List.mem_singleton.mpr rfl
/-- closed stretches -/
def Cl (own : Int → List Int) (T : Int → Bool) (R : List Int) : Prop := (∀ x ∈ R, T x = true → ∀ y ∈ own x, T y = true) ∧ (∀ x ∈ R, T x = false → ∀ y ∈ own x, T y = false)
theorem Cl.suf {own : Int → List Int} {T : Int → Bool} {R S : List Int} (h : Cl own T R) (s : S <:+ R) : Cl own T S := ⟨fun x hx => h.1 x (s.subset hx), fun x hx => h.2 x (s.subset hx)⟩
/-- once begun, at least one is held -/
theorem begun {own : Int → List Int} {T : Int → Bool} {R S S' : List Int} (c : Cl own T R) (h : S <:+ R) (h' : S' <:+ S) (n : 1 ≤ ((held own S').filter T).length) : 1 ≤ ((held own S).filter T).length := by
  rw [← filter_held (c.suf h).1 (c.suf h).2]
  rw [← filter_held (c.suf (h'.trans h)).1 (c.suf (h'.trans h)).2] at n
  have ne : S.filter T ≠ [] := fun z => by
    have e : S'.filter T = [] := by
      rw [List.filter_eq_nil_iff] at z ⊢
      exact fun x hx => z x (h'.subset hx)
    rw [e] at n
    exact absurd n (by simp [held])
  have := List.length_pos_iff.mpr (held_ne (own := own) ne)
  omega
theorem suffix_total {S S' R : List Int} (h : S <:+ R) (h' : S' <:+ R) : S <:+ S' ∨ S' <:+ S := by
  rcases Nat.le_total S.length S'.length with l | l
  · exact .inl (List.suffix_of_suffix_length_le h h' l)
  · exact .inr (List.suffix_of_suffix_length_le h' h l)
/-- two apart -/
theorem two_len {T U : Int → Bool} {l : List Int} (d : ∀ x ∈ l, T x = true → U x = false) : (l.filter T).length + (l.filter U).length ≤ l.length := by
  induction l with
  | nil => simp
  | cons x l ih =>
    have ih := ih (fun y hy => d y (List.mem_cons_of_mem _ hy))
    have dx := d x List.mem_cons_self
    rw [List.filter_cons, List.filter_cons, List.length_cons]
    cases hT : T x with
    | true =>
      rw [dx hT]
      simp only [if_true, Bool.false_eq_true, if_false, List.length_cons]
      omega
    | false =>
      cases U x <;> simp only [if_true, Bool.false_eq_true, if_false, List.length_cons] <;> omega
/-- at some time a tree holds as many as it needs -/
theorem low {own : Int → List Int} : ∀ (e : Exp) (b : Int) (R : List Int), Tr own e b → Val own R → (∀ x, x ∈ R ↔ b ≤ x ∧ x < b + e.cnt) → ∃ S, S <:+ R ∧ e.need ≤ (held own S).length := by
  have any : ∀ (e : Exp) (b : Int) (R : List Int), (∀ x, x ∈ R ↔ b ≤ x ∧ x < b + e.cnt) → 0 < e.cnt → ∃ S, S <:+ R ∧ 1 ≤ (held own S).length := fun e b R h hc => by
    refine ⟨R, List.suffix_refl _, ?_⟩
    have : R ≠ [] := fun z => by
      have := (h b).mpr (by omega)
      rw [z] at this
      exact List.not_mem_nil this
    have := List.length_pos_iff.mpr (held_ne (own := own) this)
    omega
  -- a tree within a row
  have within : ∀ (a : Exp) (ba : Int) (R : List Int), (∀ R, Tr own a ba → Val own R → (∀ x, x ∈ R ↔ ba ≤ x ∧ x < ba + a.cnt) → ∃ S, S <:+ R ∧ a.need ≤ (held own S).length) → Tr own a ba → Val own R → (∀ x, ba ≤ x ∧ x < ba + a.cnt → x ∈ R) →
      Cl own (inT ba a.cnt) R → ∃ S, S <:+ R ∧ a.need ≤ ((held own S).filter (inT ba a.cnt)).length := fun a ba R ih ta v all cl => by
    obtain ⟨S', s', l⟩ := ih (R.filter (inT ba a.cnt)) ta (filter_val cl.1 v) (fun x => by
      rw [List.mem_filter, inT_iff]
      exact ⟨fun g => g.2, fun g => ⟨all x g, g⟩⟩)
    obtain ⟨S, s, rfl⟩ := suffix_filter s'
    exact ⟨S, s, by rw [← filter_held (cl.suf s).1 (cl.suf s).2]; exact l⟩
  intro e
  induction e with
  | num _ => intro b R _ _ _; exact ⟨R, List.suffix_refl _, Nat.zero_le _⟩
  | fld _ => intro b R _ _ _; exact ⟨R, List.suffix_refl _, Nat.zero_le _⟩
  | plc _ _ => intro b R _ _ h; exact any _ b R h (by simp [Exp.cnt])
  | mrk _ _ => intro b R _ _ h; exact any _ b R h (by simp [Exp.cnt])
  | cell a ih =>
    intro b R t v h
    obtain ⟨ta, tr⟩ := tr_cell t
    obtain ⟨r, e⟩ := root_last _ b R t v h (by simp [Exp.cnt])
    have c0 : ((Exp.cell a).cnt : Int) = a.cnt + 1 := by simp [Exp.cnt]
    rw [c0] at h e
    rw [show b + ((a.cnt : Int) + 1) - 1 = b + a.cnt by omega] at e
    subst e
    have hr : ∀ x, x ∈ r ↔ b ≤ x ∧ x < b + a.cnt := fun x => by
      have := h x
      rw [List.mem_cons] at this
      constructor
      · intro g
        have ne : x ≠ b + a.cnt := fun z => v.1 (by rw [← z]; exact g)
        have := this.mp (.inr g)
        omega
      · intro g
        rcases this.mpr (by omega) with q | q
        · omega
        · exact q
    by_cases z : a.need ≤ 1
    · obtain ⟨S, s, l⟩ := any (.cell a) b _ (fun x => by rw [c0]; exact h x) (by simp [Exp.cnt])
      exact ⟨S, s, by simp only [Exp.need]; omega⟩
    · obtain ⟨S, s, l⟩ := ih b r ta v.2.2 hr
      exact ⟨S, s.trans (List.suffix_cons _ _), by simp only [Exp.need]; omega⟩
  | two o a c iha ihc =>
    intro b R t v h
    obtain ⟨ta, tc, tr⟩ := tr_two t
    obtain ⟨r, e⟩ := root_last _ b R t v h (by simp [Exp.cnt])
    have c0 : ((Exp.two o a c).cnt : Int) = a.cnt + c.cnt + 1 := by simp [Exp.cnt]
    rw [c0] at h e
    rw [show b + ((a.cnt : Int) + c.cnt + 1) - 1 = b + a.cnt + c.cnt by omega] at e
    subst e
    have hr : ∀ x, x ∈ r ↔ b ≤ x ∧ x < b + a.cnt + c.cnt := fun x => by
      have := h x
      rw [List.mem_cons] at this
      constructor
      · intro g
        have ne : x ≠ b + a.cnt + c.cnt := fun z => v.1 (by rw [← z]; exact g)
        have := this.mp (.inr g)
        omega
      · intro g
        rcases this.mpr (by omega) with q | q
        · omega
        · exact q
    have cla : Cl own (inT b a.cnt) r := by
      refine ⟨fun x hx hT y hy => ?_, fun x hx hT y hy => ?_⟩
      · have := inT_iff.mp hT
        have := own_sub a b ta x this.1 this.2 y hy
        exact inT_iff.mpr (by omega)
      · have q := (hr x).mp hx
        have := inT_no.mp hT
        have := own_sub c (b + a.cnt) tc x (by omega) (by omega) y hy
        exact inT_no.mpr (by omega)
    have clc : Cl own (inT (b + a.cnt) c.cnt) r := by
      refine ⟨fun x hx hT y hy => ?_, fun x hx hT y hy => ?_⟩
      · have := inT_iff.mp hT
        have := own_sub c (b + a.cnt) tc x this.1 this.2 y hy
        exact inT_iff.mpr (by omega)
      · have q := (hr x).mp hx
        have := inT_no.mp hT
        have := own_sub a b ta x (by omega) (by omega) y hy
        exact inT_no.mpr (by omega)
    obtain ⟨Sa, sa, la⟩ := within a b r (iha b) ta v.2.2 (fun x g => (hr x).mpr (by omega)) cla
    obtain ⟨Sc, sc, lc⟩ := within c (b + a.cnt) r (ihc _) tc v.2.2 (fun x g => (hr x).mpr (by omega)) clc
    have le : ∀ {S : List Int} {T : Int → Bool}, ((held own S).filter T).length ≤ (held own S).length := fun {S T} => List.length_filter_le _ _
    by_cases z : a.need = c.need ∧ 0 < a.need
    · have dis : ∀ (l : List Int), ∀ x ∈ l, inT b a.cnt x = true → inT (b + a.cnt) c.cnt x = false := fun l x _ h => by
        have := inT_iff.mp h
        exact inT_no.mpr (by omega)
      rw [show (Exp.two o a c).need = a.need + 1 by simp only [Exp.need]; rw [if_pos z]]
      rcases suffix_total sa sc with s | s
      · have := begun cla sc s (by omega)
        have := two_len (dis (held own Sc))
        exact ⟨Sc, sc.trans (List.suffix_cons _ _), by omega⟩
      · have := begun clc sa s (by omega)
        have := two_len (dis (held own Sa))
        exact ⟨Sa, sa.trans (List.suffix_cons _ _), by omega⟩
    · rw [show (Exp.two o a c).need = max 1 (max a.need c.need) by simp only [Exp.need]; rw [if_neg z]]
      by_cases z1 : max a.need c.need ≤ 1
      · obtain ⟨S, s, l⟩ := any (.two o a c) b _ (fun x => by rw [c0]; exact h x) (by simp [Exp.cnt])
        exact ⟨S, s, by omega⟩
      · by_cases z2 : c.need ≤ a.need
        · exact ⟨Sa, sa.trans (List.suffix_cons _ _), by have := le (S := Sa) (T := inT b a.cnt); omega⟩
        · exact ⟨Sc, sc.trans (List.suffix_cons _ _), by have := le (S := Sc) (T := inT (b + a.cnt) c.cnt); omega⟩
/-- trees side by side -/
def offs : List Exp → Int → List (Exp × Int)
  | [], _ => []
  | e :: es, b => (e, b) :: offs es (b + e.cnt)
theorem offs_ge : ∀ {es : List Exp} {b : Int} {p : Exp × Int}, p ∈ offs es b → b ≤ p.2 ∧ p.2 + p.1.cnt ≤ b + cnts es
  | [], _, _, h => (List.not_mem_nil h).elim
  | e :: es, b, p, h => by
    rw [cnts]
    rcases List.mem_cons.mp h with rfl | h
    · exact ⟨Int.le_refl _, by show b + (e.cnt : Int) ≤ _; omega⟩
    · have := offs_ge h
      omega
/-- where each number lies -/
theorem offs_in : ∀ {es : List Exp} {b x : Int}, b ≤ x → x < b + cnts es → ∃ p ∈ offs es b, p.2 ≤ x ∧ x < p.2 + p.1.cnt
  | [], b, x, h1, h2 => by rw [cnts] at h2; omega
  | e :: es, b, x, h1, h2 => by
    rw [cnts] at h2
    by_cases z : x < b + e.cnt
    · exact ⟨(e, b), List.mem_cons_self, h1, z⟩
    · obtain ⟨p, hp, q⟩ := offs_in (es := es) (b := b + e.cnt) (x := x) (by omega) (by omega)
      exact ⟨p, List.mem_cons_of_mem _ hp, q⟩
def Apart (p q : Exp × Int) : Prop := p.2 + p.1.cnt ≤ q.2 ∨ q.2 + q.1.cnt ≤ p.2
theorem offs_apart : ∀ {es : List Exp} {b : Int}, (offs es b).Pairwise Apart
  | [], _ => List.Pairwise.nil
  | e :: es, b => List.pairwise_cons.mpr ⟨fun p hp => .inl (offs_ge hp).1, offs_apart⟩
theorem Apart.symm {p q : Exp × Int} (h : Apart p q) : Apart q p := by rcases h with h | h; exact .inr h; exact .inl h
theorem cnt_cut (l : List Int) (p : Exp × Int) (U : Int → Bool) (h : ∀ x, inT p.2 p.1.cnt x = true → U x = true) : (l.filter (inT p.2 p.1.cnt)).length + (l.filter (fun x => U x && !inT p.2 p.1.cnt x)).length ≤ (l.filter U).length := by
  have t := two_len (T := inT p.2 p.1.cnt) (U := fun x => U x && !inT p.2 p.1.cnt x) (l := l.filter U) (fun x _ hx => by rw [hx]; cases U x <;> rfl)
  rw [List.filter_filter, List.filter_filter] at t
  have e1 : l.filter (fun x => inT p.2 p.1.cnt x && U x) = l.filter (inT p.2 p.1.cnt) := List.filter_congr fun x _ => by
    cases hx : inT p.2 p.1.cnt x with
    | false => rfl
    | true => rw [h x hx]; rfl
  have e2 : l.filter (fun x => (U x && !inT p.2 p.1.cnt x) && U x) = l.filter (fun x => U x && !inT p.2 p.1.cnt x) := List.filter_congr fun x _ => by
    cases U x <;> cases inT p.2 p.1.cnt x <;> rfl
  rw [e1, e2] at t
  exact t
theorem sub_cut {p : Exp × Int} {L : List (Exp × Int)} {U : Int → Bool} (hp : ∀ q ∈ L, Apart p q) (hU : ∀ q ∈ L, ∀ x, inT q.2 q.1.cnt x = true → U x = true) : ∀ q ∈ L, ∀ x, inT q.2 q.1.cnt x = true → (U x && !inT p.2 p.1.cnt x) = true := fun q hq x hx => by
  have a := inT_iff.mp hx
  have b : inT p.2 p.1.cnt x = false := inT_no.mpr (by rcases hp q hq with z | z <;> omega)
  rw [b, hU q hq x hx]; rfl
theorem cnt_all (l : List Int) : ∀ (L : List (Exp × Int)), L.Pairwise Apart → (∀ q ∈ L, 1 ≤ (l.filter (inT q.2 q.1.cnt)).length) → ∀ U : Int → Bool, (∀ p ∈ L, ∀ x, inT p.2 p.1.cnt x = true → U x = true) → L.length ≤ (l.filter U).length
  | [], _, _, U, _ => Nat.zero_le _
  | p :: L, hp, h1, U, hU => by
    obtain ⟨hp1, hp2⟩ := List.pairwise_cons.mp hp
    have i := cnt_all l L hp2 (fun q hq => h1 q (List.mem_cons_of_mem _ hq)) (fun x => U x && !inT p.2 p.1.cnt x) (sub_cut hp1 fun q hq => hU q (List.mem_cons_of_mem _ hq))
    have t := cnt_cut l p U (hU p List.mem_cons_self)
    have := h1 p List.mem_cons_self
    rw [List.length_cons]; omega
theorem cnt_one (l : List Int) (m : Nat) : ∀ (L : List (Exp × Int)), L.Pairwise Apart → (∀ q ∈ L, 1 ≤ (l.filter (inT q.2 q.1.cnt)).length) → (∃ p ∈ L, m ≤ (l.filter (inT p.2 p.1.cnt)).length) → ∀ U : Int → Bool, (∀ p ∈ L, ∀ x, inT p.2 p.1.cnt x = true → U x = true) → m + L.length ≤ (l.filter U).length + 1
  | [], _, _, ⟨_, h, _⟩, U, _ => (List.not_mem_nil h).elim
  | p :: L, hp, h1, ⟨q, hq, lq⟩, U, hU => by
    obtain ⟨hp1, hp2⟩ := List.pairwise_cons.mp hp
    have h1' := fun q hq => h1 q (List.mem_cons_of_mem _ hq)
    have hU' := sub_cut hp1 fun q hq => hU q (List.mem_cons_of_mem _ hq)
    have t := cnt_cut l p U (hU p List.mem_cons_self)
    have := h1 p List.mem_cons_self
    rcases List.mem_cons.mp hq with rfl | hq
    · have i := cnt_all l L hp2 h1' _ hU'
      rw [List.length_cons]; omega
    · have i := cnt_one l m L hp2 h1' ⟨q, hq, lq⟩ _ hU'
      rw [List.length_cons]; omega
/-- the lower bound: trees that each need m at least -/
theorem low_all {own : Int → List Int} {R : List Int} (v : Val own R) (m : Nat) (hm : 1 ≤ m) : ∀ (L : List (Exp × Int)), L ≠ [] → L.Pairwise Apart → (∀ p ∈ L, m ≤ p.1.need ∧ Tr own p.1 p.2 ∧ (∀ x, p.2 ≤ x ∧ x < p.2 + p.1.cnt → x ∈ R) ∧ Cl own (inT p.2 p.1.cnt) R) →
    ∃ S, S <:+ R ∧ m + L.length ≤ (held own S).length + 1 := by
  have key : ∀ (L : List (Exp × Int)), L ≠ [] → (∀ p ∈ L, m ≤ p.1.need ∧ Tr own p.1 p.2 ∧ (∀ x, p.2 ≤ x ∧ x < p.2 + p.1.cnt → x ∈ R) ∧ Cl own (inT p.2 p.1.cnt) R) →
      ∃ S, S <:+ R ∧ (∃ p ∈ L, m ≤ ((held own S).filter (inT p.2 p.1.cnt)).length) ∧ ∀ p ∈ L, 1 ≤ ((held own S).filter (inT p.2 p.1.cnt)).length := by
    intro L
    induction L with
    | nil => intro h; exact (h rfl).elim
    | cons p L ih =>
      intro _ h
      obtain ⟨hn, ht, ha, hc⟩ := h p List.mem_cons_self
      obtain ⟨Sp, sp, lp⟩ : ∃ S, S <:+ R ∧ p.1.need ≤ ((held own S).filter (inT p.2 p.1.cnt)).length := by
        obtain ⟨S', s', l⟩ := low p.1 p.2 (R.filter (inT p.2 p.1.cnt)) ht (filter_val hc.1 v) (fun x => by
          rw [List.mem_filter, inT_iff]
          exact ⟨fun g => g.2, fun g => ⟨ha x g, g⟩⟩)
        obtain ⟨S, s, rfl⟩ := suffix_filter s'
        exact ⟨S, s, by rw [← filter_held (hc.suf s).1 (hc.suf s).2]; exact l⟩
      cases L with
      | nil =>
        refine ⟨Sp, sp, ⟨p, List.mem_cons_self, by omega⟩, fun q hq => ?_⟩
        rw [List.mem_singleton.mp hq]; omega
      | cons p2 L2 =>
        obtain ⟨S, s, ⟨q, hq, lq⟩, l⟩ := ih (List.cons_ne_nil _ _) (fun q hq => h q (List.mem_cons_of_mem _ hq))
        rcases suffix_total sp s with z | z
        · refine ⟨S, s, ⟨q, List.mem_cons_of_mem _ hq, lq⟩, fun q hq => ?_⟩
          rcases List.mem_cons.mp hq with rfl | hq
          · exact begun hc s z (by omega)
          · exact l q hq
        · refine ⟨Sp, sp, ⟨p, List.mem_cons_self, by omega⟩, fun q hq => ?_⟩
          rcases List.mem_cons.mp hq with rfl | hq
          · omega
          · exact begun (h q (List.mem_cons_of_mem _ hq)).2.2.2 sp z (l q hq)
  intro L ne hp h
  obtain ⟨S, s, g, l⟩ := key L ne h
  have := cnt_one (held own S) m L hp l g (fun _ => true) (fun _ _ _ _ => rfl)
  rw [List.filter_eq_self.mpr (fun _ _ => rfl)] at this
  exact ⟨S, s, this⟩

end J
namespace J
open PySem PySem.Spec PyProof.Rows L2
--plain
/-! ### the own parts, part by part -/
def intD : PyData → Option Int
  | .int n => some n
  | _ => none
def intsD (xs : List PyData) : List Int := xs.filterMap intD
def ownD : PyData → List Int
  | .tuple xs => intsD xs
  | _ => []
def ownsL : List Exp → Int → List (List Int)
  | [], _ => []
  | e :: es, b => e.own b ++ ownsL es (b + e.cnt)
theorem part_own : ∀ (e : Exp) (ps : List PyData), (e.part ps).2.map ownD = ps.map ownD ++ e.own ps.length ∧ intsD [(e.part ps).1] = e.rt ps.length
  | .num _, ps => by simp [Exp.part, Exp.own, Exp.rt, Exp.cnt, intsD, intD]
  | .fld _, ps => by simp [Exp.part, Exp.own, Exp.rt, Exp.cnt, intsD, intD]
  | .plc k n, ps => by simp [Exp.part, Exp.own, Exp.rt, Exp.cnt, intsD, intD, ownD, selD]
  | .mrk k n, ps => by simp [Exp.part, Exp.own, Exp.rt, Exp.cnt, intsD, intD, ownD, selD]
  | .cell a, ps => by
    obtain ⟨h1, h2⟩ := part_own a ps
    have l := a.part_len ps
    constructor
    · rw [Exp.part, Exp.own, List.map_append, h1, List.append_assoc]
      congr 2
      show [intsD [.str "cell", (a.part ps).1]] = _
      rw [← h2]; rfl
    · show [((a.part ps).2.length : Int)] = _
      rw [l, Exp.rt, if_neg (by simp [Exp.cnt])]
      congr 1; simp [Exp.cnt]; omega
  | .two o a c, ps => by
    obtain ⟨h1, h2⟩ := part_own a ps
    obtain ⟨h3, h4⟩ := part_own c (a.part ps).2
    have l := a.part_len ps
    have l2 := c.part_len (a.part ps).2
    have e : ((ps.length + a.cnt : Nat) : Int) = (ps.length : Int) + a.cnt := by omega
    rw [l, e] at h3 h4
    constructor
    · rw [Exp.part, Exp.own, List.map_append, h3, h1]
      simp only [List.append_assoc]
      congr 3
      show [intsD [.str o, (a.part ps).1, (c.part (a.part ps).2).1]] = _
      rw [← h2, ← h4]
      show [intsD ([(a.part ps).1] ++ [(c.part (a.part ps).2).1])] = _
      unfold intsD; rw [List.filterMap_append]
    · show [((c.part (a.part ps).2).2.length : Int)] = _
      rw [l2, l, Exp.rt, if_neg (by simp [Exp.cnt])]
      congr 1; simp [Exp.cnt]; omega
theorem part_rt {e : Exp} (h : 0 < e.cnt) (ps : List PyData) : (e.part ps).1 = .int ((ps.length : Int) + e.cnt - 1) := by
  have h2 := (part_own e ps).2
  unfold Exp.rt at h2
  rw [if_neg (by omega)] at h2
  cases e with
  | num => simp [Exp.cnt] at h
  | fld => simp [Exp.cnt] at h
  | plc k n => simp [Exp.part, Exp.cnt]
  | mrk k n => simp [Exp.part, Exp.cnt]
  | cell a =>
    have l := a.part_len ps
    show PyData.int _ = _
    congr 1; rw [l]; simp [Exp.cnt]; omega
  | two o a c =>
    have l := a.part_len ps
    have l2 := c.part_len (a.part ps).2
    show PyData.int _ = _
    congr 1; rw [l2, l]; simp [Exp.cnt]; omega
theorem ownsL_app : ∀ (es fs : List Exp) (b : Int), ownsL (es ++ fs) b = ownsL es b ++ ownsL fs (b + cnts es)
  | [], fs, b => by simp [ownsL, cnts]
  | e :: es, fs, b => by
    rw [List.cons_append, ownsL, ownsL_app es, ownsL, cnts, List.append_assoc]
    congr 3; omega
theorem ownsL_len : ∀ (es : List Exp) (b : Int), (ownsL es b).length = cnts es
  | [], _ => rfl
  | e :: es, b => by rw [ownsL, List.length_append, own_len, ownsL_len es, cnts]
theorem parts_own : ∀ (es : List Exp) (ps : List PyData), (parts es ps).2.map ownD = ps.map ownD ++ ownsL es ps.length
  | [], ps => by simp [parts, ownsL]
  | e :: es, ps => by
    rw [parts, parts_own es, (part_own e ps).1, ownsL, List.append_assoc, e.part_len]
    congr 3
def restsL (ss : List SetE) : List Exp := ss.flatMap SetE.rests
theorem proots_own : ∀ (ss : List SetE) (ps : List PyData), (proots ss ps).2.map ownD = ps.map ownD ++ ownsL (restsL ss) ps.length
  | [], ps => by simp [proots, restsL, ownsL]
  | s :: ss, ps => by
    have e : restsL (s :: ss) = s.rests ++ restsL ss := List.flatMap_cons
    rw [proots, proots_own ss, parts_own, List.append_assoc, e, ownsL_app, parts_len]
    congr 3
/-- the own parts of the part x -/
def ownF (ss : List SetE) (x : Int) : List Int := if 0 ≤ x then ((proots ss []).2.map ownD).getD x.toNat [] else []
theorem ownF_at {ss : List SetE} {i : Nat} {d : PyData} (h : (proots ss []).2[i]? = some d) : ownF ss i = ownD d := by
  unfold ownF
  rw [if_pos (by omega), List.getD_eq_getElem?_getD, Int.toNat_natCast, List.getElem?_map, h]; rfl
theorem ownsL_tr {es : List Exp} {b : Int} {own : Int → List Int} (h : ∀ (i : Nat) (l : List Int), (ownsL es b)[i]? = some l → own (b + i) = l) : ∀ p ∈ offs es b, Tr own p.1 p.2 := by
  induction es generalizing b with
  | nil => intro p hp; exact (List.not_mem_nil hp).elim
  | cons e es ih =>
    intro p hp
    rcases List.mem_cons.mp hp with rfl | hp
    · intro i l hi
      exact h i l (by rw [ownsL, List.getElem?_append_left (List.getElem?_eq_some_iff.mp hi).1]; exact hi)
    · refine ih (fun i l hi => ?_) p hp
      have := h (e.cnt + i) l (by rw [ownsL, List.getElem?_append_right (by rw [own_len]; omega), own_len, Nat.add_sub_cancel_left]; exact hi)
      rw [← this]; congr 1; omega
theorem ownF_tr (ss : List SetE) : ∀ p ∈ offs (restsL ss) 0, Tr (ownF ss) p.1 p.2 := by
  refine ownsL_tr fun i l hi => ?_
  have e := proots_own ss []
  rw [List.map_nil, List.nil_append] at e
  rw [List.length_nil] at e
  unfold ownF
  rw [if_pos (by omega), e, List.getD_eq_getElem?_getD, Int.zero_add, Int.toNat_natCast]
  show ((ownsL (restsL ss) 0)[i]?).getD [] = l
  rw [hi]; rfl
theorem proots_cnt (ss : List SetE) : (proots ss []).2.length = cnts (restsL ss) := by
  have e := congrArg List.length (proots_own ss [])
  rw [List.length_map, List.map_nil, List.nil_append, ownsL_len] at e
  exact e
/-- each part is used once at most -/
theorem own_once {own : Int → List Int} : ∀ (e : Exp) (b : Int), Tr own e b → (∀ x, b ≤ x → x < b + e.cnt → (own x).Nodup) ∧ ∀ x z y, b ≤ x → x < b + e.cnt → b ≤ z → z < b + e.cnt → y ∈ own x → y ∈ own z → x = z
  | .num _, b, _ => ⟨fun x h1 h2 => by simp [Exp.cnt] at h2; omega, fun x z y h1 h2 => by simp [Exp.cnt] at h2; omega⟩
  | .fld _, b, _ => ⟨fun x h1 h2 => by simp [Exp.cnt] at h2; omega, fun x z y h1 h2 => by simp [Exp.cnt] at h2; omega⟩
  | .plc _ _, b, t => by
    have e0 : own b = [] := by have := t 0 [] rfl; simpa using this
    refine ⟨fun x h1 h2 => ?_, fun x z y h1 h2 h3 h4 _ _ => ?_⟩
    · simp [Exp.cnt] at h2
      rw [show x = b by omega, e0]; exact List.nodup_nil
    · simp [Exp.cnt] at h2 h4; omega
  | .mrk _ _, b, t => by
    have e0 : own b = [] := by have := t 0 [] rfl; simpa using this
    refine ⟨fun x h1 h2 => ?_, fun x z y h1 h2 h3 h4 _ _ => ?_⟩
    · simp [Exp.cnt] at h2
      rw [show x = b by omega, e0]; exact List.nodup_nil
    · simp [Exp.cnt] at h2 h4; omega
  | .cell a, b, t => by
    obtain ⟨ta, tr⟩ := tr_cell t
    obtain ⟨n, u⟩ := own_once a b ta
    have c0 : ((Exp.cell a).cnt : Int) = a.cnt + 1 := by simp [Exp.cnt]
    rw [c0]
    have no : ∀ x y, b ≤ x → x < b + a.cnt → y ∈ own x → y ∈ own (b + a.cnt) → False := fun x y h1 h2 hy hy' => by
      rw [tr] at hy'
      have := rt_mem hy'
      have := own_sub a b ta x h1 h2 y hy
      omega
    refine ⟨fun x h1 h2 => ?_, fun x z y h1 h2 h3 h4 hx hz => ?_⟩
    · by_cases q : x < b + a.cnt
      · exact n x h1 q
      · rw [show x = b + a.cnt by omega, tr]; unfold Exp.rt
        by_cases c : a.cnt = 0 <;> simp [c]
    · by_cases q : x < b + a.cnt
      · by_cases q2 : z < b + a.cnt
        · exact u x z y h1 q h3 q2 hx hz
        · exact (no x y h1 q hx (by rw [show b + a.cnt = z by omega]; exact hz)).elim
      · by_cases q2 : z < b + a.cnt
        · exact (no z y h3 q2 hz (by rw [show b + a.cnt = x by omega]; exact hx)).elim
        · omega
  | .two o a c, b, t => by
    obtain ⟨ta, tc, tr⟩ := tr_two t
    obtain ⟨n, u⟩ := own_once a b ta
    obtain ⟨n2, u2⟩ := own_once c (b + a.cnt) tc
    have c0 : ((Exp.two o a c).cnt : Int) = a.cnt + c.cnt + 1 := by simp [Exp.cnt]
    rw [c0]
    have no : ∀ x y, b ≤ x → x < b + a.cnt + c.cnt → y ∈ own x → y ∈ own (b + a.cnt + c.cnt) → False := fun x y h1 h2 hy hy' => by
      rw [tr] at hy'
      by_cases q : x < b + a.cnt
      · have := own_sub a b ta x h1 q y hy
        rcases List.mem_append.mp hy' with g | g <;> have := rt_mem g <;> omega
      · have := own_sub c (b + a.cnt) tc x (by omega) h2 y hy
        rcases List.mem_append.mp hy' with g | g <;> have := rt_mem g <;> omega
    refine ⟨fun x h1 h2 => ?_, fun x z y h1 h2 h3 h4 hx hz => ?_⟩
    · by_cases q : x < b + a.cnt
      · exact n x h1 q
      · by_cases q2 : x < b + a.cnt + c.cnt
        · exact n2 x (by omega) q2
        · rw [show x = b + a.cnt + c.cnt by omega, tr]
          refine List.nodup_append.mpr ⟨?_, ?_, fun y h1 z h2 => ?_⟩
          · unfold Exp.rt
            by_cases c : a.cnt = 0 <;> simp [c]
          · unfold Exp.rt
            by_cases k : c.cnt = 0 <;> simp [k]
          · have := rt_mem h1
            have := rt_mem h2
            omega
    · have mid : ∀ x z, b ≤ x → x < b + a.cnt + c.cnt → b ≤ z → z < b + a.cnt + c.cnt → y ∈ own x → y ∈ own z → x = z := fun x z h1 h2 h3 h4 hx hz => by
        by_cases q : x < b + a.cnt
        · have := own_sub a b ta x h1 q y hx
          by_cases q2 : z < b + a.cnt
          · exact u x z y h1 q h3 q2 hx hz
          · have := own_sub c (b + a.cnt) tc z (by omega) (by omega) y hz
            omega
        · have := own_sub c (b + a.cnt) tc x (by omega) (by omega) y hx
          by_cases q2 : z < b + a.cnt
          · have := own_sub a b ta z h3 q2 y hz
            omega
          · exact u2 x z y (by omega) (by omega) (by omega) (by omega) hx hz
      by_cases q : x < b + a.cnt + c.cnt
      · by_cases q2 : z < b + a.cnt + c.cnt
        · exact mid x z h1 q h3 q2 hx hz
        · exact (no x y h1 q hx (by rw [show b + a.cnt + c.cnt = z by omega]; exact hz)).elim
      · by_cases q2 : z < b + a.cnt + c.cnt
        · exact (no z y h3 q2 hz (by rw [show b + a.cnt + c.cnt = x by omega]; exact hx)).elim
        · omega
/-- all that is known of the own parts -/
structure OwnOk (own : Int → List Int) (n : Int) : Prop where
  lt : ∀ x, 0 ≤ x → x < n → ∀ y ∈ own x, 0 ≤ y ∧ y < x
  nd : ∀ x, 0 ≤ x → x < n → (own x).Nodup
  once : ∀ x z y, 0 ≤ x → x < n → 0 ≤ z → z < n → y ∈ own x → y ∈ own z → x = z
theorem ownF_ok (ss : List SetE) : OwnOk (ownF ss) (cnts (restsL ss)) := by
  have tr := ownF_tr ss
  refine ⟨fun x h1 h2 y hy => ?_, fun x h1 h2 => ?_, fun x z y h1 h2 h3 h4 hx hz => ?_⟩
  · obtain ⟨p, hp, q1, q2⟩ := offs_in (es := restsL ss) (b := 0) h1 (by omega)
    have := own_sub p.1 p.2 (tr p hp) x q1 q2 y hy
    have := offs_ge hp
    omega
  · obtain ⟨p, hp, q1, q2⟩ := offs_in (es := restsL ss) (b := 0) h1 (by omega)
    exact (own_once p.1 p.2 (tr p hp)).1 x q1 q2
  · obtain ⟨p, hp, q1, q2⟩ := offs_in (es := restsL ss) (b := 0) h1 (by omega)
    obtain ⟨r, hr, q3, q4⟩ := offs_in (es := restsL ss) (b := 0) h3 (by omega)
    have a := own_sub p.1 p.2 (tr p hp) x q1 q2 y hx
    have b := own_sub r.1 r.2 (tr r hr) z q3 q4 y hz
    have e : p = r := by
      refine Classical.byContradiction fun ne => ?_
      have ap : ∀ (L : List (Exp × Int)), L.Pairwise Apart → p ∈ L → r ∈ L → p ≠ r → Apart p r := fun L => by
        induction L with
        | nil => intro _ h; exact (List.not_mem_nil h).elim
        | cons q L ih =>
          intro hp h1 h2 ne
          obtain ⟨a, b⟩ := List.pairwise_cons.mp hp
          rcases List.mem_cons.mp h1 with e1 | h1
          · rcases List.mem_cons.mp h2 with e2 | h2
            · exact (ne (e1.trans e2.symm)).elim
            · rw [e1]; exact a _ h2
          · rcases List.mem_cons.mp h2 with e2 | h2
            · rw [e2]; exact (a _ h1).symm
            · exact ih b h1 h2 ne
      have := ap _ offs_apart hp hr ne
      rcases this with z | z <;> omega
    subst e
    exact (own_once p.1 p.2 (tr p hp)).2 x z y q1 q2 q3 q4 hx hz

end J
namespace J
open PySem PySem.Spec PyProof.Rows L2
--plain
/-! ### orders that are, and that are none -/
def ordB (own : Int → List Int) (n : Int) : List (Option Int) → List Int → Bool
  | [], _ => true
  | none :: _, _ => false
  | some x :: r, seen => decide (0 ≤ x ∧ x ≤ n - 1) && (!decide (x ∈ seen) && ((own x).all (fun y => decide (y ∈ seen)) && ordB own n r (x :: seen)))
theorem ordB_some {own : Int → List Int} {n x : Int} {r : List (Option Int)} {seen : List Int} : ordB own n (some x :: r) seen = (decide (0 ≤ x ∧ x ≤ n - 1) && (!decide (x ∈ seen) && ((own x).all (fun y => decide (y ∈ seen)) && ordB own n r (x :: seen)))) := by rw [ordB]
def isOrdB (own : Int → List Int) (n : Int) (ws : List (Option Int)) : Bool := decide ((ws.length : Int) = n) && ordB own n ws []
theorem ordB_val {own : Int → List Int} {n : Int} : ∀ (ws : List (Option Int)) (seen : List Int), Val own seen → ordB own n ws seen = true → ∃ l : List Int, ws = l.map some ∧ Val own (l.reverse ++ seen) ∧ ∀ x ∈ l, 0 ≤ x ∧ x < n
  | [], seen, v, _ => ⟨[], rfl, v, fun _ h => (List.not_mem_nil h).elim⟩
  | none :: _, _, _, h => by cases h
  | some x :: r, seen, v, h => by
    unfold ordB at h
    simp only [Bool.and_eq_true, decide_eq_true_eq, Bool.not_eq_true', decide_eq_false_iff_not, List.all_eq_true] at h
    obtain ⟨h1, h2, h3, h4⟩ := h
    obtain ⟨l, e, vl, b⟩ := ordB_val r (x :: seen) ⟨h2, h3, v⟩ h4
    refine ⟨x :: l, by rw [e]; rfl, by rw [List.reverse_cons, List.append_assoc]; exact vl, fun y hy => ?_⟩
    rcases List.mem_cons.mp hy with rfl | hy
    · omega
    · exact b y hy
theorem val_app {own : Int → List Int} : ∀ {l m : List Int}, Val own (l ++ m) → Val own m
  | [], _, v => v
  | _ :: _, _, v => val_app v.2.2
theorem val_ordB {own : Int → List Int} {n : Int} : ∀ (l seen : List Int), Val own (l.reverse ++ seen) → (∀ x ∈ l, 0 ≤ x ∧ x < n) → ordB own n (l.map some) seen = true
  | [], _, _, _ => rfl
  | x :: l, seen, v, b => by
    rw [List.reverse_cons, List.append_assoc] at v
    have vx : Val own (x :: seen) := val_app v
    have ih := val_ordB l (x :: seen) v (fun y hy => b y (List.mem_cons_of_mem _ hy))
    have := b x List.mem_cons_self
    rw [List.map_cons]
    unfold ordB
    simp only [Bool.and_eq_true, decide_eq_true_eq, Bool.not_eq_true', decide_eq_false_iff_not, List.all_eq_true]
    exact ⟨by omega, vx.1, vx.2.1, ih⟩
structure Full (own : Int → List Int) (n : Int) (o : List Int) : Prop where
  val : Val own o.reverse
  mem : ∀ x, x ∈ o ↔ 0 ≤ x ∧ x < n
  len : (o.length : Int) = n
theorem Full.ord {own : Int → List Int} {n : Int} {o : List Int} (h : Full own n o) : isOrdB own n (o.map some) = true := by
  unfold isOrdB
  rw [List.length_map, decide_eq_true h.len, Bool.true_and]
  exact val_ordB o [] (by rw [List.append_nil]; exact h.val) (fun x hx => (h.mem x).mp hx)
/-- how many are held -/
theorem filter_one {l : List Int} {a : Int} (n : l.Nodup) (h : a ∈ l) : (l.filter (fun y => !decide (y = a))).length + 1 = l.length := by
  induction l with
  | nil => exact (List.not_mem_nil h).elim
  | cons b l ih =>
    obtain ⟨n1, n2⟩ := List.nodup_cons.mp n
    rw [List.filter_cons, List.length_cons]
    by_cases e : b = a
    · subst e
      rw [decide_eq_true rfl, if_neg (by decide)]
      rw [List.filter_eq_self.mpr]
      intro y hy
      have : y ≠ b := fun z => n1 (by rw [← z]; exact hy)
      simp [this]
    · have ha : a ∈ l := by
        rcases List.mem_cons.mp h with g | g
        · exact absurd g.symm e
        · exact g
      have := ih n2 ha
      rw [decide_eq_false e, if_pos (by decide), List.length_cons]
      omega
theorem filter_cnt : ∀ (o l : List Int), o.Nodup → l.Nodup → (∀ y ∈ o, y ∈ l) → (l.filter (fun y => !decide (y ∈ o))).length + o.length = l.length
  | [], l, _, _, _ => by
    rw [List.filter_eq_self.mpr (fun y _ => by simp)]; rfl
  | a :: o, l, n, m, s => by
    obtain ⟨n1, n2⟩ := List.nodup_cons.mp n
    have ih := filter_cnt o l n2 m (fun y hy => s y (List.mem_cons_of_mem _ hy))
    have e : l.filter (fun y => !decide (y ∈ a :: o)) = (l.filter (fun y => !decide (y ∈ o))).filter (fun y => !decide (y = a)) := by
      rw [List.filter_filter]
      apply List.filter_congr
      intro y _
      by_cases h1 : y = a <;> by_cases h2 : y ∈ o <;> simp [h1, h2]
    have ma : a ∈ l.filter (fun y => !decide (y ∈ o)) := List.mem_filter.mpr ⟨s a List.mem_cons_self, by simp [n1]⟩
    have := filter_one (m.filter _) ma
    rw [e, List.length_cons]
    omega
theorem held_sub {own : Int → List Int} : ∀ {R : List Int} {y : Int}, y ∈ held own R → y ∈ R
  | [], _, h => (List.not_mem_nil h).elim
  | x :: r, y, h => by
    rw [held] at h
    rcases List.mem_cons.mp h with e | h
    · rw [e]; exact List.mem_cons_self
    · exact List.mem_cons_of_mem _ (held_sub (List.mem_filter.mp h).1)
theorem held_nodup {own : Int → List Int} : ∀ {R : List Int}, Val own R → (held own R).Nodup
  | [], _ => List.nodup_nil
  | x :: r, v => by
    rw [held]
    exact List.nodup_cons.mpr ⟨fun h => v.1 (held_sub (List.mem_filter.mp h).1), (held_nodup v.2.2).filter _⟩
theorem held_mem {own : Int → List Int} : ∀ {R : List Int} {y : Int}, y ∈ R → (∀ z ∈ R, y ∉ own z) → y ∈ held own R
  | [], _, h, _ => (List.not_mem_nil h).elim
  | x :: r, y, h, k => by
    rw [held]
    rcases List.mem_cons.mp h with e | h
    · rw [e]; exact List.mem_cons_self
    · exact List.mem_cons_of_mem _ (List.mem_filter.mpr ⟨held_mem h (fun z hz => k z (List.mem_cons_of_mem _ hz)), by simp [k x List.mem_cons_self]⟩)
theorem held_cnt {own : Int → List Int} {n : Int} (k : OwnOk own n) {x : Int} {r : List Int} (v : Val own (x :: r)) (b : ∀ y ∈ x :: r, 0 ≤ y ∧ y < n) : ((held own (x :: r)).length : Int) = ((held own r).length : Int) + 1 - (own x).length := by
  have bx := b x List.mem_cons_self
  have sub : ∀ y ∈ own x, y ∈ held own r := fun y hy => held_mem (v.2.1 y hy) fun z hz hyz => by
    have bz := b z (List.mem_cons_of_mem _ hz)
    have := k.once x z y bx.1 bx.2 bz.1 bz.2 hy hyz
    exact v.1 (by rw [this]; exact hz)
  have := filter_cnt (own x) (held own r) (k.nd x bx.1 bx.2) (held_nodup v.2.2) sub
  rw [held, List.length_cons]
  omega
/-- the counts, one by one -/
def cnts' (own : Int → List Int) (o : List Int) (i : Nat) : Int := ((held own (o.take (i + 1)).reverse).length : Int)
def heldL (own : Int → List Int) (o : List Int) : List Int := (List.range o.length).map (cnts' own o)
theorem heldL_len (own : Int → List Int) (o : List Int) : (heldL own o).length = o.length := by unfold heldL; rw [List.length_map, List.length_range]
theorem rev_snoc {o : List Int} {i : Nat} {x : Int} (h : o[i]? = some x) : (o.take (i + 1)).reverse = x :: (o.take i).reverse := by rw [take_snoc h, List.reverse_append]; rfl
theorem heldL_take (own : Int → List Int) (o : List Int) {i : Nat} (h : i < o.length) : (heldL own o).take (i + 1) = (heldL own o).take i ++ [cnts' own o i] := by
  have : (heldL own o)[i]? = some (cnts' own o i) := by
    unfold heldL
    rw [List.getElem?_map, List.getElem?_range h]; rfl
  exact take_snoc this
/-- the greatest of the counts is at least what is needed -/
theorem heldL_max {own : Int → List Int} {o : List Int} {m : Int} {k : Nat} (hm : ∀ y ∈ 0 :: heldL own o, y ≤ m) (h : ∃ S, S <:+ o.reverse ∧ k ≤ (held own S).length) : (k : Int) ≤ m := by
  obtain ⟨S, s, l⟩ := h
  obtain ⟨A, hA⟩ := s
  have e : o = S.reverse ++ A.reverse := by
    have := congrArg List.reverse hA
    rw [List.reverse_reverse, List.reverse_append] at this
    exact this.symm
  cases S with
  | nil =>
    have := hm 0 List.mem_cons_self
    have : (held own []).length = 0 := rfl
    omega
  | cons x r =>
    have hl : r.length < o.length := by rw [e, List.length_append, List.length_reverse, List.length_cons]; omega
    have c : cnts' own o r.length = ((held own (x :: r)).length : Int) := by
      unfold cnts'
      rw [e, List.take_append_of_le_length (by rw [List.length_reverse, List.length_cons]; exact Nat.le_refl _), List.take_of_length_le (by rw [List.length_reverse, List.length_cons]; exact Nat.le_refl _), List.reverse_reverse]
    have := hm (cnts' own o r.length) (List.mem_cons_of_mem _ (List.mem_map.mpr ⟨r.length, List.mem_range.mpr hl, rfl⟩))
    omega
/-! things that are no orders -/
theorem bad_len {own : Int → List Int} {n : Int} {ws : List (Option Int)} (h : (ws.length : Int) ≠ n) : isOrdB own n ws = false := by
  unfold isOrdB; rw [decide_eq_false h]; rfl
theorem bad_by {own : Int → List Int} {n : Int} {ws : List (Option Int)} (h : ∀ l : List Int, ws = l.map some → Val own l.reverse → (∀ x ∈ l, 0 ≤ x ∧ x < n) → False) : isOrdB own n ws = false := by
  unfold isOrdB
  cases e : ordB own n ws [] with
  | false => rw [Bool.and_false]
  | true =>
    obtain ⟨l, e1, v, b⟩ := ordB_val ws [] trivial e
    rw [List.append_nil] at v
    exact (h l e1 v b).elim
theorem bad_none {own : Int → List Int} {n : Int} {ws : List (Option Int)} (h : none ∈ ws) : isOrdB own n ws = false := bad_by fun l e _ _ => by
  rw [e] at h
  obtain ⟨x, _, hx⟩ := List.mem_map.mp h
  cases hx
theorem map_some_inj {l m : List Int} (h : l.map some = m.map some) : l = m := by
  have := congrArg (List.filterMap id) h
  simpa using this
theorem bad_out {own : Int → List Int} {n : Int} {l : List Int} {x : Int} (h : x ∈ l) (k : x < 0 ∨ n ≤ x) : isOrdB own n (l.map some) = false := bad_by fun l' e _ b => by
  rw [map_some_inj e] at h
  have := b x h
  omega
theorem rev_nodup {l : List Int} (h : l.reverse.Nodup) : l.Nodup := (List.pairwise_reverse.mp h).imp fun g => g.symm
theorem bad_twice {own : Int → List Int} {n : Int} {l : List Int} (h : ¬ l.Nodup) : isOrdB own n (l.map some) = false := bad_by fun l' e v _ => by
  rw [map_some_inj e] at h
  exact h (rev_nodup (val_nodup v))
theorem val_at {own : Int → List Int} : ∀ {A B : List Int} {x y : Int}, Val own (A ++ x :: B) → y ∈ own x → y ∈ B
  | [], _, _, _, v, h => v.2.1 _ h
  | _ :: _, _, _, _, v, h => val_at v.2.2 h
/-- own part y stands at there, behind x at here -/
theorem bad_swap {own : Int → List Int} {n : Int} {l : List Int} {x y : Int} {i j : Nat} (hx : l[i]? = some x) (hy : l[j]? = some y) (hij : i < j) (h : y ∈ own x) : isOrdB own n (l.map some) = false := bad_by fun l' e v _ => by
  have e := map_some_inj e
  subst e
  obtain ⟨hi, exi⟩ := List.getElem?_eq_some_iff.mp hx
  have split : l = l.take i ++ x :: l.drop (i + 1) := by
    rw [← exi, List.getElem_cons_drop, List.take_append_drop]
  have vr : Val own ((l.drop (i + 1)).reverse ++ x :: (l.take i).reverse) := by
    have : l.reverse = (l.drop (i + 1)).reverse ++ x :: (l.take i).reverse := by
      conv => lhs; rw [split]
      simp
    rw [← this]; exact v
  have hb := List.mem_reverse.mp (val_at vr h)
  have nd : l.Nodup := rev_nodup (val_nodup v)
  obtain ⟨m, hm, em⟩ := List.getElem_of_mem hb
  rw [List.length_take] at hm
  rw [List.getElem_take] at em
  obtain ⟨hj, ej⟩ := List.getElem?_eq_some_iff.mp hy
  have := (List.getElem_inj (h₀ := by omega) (h₁ := hj) nd).mp (em.trans ej.symm)
  omega

end J
namespace J
open PySem PySem.Spec PyProof.Rows L2
local macro_rules | `(tactic| walk_at "cls") => `(tactic| first
  | with_reducible exact Facts.cl_Parts)
local macro_rules | `(tactic| walk_at "na") => `(tactic| first
  | with_reducible exact Facts.na_Parts_rows)
local macro_rules | `(tactic| walk_at "ty") => `(tactic| first
  | with_reducible exact ty_int
  | with_reducible exact ty_bl
  | with_reducible exact ty_str
  | with_reducible exact ty_non
  | ((with_reducible refine' ty_lst ?vv); (case vv => walk_at "tr"))
  | ((with_reducible refine' ty_sqT ?vv); (case vv => walk_at "tr"))
  | ((with_reducible refine' ty_dic ?vv); (case vv => walk_at "tr")))
local macro_rules | `(tactic| walk_at "ix") => `(tactic| first | exact at0 | exact at1 | exact at2 | assumption)
local macro_rules | `(tactic| walk_at "size") => `(tactic| first
  | assumption
  | (show _ < sizeLine; rw [sizeLine_eq]; (try simp only [List.length_cons, List.length_nil, List.length_append, List.length_map]); omega)
  | (show _ ≤ sizeLine; rw [sizeLine_eq]; (try simp only [List.length_cons, List.length_nil, List.length_append, List.length_map]); omega))
local macro_rules | `(tactic| walk_at "side") => `(tactic| first
  | assumption
  | ((with_reducible refine cdw ?_ ?_) <;> omega)
  | omega
  | (exact ⟨by omega, by omega⟩)
  | (exact Or.inl ⟨by omega, by omega⟩)
  | (exact Or.inr ⟨by omega, by omega⟩)
  | decide
  | (simp only [List.length_cons, List.length_nil, List.length_append, List.length_map]; omega)
  | (show _ ≤ _; decide))
local macro_rules | `(tactic| walk_at "as") => `(tactic| with_reducible assumption)
local macro_rules | `(tactic| walk_at "tr") => `(tactic| first
  | with_reducible assumption
  | with_reducible exact upd_same
  | ((with_reducible refine' SqL.of ?hh); (case hh => walk_at "as"))
  | ((with_reducible refine' SqT.of ?hh); (case hh => walk_at "as"))
  | ((with_reducible refine' Same.stm ?ee ?gg); (case ee => walk_at "as"); (case gg => walk_at "tr"))
  | ((with_reducible refine' Same.sqT ?ee ?gg); (case ee => walk_at "as"); (case gg => walk_at "tr"))
  | ((with_reducible refine' Same.sqL ?ee ?gg); (case ee => walk_at "as"); (case gg => walk_at "tr"))
  | ((with_reducible refine' Same.at ?ee ?gg); (case ee => walk_at "as"); (case gg => walk_at "tr"))
  | ((with_reducible refine' But.stm ?ee ?ff ?gg); (case ee => walk_at "as"); (case ff => walk_at "ne"); (case gg => walk_at "tr"))
  | ((with_reducible refine' But.tup ?ee ?ff ?gg); (case ee => walk_at "as"); (case ff => walk_at "tr1"); (case gg => walk_at "tr"))
  | ((with_reducible refine' But.sqT ?ee ?ff ?gg); (case ee => walk_at "as"); (case ff => walk_at "tr1"); (case gg => walk_at "tr"))
  | ((with_reducible refine' But.tupL ?ee ?ff ?gg); (case ee => walk_at "as"); (case ff => walk_at "tr1"); (case gg => walk_at "tr"))
  | ((with_reducible refine' But.sqTL ?ee ?ff ?gg); (case ee => walk_at "as"); (case ff => walk_at "tr1"); (case gg => walk_at "tr"))
  | ((with_reducible refine' But.sqL ?ee ?ff ?gg); (case ee => walk_at "as"); (case ff => walk_at "ne"); (case gg => walk_at "tr"))
  | ((with_reducible refine' But.at ?ee ?ff ?gg); (case ee => walk_at "as"); (case ff => walk_at "ne"); (case gg => walk_at "tr")))
local macro_rules | `(tactic| walk_at "ts") => `(tactic| first
  | with_reducible assumption
  | with_reducible exact TS.refl _
  | ((with_reducible refine' TS.trans ?gg (TS.of ?ee)); (case ee => walk_at "as"); (case gg => walk_at "ts"))
  | ((with_reducible refine' TS.trans ?gg (TS.butS ?ee ?ff)); (case ee => walk_at "as"); (case ff => walk_at "tr1"); (case gg => walk_at "ts"))
  | ((with_reducible refine' TS.trans ?gg (TS.butL ?ee ?ff)); (case ee => walk_at "as"); (case ff => walk_at "tr1"); (case gg => walk_at "ts"))
  | ((with_reducible refine' TS.trans ?gg (TS.butI ?ee ?ff)); (case ee => walk_at "as"); (case ff => walk_at "tr1"); (case gg => walk_at "ts")))
local macro_rules | `(tactic| walk_at "sm") => `(tactic| first
  | with_reducible assumption
  | with_reducible exact Same.refl _
  | ((with_reducible refine' Same.trans ?gg ?ee); (case ee => walk_at "as"); (case gg => walk_at "sm"))
  | ((with_reducible refine' But.new ?gg ?nn ?ee); (case ee => walk_at "as"); (case nn => walk_at "fr"); (case gg => walk_at "sm")))
local macro_rules | `(tactic| walk_at "fr") => `(tactic| first
  | with_reducible assumption
  | ((with_reducible refine' Same.back ?ee ?nn); (case nn => walk_at "as"); (case ee => walk_at "sm"))
  | ((with_reducible refine' But.back ?ee ?ff ?nn); (case nn => walk_at "as"); (case ff => walk_at "ne0"); (case ee => walk_at "bu")))
local macro_rules | `(tactic| walk_at "bu") => `(tactic| first
  | with_reducible assumption
  | with_reducible exact But.refl _ _
  | ((with_reducible refine' But.trans ?gg ?ee); (case ee => walk_at "as"); (case gg => walk_at "bu"))
  | ((with_reducible refine' But.trans ?gg (But.of ?ee)); (case ee => walk_at "as"); (case gg => walk_at "bu"))
  | ((with_reducible refine' But.new2 ?gg ?nn ?ee); (case ee => walk_at "as"); (case nn => walk_at "frB"); (case gg => walk_at "bu")))
local macro_rules | `(tactic| walk_at "frB") => `(tactic| first
  | with_reducible assumption
  | ((with_reducible refine' Same.back ?ee ?nn); (case nn => walk_at "as"); (case ee => walk_at "sm"))
  | ((with_reducible refine' But.back' ?ee ?ff ?nn); (case nn => walk_at "as"); (case ee => walk_at "bu"); (case ff => walk_at "tr1")))
local macro_rules | `(tactic| walk_at "tr1") => `(tactic| first
  | with_reducible assumption
  | ((with_reducible refine' Same.stm ?ee ?gg); (case ee => walk_at "as"); (case gg => walk_at "tr1"))
  | ((with_reducible refine' Same.at ?ee ?gg); (case ee => walk_at "as"); (case gg => walk_at "tr1"))
  | ((with_reducible refine' But.at ?ee ?ff ?gg); (case ee => walk_at "as"); (case ff => walk_at "ne0"); (case gg => walk_at "tr1"))
  | ((with_reducible refine' But.stm ?ee ?ff ?gg); (case ee => walk_at "as"); (case ff => walk_at "ne0"); (case gg => walk_at "tr1")))
local macro_rules | `(tactic| walk_at "ne0") => `(tactic| first
  | with_reducible assumption
  | (with_reducible apply Ne.symm; with_reducible assumption))
local macro_rules | `(tactic| walk_at "ne") => `(tactic| first
  | with_reducible assumption
  | (with_reducible apply Ne.symm; with_reducible assumption)
  | ((with_reducible refine' stm_ne ?hh ?nn); (case nn => walk_at "as"); (case hh => walk_at "tr1"))
  | ((with_reducible refine' ne_of_none ?hh ?nn); (case nn => walk_at "as"); (case hh => walk_at "tr1"))
  | ((with_reducible apply Ne.symm); (with_reducible refine' ne_of_none ?hh ?nn); (case nn => walk_at "as"); (case hh => walk_at "tr1")))
local macro_rules | `(tactic| walk_at "v") => `(tactic| first
  | with_reducible refine w_seq ?_
  | ((with_reducible refine' w_var ?vv ?_); (case vv => exact rfl))
  | with_reducible refine w_c ?_
  | with_reducible refine w_op ?_
  | with_reducible refine w_asg ?_
  | with_reducible refine w_gName ?_
  | with_reducible refine w_ret ?_
  | with_reducible refine w_ifS ?_
  | with_reducible refine w_drop ?_
  | with_reducible refine w_next ?_
  | with_reducible refine w_cons ?_
  | with_reducible refine w_nil ?_
  | with_reducible refine w_call ?_
  | with_reducible refine w_cb ?_
  | with_reducible refine w_rI0 ?_
  | with_reducible refine w_addI ?_
  | with_reducible refine w_eqI ?_
  | with_reducible refine w_neI ?_
  | with_reducible refine w_eqS ?_
  | with_reducible refine w_neS ?_
  | with_reducible refine w_eqB ?_
  | with_reducible refine w_neB ?_
  | with_reducible refine w_chain ?_
  | with_reducible refine w_test ?_
  | with_reducible refine w_tB ?_
  | with_reducible refine w_bl ?_
  | ((with_reducible refine' w_mulI ?vv ?_); (case vv => walk_at "side"))
  | ((with_reducible refine' w_rI ?vv ?_); (case vv => walk_at "side"))
  | with_reducible refine w_int1 ?_
  | with_reducible refine w_int1b ?_
  | with_reducible refine w_tup ?_
  | with_reducible refine w_lst ?_
  | with_reducible refine w_un ?_
  | with_reducible refine w_rU ?_
  | with_reducible refine w_not ?_
  | with_reducible refine w_notV ?_
  | with_reducible refine w_ifE ?_
  | with_reducible refine w_nT ?_
  | with_reducible refine w_nF ?_
  | with_reducible refine iteT ?_
  | with_reducible refine iteF ?_
  | ((with_reducible refine' w_ixT ?vv ?ww ?_); (case vv => walk_at "tr"); (case ww => walk_at "ix"))
  | ((with_reducible refine' w_ixL ?vv ?ww ?_); (case vv => walk_at "tr"); (case ww => walk_at "ix"))
  | with_reducible refine w_gSub ?_
  | ((with_reducible refine' w_setL ?vv ?ww ?_); (case vv => walk_at "tr"); (case ww => first | rfl | decide | assumption))
  | ((with_reducible refine' w_lenL ?vv ?_); (case vv => walk_at "tr"))
  | ((with_reducible refine' w_lenT ?vv ?_); (case vv => walk_at "tr"))
  | with_reducible refine w_max2 ?_
  | with_reducible refine w_max3 ?_
  | with_reducible refine w_din ?_
  | with_reducible refine w_dnotin ?_
  | with_reducible refine w_dput ?_
  | with_reducible refine w_min2 ?_
  | with_reducible refine w_bm ?_
  | with_reducible refine w_bm0 ?_
  | ((with_reducible refine' w_tyL ?vv ?_); (case vv => walk_at "tr"))
  | ((with_reducible refine' w_append ?vv ?ww ?_); (case vv => walk_at "tr"); (case ww => walk_at "size"))
  | ((with_reducible refine' w_size ?vv ?_); (case vv => walk_at "size"))
  | with_reducible refine w_forL ?_
  | with_reducible refine w_forT ?_
  | with_reducible refine w_forR1 ?_
  | with_reducible refine w_forR2 ?_
  | with_reducible refine w_lcL ?_
  | with_reducible refine w_lcT ?_
  | with_reducible refine w_lcR1 ?_
  | with_reducible refine w_yes ?_
  | with_reducible refine w_sl ?_
  | with_reducible refine w_noPart ?_
  | with_reducible refine w_part ?_
  | with_reducible refine w_int ?_
  | ((with_reducible refine' w_slL ?vv ?_); (case vv => walk_at "tr"))
  | ((with_reducible refine' w_seqL ?vv ?ww ?_); (case vv => walk_at "tr"); (case ww => rfl))
  | ((with_reducible refine' w_seqT ?vv ?ww ?_); (case vv => walk_at "tr"); (case ww => rfl))
  | with_reducible refine w_gNil ?_
  | with_reducible refine w_gCons ?_
  | with_reducible refine w_forZ ?_
  | with_reducible refine w_forM ?_
  | with_reducible refine w_forE ?_
  | with_reducible refine w_forV ?_
  | with_reducible refine w_lcZ ?_
  | with_reducible refine w_lcE ?_
  | ((with_reducible refine' w_isi (b := true) ?vv ?ww ?_); (case vv => walk_at "ty"); (case ww => decide +kernel))
  | ((with_reducible refine' w_isi (b := false) ?vv ?ww ?_); (case vv => walk_at "ty"); (case ww => decide +kernel))
  | with_reducible refine w_revL ?_
  | with_reducible refine w_pairN ?_
  | with_reducible refine w_pairC ?_
  | with_reducible refine w_dget ?_
  | with_reducible refine w_met ?_
  | ((with_reducible refine' w_metAt ?vv ?ww ?_); (case vv => walk_at "tr"); (case ww => rfl))
  | with_reducible refine w_mkI ?_
  | with_reducible refine w_fld ?_
  | ((with_reducible refine' w_fldAt ?vv ?cc ?nn ?ww ?_); (case vv => walk_at "tr"); (case cc => walk_at "cls"); (case nn => walk_at "na"); (case ww => rfl))
  | with_reducible refine w_sfld ?_
  | ((with_reducible refine' w_sfldAt ?vv ?cc ?nn ?ll ?ee ?_); (case vv => walk_at "tr"); (case cc => walk_at "cls"); (case nn => walk_at "na"); (case ll => simp); (case ee => rfl))
  | ((with_reducible refine' w_tupL ?vv ?_); (case vv => walk_at "tr"))
  | ((with_reducible refine' w_tupT ?vv ?_); (case vv => walk_at "tr"))
  | ((with_reducible refine' w_listL ?vv ?_); (case vv => walk_at "tr"))
  | ((with_reducible refine' w_listT ?vv ?_); (case vv => walk_at "tr"))
  | with_reducible refine w_tyS ?_
  | with_reducible refine w_retN ?_
  | with_reducible refine w_break ?_
  | with_reducible refine w_cont ?_)
local macro_rules | `(tactic| walk_at "w") => `(tactic| first
  | walk_at "v"
  | with_reducible refine w_or ?_
  | with_reducible refine w_and ?_
  | with_reducible refine w_andV ?_
  | with_reducible refine w_orV ?_)
local macro_rules | `(tactic| walk_at "wd") => `(tactic| first
  | walk_at "w"
  | ((with_reducible refine' w_decT ?vv ?_); (case vv => decide +kernel))
  | ((with_reducible refine' w_decF ?vv ?_); (case vv => decide +kernel)))
local macro_rules | `(tactic| walk_at "tz") => `(tactic| (intro S z; (repeat walk_at "w"); exact z))
local macro_rules | `(tactic| walk_at "wf") => `(tactic| first
  | walk_at "wd"
  | ((with_reducible refine' w_decF ?vv ?_); (case vv => with_reducible assumption)))
def Oth (t : String) : Prop := t = "bool" ∨ t = "NoneType" ∨ t = "list" ∨ t = "tuple" ∨ t = "dict"
/-- a whole number, or a thing of another kind -/
def Th (K : PySem.W.Frag) (H : Hp) (v : V) : Option Int → Prop
  | some n => v = .int n
  | none => (∃ z, v = .str z) ∨ ∃ t, Oth t ∧ TyX K H v (.type t)
theorem tyx_sm {K : PySem.W.Frag} {H H' : Hp} {v : V} {t : Value} (e : Same H H') (h : TyX K H v t) : TyX K H' v t := by
  cases h with
  | base b =>
    refine .base ?_
    cases b with
    | non => exact .non
    | bl x => exact .bl x
    | int i => exact .int i
    | str x => exact .str x
    | flt x => exact .flt x
    | lst g => exact .lst (e _ _ g)
    | frz g => exact .frz (e _ _ g)
    | tup g => exact .tup (e _ _ g)
    | dK g => exact .dK (e _ _ g)
    | dT g => exact .dT (e _ _ g)
    | ins g a b c d f => exact .ins (e _ _ g) a b c d f
  | byt b => exact .byt b
  | set g => exact .set (e _ _ g)
  | kList g c => exact .kList g c
  | kTuple g c => exact .kTuple g c
  | kDict g c => exact .kDict g c
  | fTuple g => exact .fTuple (e _ _ g)
  | fDict g => exact .fDict (e _ _ g)
theorem Th.sm {K : PySem.W.Frag} {H H' : Hp} {v : V} {wh : Option Int} (h : Th K H v wh) (e : Same H H') : Th K H' v wh := by
  cases wh with
  | some m => exact h
  | none =>
    rcases h with h | ⟨t, h1, h2⟩
    · exact .inl h
    · exact .inr ⟨t, h1, tyx_sm e h2⟩
def spWhole (K : PySem.W.Frag) : Sp := fun vs H Q _ => ∃ v wh, vs = [v] ∧ Th K H v wh ∧ Q (.bl wh.isSome) H
theorem len_is_whole {K : PySem.W.Frag} {vs H Q E} (h : spWhole K vs H Q E) : vs.length = 1 := by obtain ⟨_, _, rfl, _⟩ := h; rfl
def inB (wh : Option Int) (lo hi : Int) : Bool := match wh with
  | some n => decide (lo ≤ n ∧ n ≤ hi)
  | none => false
def spWithin (K : PySem.W.Frag) : Sp := fun vs H Q _ => ∃ v wh lo hi, vs = [v, .int lo, .int hi] ∧ Th K H v wh ∧ Q (.bl (inB wh lo hi)) H
theorem len_is_within {K : PySem.W.Frag} {vs H Q E} (h : spWithin K vs H Q E) : vs.length = 3 := by obtain ⟨_, _, _, _, rfl, _⟩ := h; rfl
section
variable {P : Program} {w : World} {K : PySem.W.Frag} {mg : Str → Option Value}
theorem ok_is_whole [c : Facts K mg] : Fn P w K mg "is_whole" 1 ["thing"] ((spWhole K)) := by
  obtain ⟨fd, F⟩ := c.d_is_whole
  refine Fn.mk' F c.g_is_whole sc_is_whole (k := 0) (fun vs H Q E h => ?_) (fun _ _ _ _ _ _ us hl => match us, hl with | [_], _ => rfl) (fun base cdv A outer s H vs Q E hr h => ?_)
  · exact len_is_whole h
  · have nd := sc_is_whole.nd
    have hu := hu_of hr
    refine ⟨_, (pss_one (ps_ret (pe_and (pe_callB (call_isiA (K := K) rfl) (by rfl) c.f_isinstance boot_isinstance (pa_cons (pv 0) (pa_cons (pe_bltn (v := .ty "int") (by rfl) c.f_int boot_int rfl) pa_nil))) (pe_one (pe_not (pe_callB (call_isiA (K := K) rfl) (by rfl) c.f_isinstance boot_isinstance (pa_cons (pv 0) (pa_cons (pe_bltn (v := .ty "bool") (by rfl) c.f_bool boot_bool rfl) pa_nil)))))))), ?_⟩
    try dsimp only [cxOf, Cx.nox, Cx.wish]
    obtain ⟨v, wh, rfl, hv, q⟩ := h
    cases wh with
    | some n =>
      cases hv
      repeat walk_at "w"
      exact q
    | none =>
      rcases hv with ⟨z, rfl⟩ | ⟨t, ho, ht⟩
      · repeat walk_at "w"
        exact q
      · rcases ho with rfl | rfl | rfl | rfl | rfl
        · repeat walk_at "w"
          refine w_isi (b := true) ht (by decide +kernel) ?_
          repeat walk_at "w"
          refine w_isi (b := true) ht (by decide +kernel) ?_
          repeat walk_at "w"
          exact q
        all_goals
          repeat walk_at "w"
          refine w_isi (b := false) ht (by decide +kernel) ?_
          repeat walk_at "w"
          exact q
theorem ok_is_within [c : Facts K mg] (G_is_whole : Fn P w K mg "is_whole" 1 ["thing"] ((spWhole K))) : Fn P w K mg "is_within" 2 ["thing", "low", "high"] ((spWithin K)) := by
  obtain ⟨fd, F⟩ := c.d_is_within
  refine Fn.mk' F c.g_is_within sc_is_within (k := 1) (fun vs H Q E h => ?_) (fun _ _ _ _ _ _ us hl => match us, hl with | [_, _, _], _ => rfl) (fun base cdv A outer s H vs Q E hr h => ?_)
  · exact len_is_within h
  · have nd := sc_is_within.nd
    have hu := hu_of hr
    have hr_is_whole : Room 1 _ := hr.mono (by omega)
    refine ⟨_, (pss_one (ps_ret (pe_and (pe_fn G_is_whole hr_is_whole (by rfl) (pa_cons (pv 0) pa_nil)) (pe_one (pe_chain op_le op_le (pv 1) (pv 0) (pv 2)))))), ?_⟩
    try dsimp only [cxOf, Cx.nox, Cx.wish]
    obtain ⟨v, wh, lo, hi, rfl, hv, q⟩ := h
    repeat walk_at "w"
    refine ⟨v, wh, rfl, hv, ?_⟩
    cases wh with
    | some n =>
      cases hv
      repeat walk_at "w"
      refine ite2 (fun _ => ?_) (fun h => (h rfl).elim)
      repeat walk_at "w"
      refine ite2 (fun h1 => ?_) (fun h1 => ?_)
      · rw [decide_eq_true_eq] at h1
        repeat walk_at "w"
        rw [show inB (some n) lo hi = decide (n ≤ hi) by unfold inB; simp [h1]] at q
        exact q
      · rw [decide_eq_true_eq] at h1
        rw [show inB (some n) lo hi = false by unfold inB; simp [h1]] at q
        exact q
    | none =>
      repeat walk_at "w"
      exact q
end

end J
namespace J
open PySem PySem.Spec PyProof.Rows L2
local macro_rules | `(tactic| walk_at "cls") => `(tactic| first
  | with_reducible exact Facts.cl_Parts)
local macro_rules | `(tactic| walk_at "na") => `(tactic| first
  | with_reducible exact Facts.na_Parts_rows)
local macro_rules | `(tactic| walk_at "ty") => `(tactic| first
  | with_reducible exact ty_int
  | with_reducible exact ty_bl
  | with_reducible exact ty_str
  | with_reducible exact ty_non
  | ((with_reducible refine' ty_lst ?vv); (case vv => walk_at "tr"))
  | ((with_reducible refine' ty_sqT ?vv); (case vv => walk_at "tr"))
  | ((with_reducible refine' ty_dic ?vv); (case vv => walk_at "tr")))
local macro_rules | `(tactic| walk_at "ix") => `(tactic| first | exact at0 | exact at1 | exact at2 | assumption)
local macro_rules | `(tactic| walk_at "size") => `(tactic| first
  | assumption
  | (show _ < sizeLine; rw [sizeLine_eq]; (try simp only [List.length_cons, List.length_nil, List.length_append, List.length_map]); omega)
  | (show _ ≤ sizeLine; rw [sizeLine_eq]; (try simp only [List.length_cons, List.length_nil, List.length_append, List.length_map]); omega))
local macro_rules | `(tactic| walk_at "side") => `(tactic| first
  | assumption
  | ((with_reducible refine cdw ?_ ?_) <;> omega)
  | omega
  | (exact ⟨by omega, by omega⟩)
  | (exact Or.inl ⟨by omega, by omega⟩)
  | (exact Or.inr ⟨by omega, by omega⟩)
  | decide
  | (simp only [List.length_cons, List.length_nil, List.length_append, List.length_map]; omega)
  | (show _ ≤ _; decide))
local macro_rules | `(tactic| walk_at "as") => `(tactic| with_reducible assumption)
local macro_rules | `(tactic| walk_at "tr") => `(tactic| first
  | with_reducible assumption
  | with_reducible exact upd_same
  | ((with_reducible refine' SqL.of ?hh); (case hh => walk_at "as"))
  | ((with_reducible refine' SqT.of ?hh); (case hh => walk_at "as"))
  | ((with_reducible refine' Same.stm ?ee ?gg); (case ee => walk_at "as"); (case gg => walk_at "tr"))
  | ((with_reducible refine' Same.sqT ?ee ?gg); (case ee => walk_at "as"); (case gg => walk_at "tr"))
  | ((with_reducible refine' Same.sqL ?ee ?gg); (case ee => walk_at "as"); (case gg => walk_at "tr"))
  | ((with_reducible refine' Same.at ?ee ?gg); (case ee => walk_at "as"); (case gg => walk_at "tr"))
  | ((with_reducible refine' But.stm ?ee ?ff ?gg); (case ee => walk_at "as"); (case ff => walk_at "ne"); (case gg => walk_at "tr"))
  | ((with_reducible refine' But.tup ?ee ?ff ?gg); (case ee => walk_at "as"); (case ff => walk_at "tr1"); (case gg => walk_at "tr"))
  | ((with_reducible refine' But.sqT ?ee ?ff ?gg); (case ee => walk_at "as"); (case ff => walk_at "tr1"); (case gg => walk_at "tr"))
  | ((with_reducible refine' But.tupL ?ee ?ff ?gg); (case ee => walk_at "as"); (case ff => walk_at "tr1"); (case gg => walk_at "tr"))
  | ((with_reducible refine' But.sqTL ?ee ?ff ?gg); (case ee => walk_at "as"); (case ff => walk_at "tr1"); (case gg => walk_at "tr"))
  | ((with_reducible refine' But.sqL ?ee ?ff ?gg); (case ee => walk_at "as"); (case ff => walk_at "ne"); (case gg => walk_at "tr"))
  | ((with_reducible refine' But.at ?ee ?ff ?gg); (case ee => walk_at "as"); (case ff => walk_at "ne"); (case gg => walk_at "tr")))
local macro_rules | `(tactic| walk_at "ts") => `(tactic| first
  | with_reducible assumption
  | with_reducible exact TS.refl _
  | ((with_reducible refine' TS.trans ?gg (TS.of ?ee)); (case ee => walk_at "as"); (case gg => walk_at "ts"))
  | ((with_reducible refine' TS.trans ?gg (TS.butS ?ee ?ff)); (case ee => walk_at "as"); (case ff => walk_at "tr1"); (case gg => walk_at "ts"))
  | ((with_reducible refine' TS.trans ?gg (TS.butL ?ee ?ff)); (case ee => walk_at "as"); (case ff => walk_at "tr1"); (case gg => walk_at "ts"))
  | ((with_reducible refine' TS.trans ?gg (TS.butI ?ee ?ff)); (case ee => walk_at "as"); (case ff => walk_at "tr1"); (case gg => walk_at "ts")))
local macro_rules | `(tactic| walk_at "sm") => `(tactic| first
  | with_reducible assumption
  | with_reducible exact Same.refl _
  | ((with_reducible refine' Same.trans ?gg ?ee); (case ee => walk_at "as"); (case gg => walk_at "sm"))
  | ((with_reducible refine' But.new ?gg ?nn ?ee); (case ee => walk_at "as"); (case nn => walk_at "fr"); (case gg => walk_at "sm")))
local macro_rules | `(tactic| walk_at "fr") => `(tactic| first
  | with_reducible assumption
  | ((with_reducible refine' Same.back ?ee ?nn); (case nn => walk_at "as"); (case ee => walk_at "sm"))
  | ((with_reducible refine' But.back ?ee ?ff ?nn); (case nn => walk_at "as"); (case ff => walk_at "ne0"); (case ee => walk_at "bu")))
local macro_rules | `(tactic| walk_at "bu") => `(tactic| first
  | with_reducible assumption
  | with_reducible exact But.refl _ _
  | ((with_reducible refine' But.trans ?gg ?ee); (case ee => walk_at "as"); (case gg => walk_at "bu"))
  | ((with_reducible refine' But.trans ?gg (But.of ?ee)); (case ee => walk_at "as"); (case gg => walk_at "bu"))
  | ((with_reducible refine' But.new2 ?gg ?nn ?ee); (case ee => walk_at "as"); (case nn => walk_at "frB"); (case gg => walk_at "bu")))
local macro_rules | `(tactic| walk_at "frB") => `(tactic| first
  | with_reducible assumption
  | ((with_reducible refine' Same.back ?ee ?nn); (case nn => walk_at "as"); (case ee => walk_at "sm"))
  | ((with_reducible refine' But.back' ?ee ?ff ?nn); (case nn => walk_at "as"); (case ee => walk_at "bu"); (case ff => walk_at "tr1")))
local macro_rules | `(tactic| walk_at "tr1") => `(tactic| first
  | with_reducible assumption
  | ((with_reducible refine' Same.stm ?ee ?gg); (case ee => walk_at "as"); (case gg => walk_at "tr1"))
  | ((with_reducible refine' Same.at ?ee ?gg); (case ee => walk_at "as"); (case gg => walk_at "tr1"))
  | ((with_reducible refine' But.at ?ee ?ff ?gg); (case ee => walk_at "as"); (case ff => walk_at "ne0"); (case gg => walk_at "tr1"))
  | ((with_reducible refine' But.stm ?ee ?ff ?gg); (case ee => walk_at "as"); (case ff => walk_at "ne0"); (case gg => walk_at "tr1")))
local macro_rules | `(tactic| walk_at "ne0") => `(tactic| first
  | with_reducible assumption
  | (with_reducible apply Ne.symm; with_reducible assumption))
local macro_rules | `(tactic| walk_at "ne") => `(tactic| first
  | with_reducible assumption
  | (with_reducible apply Ne.symm; with_reducible assumption)
  | ((with_reducible refine' stm_ne ?hh ?nn); (case nn => walk_at "as"); (case hh => walk_at "tr1"))
  | ((with_reducible refine' ne_of_none ?hh ?nn); (case nn => walk_at "as"); (case hh => walk_at "tr1"))
  | ((with_reducible apply Ne.symm); (with_reducible refine' ne_of_none ?hh ?nn); (case nn => walk_at "as"); (case hh => walk_at "tr1")))
local macro_rules | `(tactic| walk_at "v") => `(tactic| first
  | with_reducible refine w_seq ?_
  | ((with_reducible refine' w_var ?vv ?_); (case vv => exact rfl))
  | with_reducible refine w_c ?_
  | with_reducible refine w_op ?_
  | with_reducible refine w_asg ?_
  | with_reducible refine w_gName ?_
  | with_reducible refine w_ret ?_
  | with_reducible refine w_ifS ?_
  | with_reducible refine w_drop ?_
  | with_reducible refine w_next ?_
  | with_reducible refine w_cons ?_
  | with_reducible refine w_nil ?_
  | with_reducible refine w_call ?_
  | with_reducible refine w_cb ?_
  | with_reducible refine w_rI0 ?_
  | with_reducible refine w_addI ?_
  | with_reducible refine w_eqI ?_
  | with_reducible refine w_neI ?_
  | with_reducible refine w_eqS ?_
  | with_reducible refine w_neS ?_
  | with_reducible refine w_eqB ?_
  | with_reducible refine w_neB ?_
  | with_reducible refine w_chain ?_
  | with_reducible refine w_test ?_
  | with_reducible refine w_tB ?_
  | with_reducible refine w_bl ?_
  | ((with_reducible refine' w_mulI ?vv ?_); (case vv => walk_at "side"))
  | ((with_reducible refine' w_rI ?vv ?_); (case vv => walk_at "side"))
  | with_reducible refine w_int1 ?_
  | with_reducible refine w_int1b ?_
  | with_reducible refine w_tup ?_
  | with_reducible refine w_lst ?_
  | with_reducible refine w_un ?_
  | with_reducible refine w_rU ?_
  | with_reducible refine w_not ?_
  | with_reducible refine w_notV ?_
  | with_reducible refine w_ifE ?_
  | with_reducible refine w_nT ?_
  | with_reducible refine w_nF ?_
  | with_reducible refine iteT ?_
  | with_reducible refine iteF ?_
  | ((with_reducible refine' w_ixT ?vv ?ww ?_); (case vv => walk_at "tr"); (case ww => walk_at "ix"))
  | ((with_reducible refine' w_ixL ?vv ?ww ?_); (case vv => walk_at "tr"); (case ww => walk_at "ix"))
  | with_reducible refine w_gSub ?_
  | ((with_reducible refine' w_setL ?vv ?ww ?_); (case vv => walk_at "tr"); (case ww => first | rfl | decide | assumption))
  | ((with_reducible refine' w_lenL ?vv ?_); (case vv => walk_at "tr"))
  | ((with_reducible refine' w_lenT ?vv ?_); (case vv => walk_at "tr"))
  | with_reducible refine w_max2 ?_
  | with_reducible refine w_max3 ?_
  | with_reducible refine w_din ?_
  | with_reducible refine w_dnotin ?_
  | with_reducible refine w_dput ?_
  | with_reducible refine w_min2 ?_
  | with_reducible refine w_bm ?_
  | with_reducible refine w_bm0 ?_
  | ((with_reducible refine' w_tyL ?vv ?_); (case vv => walk_at "tr"))
  | ((with_reducible refine' w_append ?vv ?ww ?_); (case vv => walk_at "tr"); (case ww => walk_at "size"))
  | ((with_reducible refine' w_size ?vv ?_); (case vv => walk_at "size"))
  | with_reducible refine w_forL ?_
  | with_reducible refine w_forT ?_
  | with_reducible refine w_forR1 ?_
  | with_reducible refine w_forR2 ?_
  | with_reducible refine w_lcL ?_
  | with_reducible refine w_lcT ?_
  | with_reducible refine w_lcR1 ?_
  | with_reducible refine w_yes ?_
  | with_reducible refine w_sl ?_
  | with_reducible refine w_noPart ?_
  | with_reducible refine w_part ?_
  | with_reducible refine w_int ?_
  | ((with_reducible refine' w_slL ?vv ?_); (case vv => walk_at "tr"))
  | ((with_reducible refine' w_seqL ?vv ?ww ?_); (case vv => walk_at "tr"); (case ww => rfl))
  | ((with_reducible refine' w_seqT ?vv ?ww ?_); (case vv => walk_at "tr"); (case ww => rfl))
  | with_reducible refine w_gNil ?_
  | with_reducible refine w_gCons ?_
  | with_reducible refine w_forZ ?_
  | with_reducible refine w_forM ?_
  | with_reducible refine w_forE ?_
  | with_reducible refine w_forV ?_
  | with_reducible refine w_lcZ ?_
  | with_reducible refine w_lcE ?_
  | ((with_reducible refine' w_isi (b := true) ?vv ?ww ?_); (case vv => walk_at "ty"); (case ww => decide +kernel))
  | ((with_reducible refine' w_isi (b := false) ?vv ?ww ?_); (case vv => walk_at "ty"); (case ww => decide +kernel))
  | with_reducible refine w_revL ?_
  | with_reducible refine w_pairN ?_
  | with_reducible refine w_pairC ?_
  | with_reducible refine w_dget ?_
  | with_reducible refine w_met ?_
  | ((with_reducible refine' w_metAt ?vv ?ww ?_); (case vv => walk_at "tr"); (case ww => rfl))
  | with_reducible refine w_mkI ?_
  | with_reducible refine w_fld ?_
  | ((with_reducible refine' w_fldAt ?vv ?cc ?nn ?ww ?_); (case vv => walk_at "tr"); (case cc => walk_at "cls"); (case nn => walk_at "na"); (case ww => rfl))
  | with_reducible refine w_sfld ?_
  | ((with_reducible refine' w_sfldAt ?vv ?cc ?nn ?ll ?ee ?_); (case vv => walk_at "tr"); (case cc => walk_at "cls"); (case nn => walk_at "na"); (case ll => simp); (case ee => rfl))
  | ((with_reducible refine' w_tupL ?vv ?_); (case vv => walk_at "tr"))
  | ((with_reducible refine' w_tupT ?vv ?_); (case vv => walk_at "tr"))
  | ((with_reducible refine' w_listL ?vv ?_); (case vv => walk_at "tr"))
  | ((with_reducible refine' w_listT ?vv ?_); (case vv => walk_at "tr"))
  | with_reducible refine w_tyS ?_
  | with_reducible refine w_retN ?_
  | with_reducible refine w_break ?_
  | with_reducible refine w_cont ?_)
local macro_rules | `(tactic| walk_at "w") => `(tactic| first
  | walk_at "v"
  | with_reducible refine w_or ?_
  | with_reducible refine w_and ?_
  | with_reducible refine w_andV ?_
  | with_reducible refine w_orV ?_)
local macro_rules | `(tactic| walk_at "wd") => `(tactic| first
  | walk_at "w"
  | ((with_reducible refine' w_decT ?vv ?_); (case vv => decide +kernel))
  | ((with_reducible refine' w_decF ?vv ?_); (case vv => decide +kernel)))
local macro_rules | `(tactic| walk_at "tz") => `(tactic| (intro S z; (repeat walk_at "w"); exact z))
local macro_rules | `(tactic| walk_at "wf") => `(tactic| first
  | walk_at "wd"
  | ((with_reducible refine' w_decF ?vv ?_); (case vv => with_reducible assumption)))
/-! ### drawn expressions and sets -/
def spE (K : PySem.W.Frag) (n : Nat) : Sp := fun vs H Q _ => ∃ (s : Addr) (k : Int), vs = [.ref s, .int k] ∧ Stm H s ∧ k ≤ n ∧ 1 ≤ n ∧ ∀ v e H', Dp K H' v (Exp.d e) → OkE n e → Stm H' s → But s H H' → Q v H'
theorem len_law_e {K : PySem.W.Frag} {n : Nat} {vs H Q E} (h : spE K n vs H Q E) : vs.length = 2 := by obtain ⟨_, _, rfl, _⟩ := h; rfl
theorem no_law_e {K : PySem.W.Frag} {vs H Q E} (h : spE K 0 vs H Q E) : False := by obtain ⟨_, _, _, _, _, h, _⟩ := h; omega
theorem dp_pair {K : PySem.W.Frag} {H : Hp} {p : Addr} {k : Str} {n : Int} (h : SqT K H p [.str k, .int n]) : Dp K H (.ref p) (selD k n) := .tup h (.cons (.str k) (.cons (.int n) .nil))
theorem op_at {i : Int} {H : Hp} {Q : VK} {K : PySem.W.Frag} {p : Addr} (h : SqL K H p [.str "+", .str "-", .str "&", .str "|", .str "^", .str "<<", .str ">>", .str "<", .str "="]) (h0 : 0 ≤ i) (h1 : i < 9) (k : ∀ o, OpS o → Q (.str o) H) : rIx K (.ref p) (.int i) H Q := by
  have c : i = 0 ∨ i = 1 ∨ i = 2 ∨ i = 3 ∨ i = 4 ∨ i = 5 ∨ i = 6 ∨ i = 7 ∨ i = 8 := by omega
  rcases c with rfl | rfl | rfl | rfl | rfl | rfl | rfl | rfl | rfl <;> exact w_ixL h (atI_of (by decide) rfl) (k _ (by unfold OpS; simp))
theorem sel_at {i x y : Int} {H : Hp} {Q : VK} {K : PySem.W.Frag} {p a b : Addr} (h : SqL K H p [.ref a, .ref b]) (ha : SqT K H a [.str "is", .int x]) (hb : SqT K H b [.str "by", .int y]) (h0 : 0 ≤ i) (h1 : i < 2)
    (k : ∀ q k n, SelS k → SqT K H q [.str k, .int n] → Q (.ref q) H) : rIx K (.ref p) (.int i) H Q := by
  have c : i = 0 ∨ i = 1 := by omega
  rcases c with rfl | rfl
  · exact w_ixL h at0 (k _ _ _ (.inl rfl) ha)
  · exact w_ixL h at1 (k _ _ _ (.inr rfl) hb)
theorem num_at {i : Int} {H : Hp} {Q : VK} {K : PySem.W.Frag} {p : Addr} (h : SqL K H p [.int 4, .int (2 ^ (24 : Int).toNat)]) (h0 : 0 ≤ i) (h1 : i < 2) (k : ∀ m : Int, 0 < m → m < 2 ^ 200 → Q (.int m) H) : rIx K (.ref p) (.int i) H Q := by
  have c : i = 0 ∨ i = 1 := by omega
  rcases c with rfl | rfl
  · exact w_ixL h at0 (k _ (by decide) (by decide))
  · exact w_ixL h at1 (k _ (by decide) (by decide))
theorem leaf_at {i m f n : Int} {k : Str} {H : Hp} {Q : VK} {K : PySem.W.Frag} {p a b c d e s : Addr} (h : SqL K H p [.ref a, .ref b, .ref c, .ref d, .ref e]) (ha : SqT K H a [.str "number", .int m]) (hb : SqT K H b [.str "field", .int f])
    (hc : SqT K H c [.str "place", .ref s]) (hd : SqT K H d [.str "mark", .ref s]) (he : SqT K H e [.str "place", .ref s]) (hs : SqT K H s [.str k, .int n]) (ks : SelS k) (h0 : 0 ≤ i) (h1 : i < 5)
    (q : ∀ v e, Dp K H v (Exp.d e) → OkE 1 e → Q v H) : rIx K (.ref p) (.int i) H Q := by
  have z : i = 0 ∨ i = 1 ∨ i = 2 ∨ i = 3 ∨ i = 4 := by omega
  rcases z with rfl | rfl | rfl | rfl | rfl
  · exact w_ixL h at0 (q _ (.num m) (.tup ha (.cons (.str _) (.cons (.int _) .nil))) ⟨Nat.le_refl 1, trivial⟩)
  · exact w_ixL h at1 (q _ (.fld f) (.tup hb (.cons (.str _) (.cons (.int _) .nil))) ⟨Nat.le_refl 1, trivial⟩)
  · exact w_ixL h at2 (q _ (.plc k n) (.tup hc (.cons (.str _) (.cons (dp_pair hs) .nil))) ⟨Nat.le_refl 1, ks⟩)
  · exact w_ixL h (atI_of (by decide) rfl) (q _ (.mrk k n) (.tup hd (.cons (.str _) (.cons (dp_pair hs) .nil))) ⟨Nat.le_refl 1, ks⟩)
  · exact w_ixL h (atI_of (by decide) rfl) (q _ (.plc k n) (.tup he (.cons (.str _) (.cons (dp_pair hs) .nil))) ⟨Nat.le_refl 1, ks⟩)
theorem Exp.ts {K : PySem.W.Frag} {H H' : Hp} {e : Exp} {v : V} (t : TS H H') (h : Dp K H v e.d) : Dp K H' v e.d := dp_ts t _ _ e.tup h
section
variable {P : Program} {w : World} {K : PySem.W.Frag} {mg : Str → Option Value}
theorem ok_law_e [c : Facts K mg] (G__law_take : Fn P w K mg "_law_take" 1 ["stream", "many"] (spTake)) : ∀ n : Nat, Fn P w K mg "_law_e" (n + 2) ["stream", "deep"] ((spE K n))
  | 0 => by
    obtain ⟨fd, F⟩ := c.d_law_e
    exact Fn.mk' (k := 1) F c.g_law_e sc_law_e (fun vs H Q E h => (no_law_e h).elim) (fun _ _ _ _ _ _ us hl => match us, hl with | [_, _], _ => rfl) (fun base cdv A outer s H vs Q E hr h => (no_law_e h).elim)
  | n + 1 => by
    have G__law_e := ok_law_e G__law_take n
    obtain ⟨fd, F⟩ := c.d_law_e
    refine Fn.mk' F c.g_law_e sc_law_e (k := n + 2) (fun vs H Q E h => ?_) (fun _ _ _ _ _ _ us hl => match us, hl with | [_, _], _ => rfl) (fun base cdv A outer s H vs Q E hr h => ?_)
    · exact len_law_e h
    · have nd := sc_law_e.nd
      have hu := hu_of hr
      have hr__law_e : Room (n + 2) _ := hr.mono (by omega)
      have hr__law_take : Room 1 _ := hr.mono (by omega)
      refine ⟨_, (pss_cons (ps_set (i := 2) nd rfl (Or.inl rfl) (pe_fn G__law_take hr__law_take (by rfl) (pa_cons (pv 0) (pa_cons pe_int pa_nil))))
      (pss_cons (ps_if (PW.pt (pw_or (pt_cmpR op_lt (pv 1) pe_int (nomark _)) (pw_or1 (pt_cmpR op_lt (pv 2) pe_int (nomark _))))) (pss_cons (ps_set (i := 3) nd rfl (Or.inl rfl) (pe_ix (ix_any (K := K) rfl) (pe_lst (pa_cons (pe_tup (pa_cons pe_str (pa_cons (pe_fn G__law_take hr__law_take (by rfl) (pa_cons (pv 0) (pa_cons pe_int pa_nil))) pa_nil))) (pa_cons (pe_tup (pa_cons pe_str (pa_cons (pe_fn G__law_take hr__law_take (by rfl) (pa_cons (pv 0) (pa_cons pe_int pa_nil))) pa_nil))) pa_nil))) (pe_fn G__law_take hr__law_take (by rfl) (pa_cons (pv 0) (pa_cons pe_int pa_nil))) (fun _ _ => rfl)))
      (pss_cons (ps_set (i := 4) nd rfl (Or.inl rfl) (pe_tup (pa_cons pe_str (pa_cons (pe_fn G__law_take hr__law_take (by rfl) (pa_cons (pv 0) (pa_cons (pe_ix (ix_any (K := K) rfl) (pe_lst (pa_cons pe_int (pa_cons (pe_op op_pow pe_int pe_int) pa_nil))) (pe_fn G__law_take hr__law_take (by rfl) (pa_cons (pv 0) (pa_cons pe_int pa_nil))) (fun _ _ => rfl)) pa_nil))) pa_nil))))
      (pss_cons (ps_set (i := 5) nd rfl (Or.inl rfl) (pe_tup (pa_cons pe_str (pa_cons (pe_fn G__law_take hr__law_take (by rfl) (pa_cons (pv 0) (pa_cons pe_int pa_nil))) pa_nil))))
      (pss_one (ps_ret (pe_ix (ix_any (K := K) rfl) (pe_lst (pa_cons (pv 4) (pa_cons (pv 5) (pa_cons (pe_tup (pa_cons pe_str (pa_cons (pv 3) pa_nil))) (pa_cons (pe_tup (pa_cons pe_str (pa_cons (pv 3) pa_nil))) (pa_cons (pe_tup (pa_cons pe_str (pa_cons (pv 3) pa_nil))) pa_nil)))))) (pe_fn G__law_take hr__law_take (by rfl) (pa_cons (pv 0) (pa_cons pe_int pa_nil))) (fun _ _ => rfl))))))) pss_nil)
      (pss_cons (ps_if (pt_cmpR (op_eqA (K := K) rfl hr.units) (pv 2) pe_int (nomark _)) (pss_one (ps_ret (pe_tup (pa_cons pe_str (pa_cons (pe_fn G__law_e hr__law_e (by rfl) (pa_cons (pv 0) (pa_cons (pe_op op_sub (pv 1) pe_int) pa_nil))) pa_nil))))) pss_nil)
      (pss_cons (ps_set (i := 6) nd rfl (Or.inl rfl) (pe_ix (ix_any (K := K) rfl) (pe_lst (pa_cons pe_str (pa_cons pe_str (pa_cons pe_str (pa_cons pe_str (pa_cons pe_str (pa_cons pe_str (pa_cons pe_str (pa_cons pe_str (pa_cons pe_str pa_nil)))))))))) (pe_fn G__law_take hr__law_take (by rfl) (pa_cons (pv 0) (pa_cons pe_int pa_nil))) (fun _ _ => rfl)))
      (pss_one (ps_ret (pe_tup (pa_cons (pv 6) (pa_cons (pe_fn G__law_e hr__law_e (by rfl) (pa_cons (pv 0) (pa_cons (pe_op op_sub (pv 1) pe_int) pa_nil))) (pa_cons (pe_fn G__law_e hr__law_e (by rfl) (pa_cons (pv 0) (pa_cons (pe_op op_sub (pv 1) pe_int) pa_nil))) pa_nil)))))))))), ?_⟩
      try dsimp only [cxOf, Cx.nox, Cx.wish]
      obtain ⟨s, k, rfl, hs, hk, hn, q⟩ := h
      repeat walk_at "w"
      refine ⟨s, 7, rfl, hs, by decide, by decide, fun way H1 w0 w1 hs1 e1 => ?_⟩
      repeat walk_at "v"
      refine w_orP (k < 2) (way < 3) (by walk_at "tz") (by walk_at "tz") (fun b hb => ?_)
      refine ite2 (fun hk => ?_) (fun hk => ?_)
      · repeat walk_at "w"
        refine ⟨s, 4, rfl, hs1, by decide, by decide, fun x H2 x0 x1 hs2 e2 => ?_⟩
        repeat walk_at "w"
        refine w_new fun p3 H3 n3 s3 f3 => ?_
        have hs3 : Stm H3 s := s3.stm hs2
        repeat walk_at "w"
        refine ⟨s, 3, rfl, hs3, by decide, by decide, fun y H4 y0 y1 hs4 e4 => ?_⟩
        repeat walk_at "w"
        refine w_new fun p5 H5 n5 s5 f5 => ?_
        repeat walk_at "w"
        refine w_new fun p6 H6 n6 s6 f6 => ?_
        have hs6 : Stm H6 s := s6.stm (s5.stm hs4)
        repeat walk_at "w"
        refine ⟨s, 2, rfl, hs6, by decide, by decide, fun z H7 z0 z1 hs7 e7 => ?_⟩
        have t35 : TS H3 H5 := (TS.butS e4 hs3).trans (TS.of s5)
        have t57 : TS H5 H7 := (TS.of s6).trans (TS.butS e7 hs6)
        refine sel_at (SqL.of (e7.at (fun q => by rw [q] at f6; obtain ⟨_, _, _, g⟩ := hs6; rw [f6] at g; cases g) f6)) ((t35.trans t57).sqT (SqT.of f3)) (t57.sqT (SqT.of f5)) z0 z1 fun sl kk nn ks hsl => ?_
        repeat walk_at "w"
        refine w_new fun p8 H8 n8 s8 f8 => ?_
        have hs8 : Stm H8 s := s8.stm hs7
        repeat walk_at "w"
        refine ⟨s, 2, rfl, hs8, by decide, by decide, fun z2 H9 z20 z21 hs9 e9 => ?_⟩
        repeat walk_at "w"
        refine num_at (by walk_at "tr") z20 z21 fun m m0 m1 => ?_
        repeat walk_at "w"
        refine ⟨s, m, rfl, hs9, m0, m1, fun nb H10 _ _ hs10 e10 => ?_⟩
        repeat walk_at "w"
        refine w_new fun p11 H11 n11 s11 f11 => ?_
        have hs11 : Stm H11 s := s11.stm hs10
        repeat walk_at "w"
        refine ⟨s, 3, rfl, hs11, by decide, by decide, fun fd H12 _ _ hs12 e12 => ?_⟩
        repeat walk_at "w"
        refine w_new fun p13 H13 n13 s13 f13 => ?_
        repeat walk_at "w"
        refine w_new fun p14 H14 n14 s14 f14 => ?_
        repeat walk_at "w"
        refine w_new fun p15 H15 n15 s15 f15 => ?_
        repeat walk_at "w"
        refine w_new fun p16 H16 n16 s16 f16 => ?_
        repeat walk_at "w"
        refine w_new fun p17 H17 n17 s17 f17 => ?_
        have hs17 : Stm H17 s := s17.stm (s16.stm (s15.stm (s14.stm (s13.stm hs12))))
        repeat walk_at "w"
        refine ⟨s, 5, rfl, hs17, by decide, by decide, fun lf H18 l0 l1 hs18 e18 => ?_⟩
        refine leaf_at (k := kk) (n := nn) (by walk_at "tr") (by walk_at "tr") (by walk_at "tr") (by walk_at "tr") (by walk_at "tr") (by walk_at "tr") (by walk_at "tr") ks l0 l1 fun v e de oe => ?_
        exact q v e H18 de (oe.mono hn) hs18 (by walk_at "bu")
      · have hw : ¬ (k < 2) := fun z => hk (hb.mpr (.inl z))
        repeat walk_at "w"
        refine ite2 (fun hk3 => ?_) (fun hk3 => ?_)
        · repeat walk_at "w"
          refine ⟨s, _, rfl, hs1, by omega, by omega, fun v e H2 de oe hs2 e2 => ?_⟩
          repeat walk_at "w"
          refine w_new fun p3 H3 n3 s3 f3 => ?_
          exact q _ (.cell e) H3 (.tup (SqT.of f3) (.cons (.str _) (.cons (Exp.ts (TS.of s3) de) .nil))) ⟨Nat.succ_le_succ oe.1, oe.2⟩ (s3.stm hs2) (by walk_at "bu")
        · repeat walk_at "w"
          refine w_new fun p2 H2 n2 s2 f2 => ?_
          have hs2 : Stm H2 s := s2.stm hs1
          repeat walk_at "w"
          refine ⟨s, 9, rfl, hs2, by decide, by decide, fun ow H3 o0 o1 hs3 e3 => ?_⟩
          refine op_at (by walk_at "tr") o0 o1 fun o ho => ?_
          repeat walk_at "w"
          refine ⟨s, _, rfl, hs3, by omega, by omega, fun v e H4 de oe hs4 e4 => ?_⟩
          repeat walk_at "w"
          refine ⟨s, _, rfl, hs4, by omega, by omega, fun v2 f H5 df of hs5 e5 => ?_⟩
          repeat walk_at "w"
          refine w_new fun p6 H6 n6 s6 f6 => ?_
          exact q _ (.two o e f) H6 (.tup (SqT.of f6) (.cons (.str _) (.cons (Exp.ts ((TS.butS e5 hs4).trans (TS.of s6)) de) (.cons (Exp.ts (TS.of s6) df) .nil))))
            ⟨Nat.succ_le_succ (Nat.max_le.mpr ⟨oe.1, of.1⟩), ho, oe.2, of.2⟩ (s6.stm hs5) (by walk_at "bu")
end

end J
namespace J
open PySem PySem.Spec PyProof.Rows L2
local macro_rules | `(tactic| walk_at "cls") => `(tactic| first
  | with_reducible exact Facts.cl_Parts)
local macro_rules | `(tactic| walk_at "na") => `(tactic| first
  | with_reducible exact Facts.na_Parts_rows)
local macro_rules | `(tactic| walk_at "ty") => `(tactic| first
  | with_reducible exact ty_int
  | with_reducible exact ty_bl
  | with_reducible exact ty_str
  | with_reducible exact ty_non
  | ((with_reducible refine' ty_lst ?vv); (case vv => walk_at "tr"))
  | ((with_reducible refine' ty_sqT ?vv); (case vv => walk_at "tr"))
  | ((with_reducible refine' ty_dic ?vv); (case vv => walk_at "tr")))
local macro_rules | `(tactic| walk_at "ix") => `(tactic| first | exact at0 | exact at1 | exact at2 | assumption)
local macro_rules | `(tactic| walk_at "size") => `(tactic| first
  | assumption
  | (show _ < sizeLine; rw [sizeLine_eq]; (try simp only [List.length_cons, List.length_nil, List.length_append, List.length_map]); omega)
  | (show _ ≤ sizeLine; rw [sizeLine_eq]; (try simp only [List.length_cons, List.length_nil, List.length_append, List.length_map]); omega))
local macro_rules | `(tactic| walk_at "side") => `(tactic| first
  | assumption
  | ((with_reducible refine cdw ?_ ?_) <;> omega)
  | omega
  | (exact ⟨by omega, by omega⟩)
  | (exact Or.inl ⟨by omega, by omega⟩)
  | (exact Or.inr ⟨by omega, by omega⟩)
  | decide
  | (simp only [List.length_cons, List.length_nil, List.length_append, List.length_map]; omega)
  | (show _ ≤ _; decide))
local macro_rules | `(tactic| walk_at "as") => `(tactic| with_reducible assumption)
local macro_rules | `(tactic| walk_at "tr") => `(tactic| first
  | with_reducible assumption
  | with_reducible exact upd_same
  | ((with_reducible refine' SqL.of ?hh); (case hh => walk_at "as"))
  | ((with_reducible refine' SqT.of ?hh); (case hh => walk_at "as"))
  | ((with_reducible refine' Same.stm ?ee ?gg); (case ee => walk_at "as"); (case gg => walk_at "tr"))
  | ((with_reducible refine' Same.sqT ?ee ?gg); (case ee => walk_at "as"); (case gg => walk_at "tr"))
  | ((with_reducible refine' Same.sqL ?ee ?gg); (case ee => walk_at "as"); (case gg => walk_at "tr"))
  | ((with_reducible refine' Same.at ?ee ?gg); (case ee => walk_at "as"); (case gg => walk_at "tr"))
  | ((with_reducible refine' But.stm ?ee ?ff ?gg); (case ee => walk_at "as"); (case ff => walk_at "ne"); (case gg => walk_at "tr"))
  | ((with_reducible refine' But.tup ?ee ?ff ?gg); (case ee => walk_at "as"); (case ff => walk_at "tr1"); (case gg => walk_at "tr"))
  | ((with_reducible refine' But.sqT ?ee ?ff ?gg); (case ee => walk_at "as"); (case ff => walk_at "tr1"); (case gg => walk_at "tr"))
  | ((with_reducible refine' But.tupL ?ee ?ff ?gg); (case ee => walk_at "as"); (case ff => walk_at "tr1"); (case gg => walk_at "tr"))
  | ((with_reducible refine' But.sqTL ?ee ?ff ?gg); (case ee => walk_at "as"); (case ff => walk_at "tr1"); (case gg => walk_at "tr"))
  | ((with_reducible refine' But.sqL ?ee ?ff ?gg); (case ee => walk_at "as"); (case ff => walk_at "ne"); (case gg => walk_at "tr"))
  | ((with_reducible refine' But.at ?ee ?ff ?gg); (case ee => walk_at "as"); (case ff => walk_at "ne"); (case gg => walk_at "tr")))
local macro_rules | `(tactic| walk_at "ts") => `(tactic| first
  | with_reducible assumption
  | with_reducible exact TS.refl _
  | ((with_reducible refine' TS.trans ?gg (TS.of ?ee)); (case ee => walk_at "as"); (case gg => walk_at "ts"))
  | ((with_reducible refine' TS.trans ?gg (TS.butS ?ee ?ff)); (case ee => walk_at "as"); (case ff => walk_at "tr1"); (case gg => walk_at "ts"))
  | ((with_reducible refine' TS.trans ?gg (TS.butL ?ee ?ff)); (case ee => walk_at "as"); (case ff => walk_at "tr1"); (case gg => walk_at "ts"))
  | ((with_reducible refine' TS.trans ?gg (TS.butI ?ee ?ff)); (case ee => walk_at "as"); (case ff => walk_at "tr1"); (case gg => walk_at "ts")))
local macro_rules | `(tactic| walk_at "sm") => `(tactic| first
  | with_reducible assumption
  | with_reducible exact Same.refl _
  | ((with_reducible refine' Same.trans ?gg ?ee); (case ee => walk_at "as"); (case gg => walk_at "sm"))
  | ((with_reducible refine' But.new ?gg ?nn ?ee); (case ee => walk_at "as"); (case nn => walk_at "fr"); (case gg => walk_at "sm")))
local macro_rules | `(tactic| walk_at "fr") => `(tactic| first
  | with_reducible assumption
  | ((with_reducible refine' Same.back ?ee ?nn); (case nn => walk_at "as"); (case ee => walk_at "sm"))
  | ((with_reducible refine' But.back ?ee ?ff ?nn); (case nn => walk_at "as"); (case ff => walk_at "ne0"); (case ee => walk_at "bu")))
local macro_rules | `(tactic| walk_at "bu") => `(tactic| first
  | with_reducible assumption
  | with_reducible exact But.refl _ _
  | ((with_reducible refine' But.trans ?gg ?ee); (case ee => walk_at "as"); (case gg => walk_at "bu"))
  | ((with_reducible refine' But.trans ?gg (But.of ?ee)); (case ee => walk_at "as"); (case gg => walk_at "bu"))
  | ((with_reducible refine' But.new2 ?gg ?nn ?ee); (case ee => walk_at "as"); (case nn => walk_at "frB"); (case gg => walk_at "bu")))
local macro_rules | `(tactic| walk_at "frB") => `(tactic| first
  | with_reducible assumption
  | ((with_reducible refine' Same.back ?ee ?nn); (case nn => walk_at "as"); (case ee => walk_at "sm"))
  | ((with_reducible refine' But.back' ?ee ?ff ?nn); (case nn => walk_at "as"); (case ee => walk_at "bu"); (case ff => walk_at "tr1")))
local macro_rules | `(tactic| walk_at "tr1") => `(tactic| first
  | with_reducible assumption
  | ((with_reducible refine' Same.stm ?ee ?gg); (case ee => walk_at "as"); (case gg => walk_at "tr1"))
  | ((with_reducible refine' Same.at ?ee ?gg); (case ee => walk_at "as"); (case gg => walk_at "tr1"))
  | ((with_reducible refine' But.at ?ee ?ff ?gg); (case ee => walk_at "as"); (case ff => walk_at "ne0"); (case gg => walk_at "tr1"))
  | ((with_reducible refine' But.stm ?ee ?ff ?gg); (case ee => walk_at "as"); (case ff => walk_at "ne0"); (case gg => walk_at "tr1")))
local macro_rules | `(tactic| walk_at "ne0") => `(tactic| first
  | with_reducible assumption
  | (with_reducible apply Ne.symm; with_reducible assumption))
local macro_rules | `(tactic| walk_at "ne") => `(tactic| first
  | with_reducible assumption
  | (with_reducible apply Ne.symm; with_reducible assumption)
  | ((with_reducible refine' stm_ne ?hh ?nn); (case nn => walk_at "as"); (case hh => walk_at "tr1"))
  | ((with_reducible refine' ne_of_none ?hh ?nn); (case nn => walk_at "as"); (case hh => walk_at "tr1"))
  | ((with_reducible apply Ne.symm); (with_reducible refine' ne_of_none ?hh ?nn); (case nn => walk_at "as"); (case hh => walk_at "tr1")))
local macro_rules | `(tactic| walk_at "v") => `(tactic| first
  | with_reducible refine w_seq ?_
  | ((with_reducible refine' w_var ?vv ?_); (case vv => exact rfl))
  | with_reducible refine w_c ?_
  | with_reducible refine w_op ?_
  | with_reducible refine w_asg ?_
  | with_reducible refine w_gName ?_
  | with_reducible refine w_ret ?_
  | with_reducible refine w_ifS ?_
  | with_reducible refine w_drop ?_
  | with_reducible refine w_next ?_
  | with_reducible refine w_cons ?_
  | with_reducible refine w_nil ?_
  | with_reducible refine w_call ?_
  | with_reducible refine w_cb ?_
  | with_reducible refine w_rI0 ?_
  | with_reducible refine w_addI ?_
  | with_reducible refine w_eqI ?_
  | with_reducible refine w_neI ?_
  | with_reducible refine w_eqS ?_
  | with_reducible refine w_neS ?_
  | with_reducible refine w_eqB ?_
  | with_reducible refine w_neB ?_
  | with_reducible refine w_chain ?_
  | with_reducible refine w_test ?_
  | with_reducible refine w_tB ?_
  | with_reducible refine w_bl ?_
  | ((with_reducible refine' w_mulI ?vv ?_); (case vv => walk_at "side"))
  | ((with_reducible refine' w_rI ?vv ?_); (case vv => walk_at "side"))
  | with_reducible refine w_int1 ?_
  | with_reducible refine w_int1b ?_
  | with_reducible refine w_tup ?_
  | with_reducible refine w_lst ?_
  | with_reducible refine w_un ?_
  | with_reducible refine w_rU ?_
  | with_reducible refine w_not ?_
  | with_reducible refine w_notV ?_
  | with_reducible refine w_ifE ?_
  | with_reducible refine w_nT ?_
  | with_reducible refine w_nF ?_
  | with_reducible refine iteT ?_
  | with_reducible refine iteF ?_
  | ((with_reducible refine' w_ixT ?vv ?ww ?_); (case vv => walk_at "tr"); (case ww => walk_at "ix"))
  | ((with_reducible refine' w_ixL ?vv ?ww ?_); (case vv => walk_at "tr"); (case ww => walk_at "ix"))
  | with_reducible refine w_gSub ?_
  | ((with_reducible refine' w_setL ?vv ?ww ?_); (case vv => walk_at "tr"); (case ww => first | rfl | decide | assumption))
  | ((with_reducible refine' w_lenL ?vv ?_); (case vv => walk_at "tr"))
  | ((with_reducible refine' w_lenT ?vv ?_); (case vv => walk_at "tr"))
  | with_reducible refine w_max2 ?_
  | with_reducible refine w_max3 ?_
  | with_reducible refine w_din ?_
  | with_reducible refine w_dnotin ?_
  | with_reducible refine w_dput ?_
  | with_reducible refine w_min2 ?_
  | with_reducible refine w_bm ?_
  | with_reducible refine w_bm0 ?_
  | ((with_reducible refine' w_tyL ?vv ?_); (case vv => walk_at "tr"))
  | ((with_reducible refine' w_append ?vv ?ww ?_); (case vv => walk_at "tr"); (case ww => walk_at "size"))
  | ((with_reducible refine' w_size ?vv ?_); (case vv => walk_at "size"))
  | with_reducible refine w_forL ?_
  | with_reducible refine w_forT ?_
  | with_reducible refine w_forR1 ?_
  | with_reducible refine w_forR2 ?_
  | with_reducible refine w_lcL ?_
  | with_reducible refine w_lcT ?_
  | with_reducible refine w_lcR1 ?_
  | with_reducible refine w_yes ?_
  | with_reducible refine w_sl ?_
  | with_reducible refine w_noPart ?_
  | with_reducible refine w_part ?_
  | with_reducible refine w_int ?_
  | ((with_reducible refine' w_slL ?vv ?_); (case vv => walk_at "tr"))
  | ((with_reducible refine' w_seqL ?vv ?ww ?_); (case vv => walk_at "tr"); (case ww => rfl))
  | ((with_reducible refine' w_seqT ?vv ?ww ?_); (case vv => walk_at "tr"); (case ww => rfl))
  | with_reducible refine w_gNil ?_
  | with_reducible refine w_gCons ?_
  | with_reducible refine w_forZ ?_
  | with_reducible refine w_forM ?_
  | with_reducible refine w_forE ?_
  | with_reducible refine w_forV ?_
  | with_reducible refine w_lcZ ?_
  | with_reducible refine w_lcE ?_
  | ((with_reducible refine' w_isi (b := true) ?vv ?ww ?_); (case vv => walk_at "ty"); (case ww => decide +kernel))
  | ((with_reducible refine' w_isi (b := false) ?vv ?ww ?_); (case vv => walk_at "ty"); (case ww => decide +kernel))
  | with_reducible refine w_revL ?_
  | with_reducible refine w_pairN ?_
  | with_reducible refine w_pairC ?_
  | with_reducible refine w_dget ?_
  | with_reducible refine w_met ?_
  | ((with_reducible refine' w_metAt ?vv ?ww ?_); (case vv => walk_at "tr"); (case ww => rfl))
  | with_reducible refine w_mkI ?_
  | with_reducible refine w_fld ?_
  | ((with_reducible refine' w_fldAt ?vv ?cc ?nn ?ww ?_); (case vv => walk_at "tr"); (case cc => walk_at "cls"); (case nn => walk_at "na"); (case ww => rfl))
  | with_reducible refine w_sfld ?_
  | ((with_reducible refine' w_sfldAt ?vv ?cc ?nn ?ll ?ee ?_); (case vv => walk_at "tr"); (case cc => walk_at "cls"); (case nn => walk_at "na"); (case ll => simp); (case ee => rfl))
  | ((with_reducible refine' w_tupL ?vv ?_); (case vv => walk_at "tr"))
  | ((with_reducible refine' w_tupT ?vv ?_); (case vv => walk_at "tr"))
  | ((with_reducible refine' w_listL ?vv ?_); (case vv => walk_at "tr"))
  | ((with_reducible refine' w_listT ?vv ?_); (case vv => walk_at "tr"))
  | with_reducible refine w_tyS ?_
  | with_reducible refine w_retN ?_
  | with_reducible refine w_break ?_
  | with_reducible refine w_cont ?_)
local macro_rules | `(tactic| walk_at "w") => `(tactic| first
  | walk_at "v"
  | with_reducible refine w_or ?_
  | with_reducible refine w_and ?_
  | with_reducible refine w_andV ?_
  | with_reducible refine w_orV ?_)
local macro_rules | `(tactic| walk_at "wd") => `(tactic| first
  | walk_at "w"
  | ((with_reducible refine' w_decT ?vv ?_); (case vv => decide +kernel))
  | ((with_reducible refine' w_decF ?vv ?_); (case vv => decide +kernel)))
local macro_rules | `(tactic| walk_at "tz") => `(tactic| (intro S z; (repeat walk_at "w"); exact z))
local macro_rules | `(tactic| walk_at "wf") => `(tactic| first
  | walk_at "wd"
  | ((with_reducible refine' w_decF ?vv ?_); (case vv => with_reducible assumption)))
def spSets (K : PySem.W.Frag) : Sp := fun vs H Q _ => ∃ (s : Addr), vs = [.ref s] ∧ Stm H s ∧ ∀ v ss H', Dp K H' v (setsD ss) → ss.length ≤ 4 → (∀ x ∈ ss, OkS 4 x) → Stm H' s → But s H H' → Q v H'
theorem len_law_sets {K : PySem.W.Frag} {vs H Q E} (h : spSets K vs H Q E) : vs.length = 1 := by obtain ⟨_, rfl, _⟩ := h; rfl
theorem times_at {i : Int} {H : Hp} {Q : VK} {K : PySem.W.Frag} {p : Addr} (h : SqL K H p [.int 1, .int 2, .int 3, .int 4, .int 0]) (h0 : 0 ≤ i) (h1 : i < 5) (k : ∀ m : Int, 0 ≤ m → m ≤ 4 → Q (.int m) H) : rIx K (.ref p) (.int i) H Q := by
  have z : i = 0 ∨ i = 1 ∨ i = 2 ∨ i = 3 ∨ i = 4 := by omega
  rcases z with rfl | rfl | rfl | rfl | rfl
  · exact w_ixL h at0 (k _ (by decide) (by decide))
  · exact w_ixL h at1 (k _ (by decide) (by decide))
  · exact w_ixL h at2 (k _ (by decide) (by decide))
  · exact w_ixL h (atI_of (by decide) rfl) (k _ (by decide) (by decide))
  · exact w_ixL h (atI_of (by decide) rfl) (k _ (by decide) (by decide))
theorem kind_at {b : Bool} {H : Hp} {Q : VK} {K : PySem.W.Frag} {p : Addr} {x y : Str} (h : SqL K H p [.str x, .str y]) (k : Q (.str (if b = true then y else x)) H) : rIx K (.ref p) (.int (if b = true then 1 else 0)) H Q := by
  cases b
  · exact w_ixL h at0 k
  · exact w_ixL h at1 k
def SetE.kind : SetE → Str
  | .cell _ _ => "cell"
  | .sel m _ _ _ => if m then "mark" else "place"
theorem SetE.at0 {K : PySem.W.Frag} {H : Hp} {v : V} : ∀ {s : SetE}, Dp K H v s.d → ∃ p r, v = .ref p ∧ SqT K H p (.str s.kind :: r)
  | .cell a b, h => by
    obtain ⟨p, xs, rfl, hs, ha⟩ := dp_tup h
    obtain ⟨x, r, rfl, hx, _⟩ := dpa_cons ha
    rw [dp_str hx] at hs
    exact ⟨p, r, rfl, hs⟩
  | .sel _ _ _ _, h => by
    obtain ⟨p, xs, rfl, hs, ha⟩ := dp_tup h
    obtain ⟨x, r, rfl, hx, _⟩ := dpa_cons ha
    rw [dp_str hx] at hs
    exact ⟨p, r, rfl, hs⟩
/-- a list of drawn sets -/
def SL (K : PySem.W.Frag) (H : Hp) (p : Addr) (ss : List SetE) : Prop := ∃ xs, H p = some (.lst xs) ∧ DpAll K H xs (ss.map SetE.d) ∧ ∀ x ∈ ss, OkS 4 x
theorem SL.new {K : PySem.W.Frag} {H : Hp} {p : Addr} (h : H p = some (.lst [])) : SL K H p [] := ⟨[], h, .nil, fun _ q => (List.not_mem_nil q).elim⟩
theorem SL.len {K : PySem.W.Frag} {H : Hp} {p : Addr} {ss : List SetE} (h : SL K H p ss) : ∃ xs, H p = some (.lst xs) ∧ xs.length = ss.length := by
  obtain ⟨xs, h, d, _⟩ := h
  exact ⟨xs, h, by rw [dpa_len d, List.length_map]⟩
theorem SL.ts {K : PySem.W.Frag} {H H' : Hp} {p : Addr} {ss : List SetE} (h : SL K H p ss) (e : TS H H') (k : ∀ xs, H p = some (.lst xs) → H' p = some (.lst xs)) : SL K H' p ss := by
  obtain ⟨xs, h, d, o⟩ := h
  exact ⟨xs, k _ h, dpAll_ts e _ _ (setsD_tup ss) d, o⟩
section
variable {P : Program} {w : World} {K : PySem.W.Frag} {mg : Str → Option Value}
theorem ok_law_sets [c : Facts K mg] (G__law_e : Fn P w K mg "_law_e" 6 ["stream", "deep"] ((spE K 4))) (G__law_take : Fn P w K mg "_law_take" 1 ["stream", "many"] (spTake)) : Fn P w K mg "_law_sets" 7 ["stream"] ((spSets K)) := by
  obtain ⟨fd, F⟩ := c.d_law_sets
  refine Fn.mk' F c.g_law_sets sc_law_sets (k := 6) (fun vs H Q E h => ?_) (fun _ _ _ _ _ _ us hl => match us, hl with | [_], _ => rfl) (fun base cdv A outer s H vs Q E hr h => ?_)
  · exact len_law_sets h
  · have nd := sc_law_sets.nd
    have hu := hu_of hr
    have hr__law_e : Room 6 _ := hr.mono (by omega)
    have hr__law_take : Room 1 _ := hr.mono (by omega)
    refine ⟨_, (pss_cons (ps_set (i := 1) nd rfl (Or.inl rfl) (pe_lst pa_nil))
      (pss_cons (ps_set (i := 2) nd rfl (Or.inl rfl) (pe_op (op_addA (K := K) rfl) pe_int (pe_fn G__law_take hr__law_take (by rfl) (pa_cons (pv 0) (pa_cons pe_int pa_nil)))))
      (pss_cons (ps_for PassesOwn.never rfl (pi_range1 (by rfl) c.f_range (pa_cons (pe_ix (ix_any (K := K) rfl) (pe_lst (pa_cons pe_int (pa_cons pe_int (pa_cons pe_int (pa_cons pe_int (pa_cons pe_int pa_nil)))))) (pe_fn G__law_take hr__law_take (by rfl) (pa_cons (pv 0) (pa_cons pe_int pa_nil))) (fun _ _ => rfl)) pa_nil)) (pg_name (i := 3) nd rfl (Or.inl rfl)) (pss_cons (ps_set (i := 4) nd rfl (Or.inl rfl) (pe_fn G__law_take hr__law_take (by rfl) (pa_cons (pv 0) (pa_cons pe_int pa_nil))))
      (pss_cons (ps_set (i := 5) nd rfl (Or.inl rfl) (pe_ix (ix_any (K := K) rfl) (pe_lst (pa_cons (pe_tup (pa_cons pe_str (pa_cons (pe_fn G__law_take hr__law_take (by rfl) (pa_cons (pv 0) (pa_cons pe_int pa_nil))) pa_nil))) (pa_cons (pe_tup (pa_cons pe_str (pa_cons (pe_fn G__law_take hr__law_take (by rfl) (pa_cons (pv 0) (pa_cons pe_int pa_nil))) pa_nil))) pa_nil))) (pe_fn G__law_take hr__law_take (by rfl) (pa_cons (pv 0) (pa_cons pe_int pa_nil))) (fun _ _ => rfl)))
      (pss_one (ps_if (PW.pt (pw_and (pt_cmpR (op_eqA (K := K) rfl hr.units) (pv 4) pe_int (nomark _)) (pw_and1 (pt_cmpR (op_eqA (K := K) rfl hr.units) (pe_lc (own := [("one", 6)]) rfl nd (pi_list (pv 1)) (blkOk_by (N := N_law_sets) (sc := defScope s_law_sets) (by decide +kernel)) (fun _ _ _ _ _ => (pg_name (i := 6) nd rfl (Or.inl rfl))) (fun _ _ _ _ _ => pts_one (pt_cmpR (op_eqA (K := K) rfl hr.units) (pe_ix (ix_any (K := K) rfl) (pv 6) pe_int (fun _ _ => rfl)) pe_str (nomark _))) (fun _ _ _ _ _ => (pv 6))) (pe_lst pa_nil) (nomark _))))) (pss_one (ps_expr (pe_bm PySem.F.plainAttrs_list PySem.F.slot_list_append PySem.F.type_list_append mt_append (pv 1) (pa_cons (pe_tup (pa_cons pe_str (pa_cons (pe_fn G__law_e hr__law_e (by rfl) (pa_cons (pv 0) (pa_cons (pv 2) pa_nil))) (pa_cons (pe_fn G__law_e hr__law_e (by rfl) (pa_cons (pv 0) (pa_cons (pv 2) pa_nil))) pa_nil)))) pa_nil)))) (pss_one (ps_expr (pe_bm PySem.F.plainAttrs_list PySem.F.slot_list_append PySem.F.type_list_append mt_append (pv 1) (pa_cons (pe_tup (pa_cons (pe_ix (ix_any (K := K) rfl) (pe_lst (pa_cons pe_str (pa_cons pe_str pa_nil))) (pe_callTy call_int1A (by rfl) c.f_int boot_int (pa_cons (pe_cmpR (op_eqA (K := K) rfl hr.units) (pv 4) pe_int (nomark _)) pa_nil)) (fun _ _ => rfl)) (pa_cons (pv 5) (pa_cons (pe_fn G__law_e hr__law_e (by rfl) (pa_cons (pv 0) (pa_cons (pv 2) pa_nil))) pa_nil)))) pa_nil)))))))))
      (pss_one (ps_ret (pe_callTy (call_tupA (K := K) rfl) (by rfl) c.f_tuple boot_tuple (pa_cons (pv 1) pa_nil))))))), ?_⟩
    try dsimp only [cxOf, Cx.nox, Cx.wish]
    obtain ⟨s, rfl, hs, q⟩ := h
    repeat walk_at "w"
    refine w_new fun p1 H1 n1 s1 f1 => ?_
    have hs1 : Stm H1 s := s1.stm hs
    repeat walk_at "w"
    refine ⟨s, 4, rfl, hs1, by decide, by decide, fun dp H2 d0 d1 hs2 e2 => ?_⟩
    repeat walk_at "w"
    refine w_new fun p3 H3 n3 s3 f3 => ?_
    have hs3 : Stm H3 s := s3.stm hs2
    repeat walk_at "w"
    refine ⟨s, 5, rfl, hs3, by decide, by decide, fun tm H4 t0 t1 hs4 e4 => ?_⟩
    repeat walk_at "w"
    refine times_at (by walk_at "tr") t0 t1 fun m m0 m1 => ?_
    repeat walk_at "w"
    have f4 : H4 p1 = some (.lst []) := by walk_at "tr"
    have b4 : But s H H4 := by walk_at "bu"
    have np : p1 ≠ s := stm_ne hs n1
    refine fl_rng1 (fun i σ H' => ∃ ss k y z, ss.length = i ∧ SL K H' p1 ss ∧ Stm H' s ∧ But s H H' ∧ σ = [some (.ref s), some (.ref p1), some (.int (1 + dp)), k, y, z, none]) (by omega) (by omega) ⟨[], _, _, _, rfl, SL.new f4, hs4, b4, rfl⟩ (fun i σ H5 hi hp => ?_) (fun σ H5 hp => ?_)
    · obtain ⟨ss, k, y, z, hl, hS, hs5, b5, rfl⟩ := hp
      repeat walk_at "w"
      refine ⟨s, 3, rfl, hs5, by decide, by decide, fun wy H6 w0 w1 hs6 e6 => ?_⟩
      repeat walk_at "w"
      refine ⟨s, 4, rfl, hs6, by decide, by decide, fun x H7 x0 x1 hs7 e7 => ?_⟩
      repeat walk_at "w"
      refine w_new fun p8 H8 n8 s8 f8 => ?_
      have hs8 : Stm H8 s := s8.stm hs7
      repeat walk_at "w"
      refine ⟨s, 3, rfl, hs8, by decide, by decide, fun y H9 y0 y1 hs9 e9 => ?_⟩
      repeat walk_at "w"
      refine w_new fun p10 H10 n10 s10 f10 => ?_
      repeat walk_at "w"
      refine w_new fun p11 H11 n11 s11 f11 => ?_
      have hs11 : Stm H11 s := s11.stm (s10.stm hs9)
      repeat walk_at "w"
      refine ⟨s, 2, rfl, hs11, by decide, by decide, fun z H12 z0 z1 hs12 e12 => ?_⟩
      refine sel_at (by walk_at "tr") (by walk_at "tr") (by walk_at "tr") z0 z1 fun sl kk nn ks hsl => ?_
      have hS12 : SL K H12 p1 ss := by
        refine hS.ts (by walk_at "ts") fun xs hx => ?_
        walk_at "tr"
      have b12 : But s H H12 := by walk_at "bu"
      clear hS e12 e9 e7 e6 s8 s10 s11 hs8 hs9 hs11 hs6 hs7 f8 f10 f11 n8 n10 n11 b5 hs5
      repeat walk_at "v"
      refine w_andK (Same H12) (fun b H' sm => ?_) (fun hR => ?_)
      · obtain ⟨xs, hx, hd, ho⟩ : SL K H' p1 ss := hS12.ts (TS.of sm) fun xs hx => sm _ _ hx
        have hs' : Stm H' s := sm.stm hs12
        have hxl : xs.length = i := by rw [dpa_len hd, List.length_map, hl]
        have b' : But s H H' := b12.trans (But.of sm)
        have hsl' : SqT K H' sl [.str kk, .int nn] := sm.sqT hsl
        clear b12 hs12 hS12 hsl
        refine ite2 (fun hb => ?_) (fun hb => ?_)
        · repeat walk_at "w"
          refine ⟨s, _, rfl, hs', by omega, by decide, fun v e H13 de oe hs13 e13 => ?_⟩
          repeat walk_at "w"
          refine ⟨s, _, rfl, hs13, by omega, by decide, fun v2 f H14 df of hs14 e14 => ?_⟩
          repeat walk_at "w"
          refine w_new fun p15 H15 n15 s15 f15 => ?_
          repeat walk_at "w"
          refine w_chg fun H16 e16 f16 => ?_
          repeat walk_at "w"
          have f15' : H15 p1 = some (.lst xs) := by walk_at "tr"
          have t16 : TS H15 H16 := TS.butL e16 f15'
          have t13 : TS H' H15 := ((TS.butS e13 hs').trans (TS.butS e14 hs13)).trans (TS.of s15)
          have hs15 : Stm H15 s := s15.stm hs14
          refine ⟨ss ++ [.cell e f], _, _, _, by rw [List.length_append, hl]; rfl, ⟨_, f16, ?_, ?_⟩, e16.stm np.symm hs15, ?_, rfl⟩
          · rw [List.map_append]
            refine dpa_app (dpAll_ts (t13.trans t16) _ _ (setsD_tup ss) hd) (dpa_one (.tup (t16.sqT (SqT.of f15)) (.cons (.str _) (.cons (Exp.ts ((TS.butS e14 hs13).trans ((TS.of s15).trans t16)) de) (.cons (Exp.ts ((TS.of s15).trans t16) df) .nil)))))
          · intro x hx
            rcases List.mem_append.mp hx with g | g
            · exact ho x g
            · rw [List.mem_singleton.mp g]; exact ⟨oe, of⟩
          · walk_at "bu"
        · repeat walk_at "w"
          refine w_new fun p13 H13 n13 s13 f13 => ?_
          repeat walk_at "w"
          refine kind_at (SqL.of f13) ?_
          repeat walk_at "w"
          refine ⟨s, _, rfl, s13.stm hs', by omega, by decide, fun v e H14 de oe hs14 e14 => ?_⟩
          repeat walk_at "w"
          refine w_new fun p15 H15 n15 s15 f15 => ?_
          repeat walk_at "w"
          refine w_chg fun H16 e16 f16 => ?_
          repeat walk_at "w"
          have f15' : H15 p1 = some (.lst xs) := by walk_at "tr"
          have t16 : TS H15 H16 := TS.butL e16 f15'
          have t13 : TS H' H15 := ((TS.of s13).trans (TS.butS e14 (s13.stm hs'))).trans (TS.of s15)
          have hs15 : Stm H15 s := s15.stm hs14
          refine ⟨ss ++ [.sel (decide (wy = 1)) kk nn e], _, _, _, by rw [List.length_append, hl]; rfl, ⟨_, f16, ?_, ?_⟩, e16.stm np.symm hs15, ?_, rfl⟩
          · rw [List.map_append]
            refine dpa_app (dpAll_ts (t13.trans t16) _ _ (setsD_tup ss) hd) (dpa_one (.tup (t16.sqT (SqT.of f15)) (.cons (.str _) (.cons (dp_pair ((t13.trans t16).sqT hsl')) (.cons (Exp.ts ((TS.of s15).trans t16) de) .nil)))))
          · intro x hx
            rcases List.mem_append.mp hx with g | g
            · exact ho x g
            · rw [List.mem_singleton.mp g]; exact ⟨ks, oe⟩
          · walk_at "bu"
      · repeat walk_at "w"
        refine ite2 (fun hw => ?_) (fun hw => ?_)
        · repeat walk_at "w"
          obtain ⟨xs, hx, hd, ho⟩ := hS12
          refine lc_L xs (fun D i ys H' => Same H12 H' ∧ ∃ ts, DpAll K H' ys (ts.map SetE.d) ∧ ∀ x ∈ ts, OkS 4 x) (SqL.of hx) (fun D H' hD e f => ⟨e, [], .nil, fun _ q => (List.not_mem_nil q).elim⟩) (fun D hD i ys H' hi hy hp => hp.1.sqL (SqL.of hx)) (fun D hD j x ys H' hi hj hy hp => ?_) (fun D hD ys H' hl hy hp => ?_)
          · obtain ⟨e, ts, hts, ot⟩ := hp
            obtain ⟨d, hd1, hd2⟩ := dpa_at' (dpAll_ts (TS.of e) _ _ (setsD_tup ss) hd) hi
            obtain ⟨a, ha, rfl⟩ : ∃ a ∈ ss, a.d = d := List.mem_map.mp (List.mem_of_getElem? hd1)
            obtain ⟨pa, r, rfl, hpa⟩ := SetE.at0 hd2
            repeat walk_at "w"
            refine ite2 (fun hk => ?_) (fun hk => ?_)
            · repeat walk_at "w"
              refine lc_end hy hj (by have := (List.getElem?_eq_some_iff.mp hi).1; rw [sizeLine_eq]; have := dpa_len hd; rw [List.length_map] at this; omega) fun H'' e2 f2 => ?_
              have t2 : TS H' H'' := TS.butL e2 hy
              refine ⟨But.new e hD e2, ts ++ [a], ?_, ?_⟩
              · rw [List.map_append]
                exact dpa_app (dpAll_ts t2 _ _ (setsD_tup ts) hts) (dpa_one (dp_ts t2 _ _ a.tup hd2))
              · intro x hx
                rcases List.mem_append.mp hx with g | g
                · exact ot x g
                · rw [List.mem_singleton.mp g]; exact ho a ha
            · exact lc_skip hy hj ⟨e, ts, hts, ot⟩
          · obtain ⟨e, ts, hts, ot⟩ := hp
            repeat walk_at "w"
            refine w_new fun p14 H14 n14 s14 f14 => ?_
            refine w_eqP (e := .list []) (.lst (SqL.of (s14.at hy)) (dpAll_ts (TS.of s14) _ _ (setsD_tup ts) hts)) (.lst (SqL.of f14) .nil) (cmpL ot) (cmpL (ss := []) (fun _ q => (List.not_mem_nil q).elim)) fun b hb => ?_
            repeat walk_at "w"
            exact hR _ _ (e.trans s14)
        · exact hR _ _ (Same.refl _)
    · obtain ⟨ss, k, y, z, hl, ⟨xs, hx, hd, ho⟩, hs5, b5, rfl⟩ := hp
      repeat walk_at "w"
      refine w_new fun p6 H6 n6 s6 f6 => ?_
      exact q _ ss H6 (.tup (SqT.of f6) (dpAll_ts (TS.of s6) _ _ (setsD_tup ss) hd)) (by omega) ho (s6.stm hs5) (b5.trans (But.of s6))
end

end J
namespace J
open PySem PySem.Spec PyProof.Rows L2
local macro_rules | `(tactic| walk_at "cls") => `(tactic| first
  | with_reducible exact Facts.cl_Parts)
local macro_rules | `(tactic| walk_at "na") => `(tactic| first
  | with_reducible exact Facts.na_Parts_rows)
local macro_rules | `(tactic| walk_at "ty") => `(tactic| first
  | with_reducible exact ty_int
  | with_reducible exact ty_bl
  | with_reducible exact ty_str
  | with_reducible exact ty_non
  | ((with_reducible refine' ty_lst ?vv); (case vv => walk_at "tr"))
  | ((with_reducible refine' ty_sqT ?vv); (case vv => walk_at "tr"))
  | ((with_reducible refine' ty_dic ?vv); (case vv => walk_at "tr")))
local macro_rules | `(tactic| walk_at "ix") => `(tactic| first | exact at0 | exact at1 | exact at2 | assumption)
local macro_rules | `(tactic| walk_at "size") => `(tactic| first
  | assumption
  | (show _ < sizeLine; rw [sizeLine_eq]; (try simp only [List.length_cons, List.length_nil, List.length_append, List.length_map]); omega)
  | (show _ ≤ sizeLine; rw [sizeLine_eq]; (try simp only [List.length_cons, List.length_nil, List.length_append, List.length_map]); omega))
local macro_rules | `(tactic| walk_at "side") => `(tactic| first
  | assumption
  | ((with_reducible refine cdw ?_ ?_) <;> omega)
  | omega
  | (exact ⟨by omega, by omega⟩)
  | (exact Or.inl ⟨by omega, by omega⟩)
  | (exact Or.inr ⟨by omega, by omega⟩)
  | decide
  | (simp only [List.length_cons, List.length_nil, List.length_append, List.length_map]; omega)
  | (show _ ≤ _; decide))
local macro_rules | `(tactic| walk_at "as") => `(tactic| with_reducible assumption)
local macro_rules | `(tactic| walk_at "tr") => `(tactic| first
  | with_reducible assumption
  | with_reducible exact upd_same
  | ((with_reducible refine' SqL.of ?hh); (case hh => walk_at "as"))
  | ((with_reducible refine' SqT.of ?hh); (case hh => walk_at "as"))
  | ((with_reducible refine' Same.stm ?ee ?gg); (case ee => walk_at "as"); (case gg => walk_at "tr"))
  | ((with_reducible refine' Same.sqT ?ee ?gg); (case ee => walk_at "as"); (case gg => walk_at "tr"))
  | ((with_reducible refine' Same.sqL ?ee ?gg); (case ee => walk_at "as"); (case gg => walk_at "tr"))
  | ((with_reducible refine' Same.at ?ee ?gg); (case ee => walk_at "as"); (case gg => walk_at "tr"))
  | ((with_reducible refine' But.stm ?ee ?ff ?gg); (case ee => walk_at "as"); (case ff => walk_at "ne"); (case gg => walk_at "tr"))
  | ((with_reducible refine' But.tup ?ee ?ff ?gg); (case ee => walk_at "as"); (case ff => walk_at "tr1"); (case gg => walk_at "tr"))
  | ((with_reducible refine' But.sqT ?ee ?ff ?gg); (case ee => walk_at "as"); (case ff => walk_at "tr1"); (case gg => walk_at "tr"))
  | ((with_reducible refine' But.tupL ?ee ?ff ?gg); (case ee => walk_at "as"); (case ff => walk_at "tr1"); (case gg => walk_at "tr"))
  | ((with_reducible refine' But.sqTL ?ee ?ff ?gg); (case ee => walk_at "as"); (case ff => walk_at "tr1"); (case gg => walk_at "tr"))
  | ((with_reducible refine' But.sqL ?ee ?ff ?gg); (case ee => walk_at "as"); (case ff => walk_at "ne"); (case gg => walk_at "tr"))
  | ((with_reducible refine' But.at ?ee ?ff ?gg); (case ee => walk_at "as"); (case ff => walk_at "ne"); (case gg => walk_at "tr")))
local macro_rules | `(tactic| walk_at "ts") => `(tactic| first
  | with_reducible assumption
  | with_reducible exact TS.refl _
  | ((with_reducible refine' TS.trans ?gg (TS.of ?ee)); (case ee => walk_at "as"); (case gg => walk_at "ts"))
  | ((with_reducible refine' TS.trans ?gg (TS.butS ?ee ?ff)); (case ee => walk_at "as"); (case ff => walk_at "tr1"); (case gg => walk_at "ts"))
  | ((with_reducible refine' TS.trans ?gg (TS.butL ?ee ?ff)); (case ee => walk_at "as"); (case ff => walk_at "tr1"); (case gg => walk_at "ts"))
  | ((with_reducible refine' TS.trans ?gg (TS.butI ?ee ?ff)); (case ee => walk_at "as"); (case ff => walk_at "tr1"); (case gg => walk_at "ts")))
local macro_rules | `(tactic| walk_at "sm") => `(tactic| first
  | with_reducible assumption
  | with_reducible exact Same.refl _
  | ((with_reducible refine' Same.trans ?gg ?ee); (case ee => walk_at "as"); (case gg => walk_at "sm"))
  | ((with_reducible refine' But.new ?gg ?nn ?ee); (case ee => walk_at "as"); (case nn => walk_at "fr"); (case gg => walk_at "sm")))
local macro_rules | `(tactic| walk_at "fr") => `(tactic| first
  | with_reducible assumption
  | ((with_reducible refine' Same.back ?ee ?nn); (case nn => walk_at "as"); (case ee => walk_at "sm"))
  | ((with_reducible refine' But.back ?ee ?ff ?nn); (case nn => walk_at "as"); (case ff => walk_at "ne0"); (case ee => walk_at "bu")))
local macro_rules | `(tactic| walk_at "bu") => `(tactic| first
  | with_reducible assumption
  | with_reducible exact But.refl _ _
  | ((with_reducible refine' But.trans ?gg ?ee); (case ee => walk_at "as"); (case gg => walk_at "bu"))
  | ((with_reducible refine' But.trans ?gg (But.of ?ee)); (case ee => walk_at "as"); (case gg => walk_at "bu"))
  | ((with_reducible refine' But.new2 ?gg ?nn ?ee); (case ee => walk_at "as"); (case nn => walk_at "frB"); (case gg => walk_at "bu")))
local macro_rules | `(tactic| walk_at "frB") => `(tactic| first
  | with_reducible assumption
  | ((with_reducible refine' Same.back ?ee ?nn); (case nn => walk_at "as"); (case ee => walk_at "sm"))
  | ((with_reducible refine' But.back' ?ee ?ff ?nn); (case nn => walk_at "as"); (case ee => walk_at "bu"); (case ff => walk_at "tr1")))
local macro_rules | `(tactic| walk_at "tr1") => `(tactic| first
  | with_reducible assumption
  | ((with_reducible refine' Same.stm ?ee ?gg); (case ee => walk_at "as"); (case gg => walk_at "tr1"))
  | ((with_reducible refine' Same.at ?ee ?gg); (case ee => walk_at "as"); (case gg => walk_at "tr1"))
  | ((with_reducible refine' But.at ?ee ?ff ?gg); (case ee => walk_at "as"); (case ff => walk_at "ne0"); (case gg => walk_at "tr1"))
  | ((with_reducible refine' But.stm ?ee ?ff ?gg); (case ee => walk_at "as"); (case ff => walk_at "ne0"); (case gg => walk_at "tr1")))
local macro_rules | `(tactic| walk_at "ne0") => `(tactic| first
  | with_reducible assumption
  | (with_reducible apply Ne.symm; with_reducible assumption))
local macro_rules | `(tactic| walk_at "ne") => `(tactic| first
  | with_reducible assumption
  | (with_reducible apply Ne.symm; with_reducible assumption)
  | ((with_reducible refine' stm_ne ?hh ?nn); (case nn => walk_at "as"); (case hh => walk_at "tr1"))
  | ((with_reducible refine' ne_of_none ?hh ?nn); (case nn => walk_at "as"); (case hh => walk_at "tr1"))
  | ((with_reducible apply Ne.symm); (with_reducible refine' ne_of_none ?hh ?nn); (case nn => walk_at "as"); (case hh => walk_at "tr1")))
local macro_rules | `(tactic| walk_at "v") => `(tactic| first
  | with_reducible refine w_seq ?_
  | ((with_reducible refine' w_var ?vv ?_); (case vv => exact rfl))
  | with_reducible refine w_c ?_
  | with_reducible refine w_op ?_
  | with_reducible refine w_asg ?_
  | with_reducible refine w_gName ?_
  | with_reducible refine w_ret ?_
  | with_reducible refine w_ifS ?_
  | with_reducible refine w_drop ?_
  | with_reducible refine w_next ?_
  | with_reducible refine w_cons ?_
  | with_reducible refine w_nil ?_
  | with_reducible refine w_call ?_
  | with_reducible refine w_cb ?_
  | with_reducible refine w_rI0 ?_
  | with_reducible refine w_addI ?_
  | with_reducible refine w_eqI ?_
  | with_reducible refine w_neI ?_
  | with_reducible refine w_eqS ?_
  | with_reducible refine w_neS ?_
  | with_reducible refine w_eqB ?_
  | with_reducible refine w_neB ?_
  | with_reducible refine w_chain ?_
  | with_reducible refine w_test ?_
  | with_reducible refine w_tB ?_
  | with_reducible refine w_bl ?_
  | ((with_reducible refine' w_mulI ?vv ?_); (case vv => walk_at "side"))
  | ((with_reducible refine' w_rI ?vv ?_); (case vv => walk_at "side"))
  | with_reducible refine w_int1 ?_
  | with_reducible refine w_int1b ?_
  | with_reducible refine w_tup ?_
  | with_reducible refine w_lst ?_
  | with_reducible refine w_un ?_
  | with_reducible refine w_rU ?_
  | with_reducible refine w_not ?_
  | with_reducible refine w_notV ?_
  | with_reducible refine w_ifE ?_
  | with_reducible refine w_nT ?_
  | with_reducible refine w_nF ?_
  | with_reducible refine iteT ?_
  | with_reducible refine iteF ?_
  | ((with_reducible refine' w_ixT ?vv ?ww ?_); (case vv => walk_at "tr"); (case ww => walk_at "ix"))
  | ((with_reducible refine' w_ixL ?vv ?ww ?_); (case vv => walk_at "tr"); (case ww => walk_at "ix"))
  | with_reducible refine w_gSub ?_
  | ((with_reducible refine' w_setL ?vv ?ww ?_); (case vv => walk_at "tr"); (case ww => first | rfl | decide | assumption))
  | ((with_reducible refine' w_lenL ?vv ?_); (case vv => walk_at "tr"))
  | ((with_reducible refine' w_lenT ?vv ?_); (case vv => walk_at "tr"))
  | with_reducible refine w_max2 ?_
  | with_reducible refine w_max3 ?_
  | with_reducible refine w_din ?_
  | with_reducible refine w_dnotin ?_
  | with_reducible refine w_dput ?_
  | with_reducible refine w_min2 ?_
  | with_reducible refine w_bm ?_
  | with_reducible refine w_bm0 ?_
  | ((with_reducible refine' w_tyL ?vv ?_); (case vv => walk_at "tr"))
  | ((with_reducible refine' w_append ?vv ?ww ?_); (case vv => walk_at "tr"); (case ww => walk_at "size"))
  | ((with_reducible refine' w_size ?vv ?_); (case vv => walk_at "size"))
  | with_reducible refine w_forL ?_
  | with_reducible refine w_forT ?_
  | with_reducible refine w_forR1 ?_
  | with_reducible refine w_forR2 ?_
  | with_reducible refine w_lcL ?_
  | with_reducible refine w_lcT ?_
  | with_reducible refine w_lcR1 ?_
  | with_reducible refine w_yes ?_
  | with_reducible refine w_sl ?_
  | with_reducible refine w_noPart ?_
  | with_reducible refine w_part ?_
  | with_reducible refine w_int ?_
  | ((with_reducible refine' w_slL ?vv ?_); (case vv => walk_at "tr"))
  | ((with_reducible refine' w_seqL ?vv ?ww ?_); (case vv => walk_at "tr"); (case ww => rfl))
  | ((with_reducible refine' w_seqT ?vv ?ww ?_); (case vv => walk_at "tr"); (case ww => rfl))
  | with_reducible refine w_gNil ?_
  | with_reducible refine w_gCons ?_
  | with_reducible refine w_forZ ?_
  | with_reducible refine w_forM ?_
  | with_reducible refine w_forE ?_
  | with_reducible refine w_forV ?_
  | with_reducible refine w_lcZ ?_
  | with_reducible refine w_lcE ?_
  | ((with_reducible refine' w_isi (b := true) ?vv ?ww ?_); (case vv => walk_at "ty"); (case ww => decide +kernel))
  | ((with_reducible refine' w_isi (b := false) ?vv ?ww ?_); (case vv => walk_at "ty"); (case ww => decide +kernel))
  | with_reducible refine w_revL ?_
  | with_reducible refine w_pairN ?_
  | with_reducible refine w_pairC ?_
  | with_reducible refine w_dget ?_
  | with_reducible refine w_met ?_
  | ((with_reducible refine' w_metAt ?vv ?ww ?_); (case vv => walk_at "tr"); (case ww => rfl))
  | with_reducible refine w_mkI ?_
  | with_reducible refine w_fld ?_
  | ((with_reducible refine' w_fldAt ?vv ?cc ?nn ?ww ?_); (case vv => walk_at "tr"); (case cc => walk_at "cls"); (case nn => walk_at "na"); (case ww => rfl))
  | with_reducible refine w_sfld ?_
  | ((with_reducible refine' w_sfldAt ?vv ?cc ?nn ?ll ?ee ?_); (case vv => walk_at "tr"); (case cc => walk_at "cls"); (case nn => walk_at "na"); (case ll => simp); (case ee => rfl))
  | ((with_reducible refine' w_tupL ?vv ?_); (case vv => walk_at "tr"))
  | ((with_reducible refine' w_tupT ?vv ?_); (case vv => walk_at "tr"))
  | ((with_reducible refine' w_listL ?vv ?_); (case vv => walk_at "tr"))
  | ((with_reducible refine' w_listT ?vv ?_); (case vv => walk_at "tr"))
  | with_reducible refine w_tyS ?_
  | with_reducible refine w_retN ?_
  | with_reducible refine w_break ?_
  | with_reducible refine w_cont ?_)
local macro_rules | `(tactic| walk_at "w") => `(tactic| first
  | walk_at "v"
  | with_reducible refine w_or ?_
  | with_reducible refine w_and ?_
  | with_reducible refine w_andV ?_
  | with_reducible refine w_orV ?_)
local macro_rules | `(tactic| walk_at "wd") => `(tactic| first
  | walk_at "w"
  | ((with_reducible refine' w_decT ?vv ?_); (case vv => decide +kernel))
  | ((with_reducible refine' w_decF ?vv ?_); (case vv => decide +kernel)))
local macro_rules | `(tactic| walk_at "tz") => `(tactic| (intro S z; (repeat walk_at "w"); exact z))
local macro_rules | `(tactic| walk_at "wf") => `(tactic| first
  | walk_at "wd"
  | ((with_reducible refine' w_decF ?vv ?_); (case vv => with_reducible assumption)))
/-! ### the law's own parts -/
/-- a list of rows -/
def PL (K : PySem.W.Frag) (H : Hp) (l : Addr) (ps : List PyData) : Prop := ∃ xs, H l = some (.lst xs) ∧ DpAll K H xs ps ∧ Rows ps
theorem PL.new {K : PySem.W.Frag} {H : Hp} {l : Addr} (h : H l = some (.lst [])) : PL K H l [] := ⟨[], h, .nil, rows_nil⟩
theorem PL.ts {K : PySem.W.Frag} {H H' : Hp} {l : Addr} {ps : List PyData} (h : PL K H l ps) (e : TS H H') (k : ∀ xs, H l = some (.lst xs) → H' l = some (.lst xs)) : PL K H' l ps := by
  obtain ⟨xs, h, d, o⟩ := h
  exact ⟨xs, k _ h, dpAll_ts e _ _ (rows_all o).1 d, o⟩
theorem PL.same {K : PySem.W.Frag} {H H' : Hp} {l : Addr} {ps : List PyData} (h : PL K H l ps) (e : Same H H') : PL K H' l ps := h.ts (TS.of e) fun _ => e _ _
theorem PL.but {K : PySem.W.Frag} {H H' : Hp} {l m : Addr} {ps qs : List PyData} (h : PL K H l ps) (g : PL K H m qs) (n : l ≠ m) (e : But m H H') : PL K H' l ps := by
  obtain ⟨_, g, _⟩ := g
  exact h.ts (TS.butL e g) fun _ q => e _ _ n q
theorem PL.tsB {K : PySem.W.Frag} {H H' : Hp} {l : Addr} {ps : List PyData} (h : PL K H l ps) (e : But l H H') : TS H H' := by
  obtain ⟨_, h, _⟩ := h
  exact TS.butL e h
/-- one row more -/
theorem PL.snoc {K : PySem.W.Frag} {H H' : Hp} {l : Addr} {ps : List PyData} {d : PyData} {xs : List V} {v : V} (h : PL K H l ps) (hx : H l = some (.lst xs)) (e : But l H H') (f : H' l = some (.lst (xs ++ [v]))) (hv : Dp K H v d) (r : Row d) : PL K H' l (ps ++ [d]) ∧ TS H H' := by
  obtain ⟨ys, h, hd, ho⟩ := h
  cases Option.some.inj (h.symm.trans hx)
  have t : TS H H' := TS.butL e h
  exact ⟨⟨_, f, dpa_app (dpAll_ts t _ _ (rows_all ho).1 hd) (dpa_one (dp_ts t _ _ r.all.1 hv)), rows_snoc ho r⟩, t⟩
theorem PL.len {K : PySem.W.Frag} {H : Hp} {l : Addr} {ps : List PyData} {xs : List V} (h : PL K H l ps) (hx : H l = some (.lst xs)) : xs.length = ps.length := by
  obtain ⟨ys, h, hd, ho⟩ := h
  cases Option.some.inj (h.symm.trans hx)
  exact dpa_len hd
theorem Item.ts {K : PySem.W.Frag} {H H' : Hp} {d : PyData} {v : V} (i : Item d) (t : TS H H') (h : Dp K H v d) : Dp K H' v d := dp_ts t _ _ i.tup h
def spPart (K : PySem.W.Frag) (n : Nat) : Sp := fun vs H Q _ => ∃ (v : V) (l : Addr) (e : Exp) (ps : List PyData), vs = [v, .ref l] ∧ Dp K H v e.d ∧ OkE n e ∧ PL K H l ps ∧ ps.length + e.cnt ≤ 1000 ∧
  ∀ r H', Dp K H' r (e.part ps).1 → PL K H' l (e.part ps).2 → But l H H' → Q r H'
theorem len_law_part {K : PySem.W.Frag} {n : Nat} {vs H Q E} (h : spPart K n vs H Q E) : vs.length = 2 := by obtain ⟨_, _, _, _, rfl, _⟩ := h; rfl
theorem no_law_part {K : PySem.W.Frag} {vs H Q E} (h : spPart K 0 vs H Q E) : False := by obtain ⟨_, _, _, _, _, _, h, _⟩ := h; exact okE_0 h
theorem exp_sel {K : PySem.W.Frag} {H : Hp} {v : V} {k s : Str} {n : Int} (h : Dp K H v (.tuple [.str s, selD k n])) : ∃ p u, v = .ref p ∧ SqT K H p [.str s, u] ∧ Dp K H u (selD k n) := by
  obtain ⟨p, xs, rfl, hs, ha⟩ := dp_tup h
  obtain ⟨x, r, rfl, hx, hr⟩ := dpa_cons ha
  obtain ⟨y, r, rfl, hy, hr⟩ := dpa_cons hr
  cases dpa_nil hr
  rw [dp_str hx] at hs
  exact ⟨p, y, rfl, hs, hy⟩
theorem exp_1 {K : PySem.W.Frag} {H : Hp} {v : V} {s : Str} {d : PyData} (h : Dp K H v (.tuple [.str s, d])) : ∃ p u, v = .ref p ∧ SqT K H p [.str s, u] ∧ Dp K H u d := by
  obtain ⟨p, xs, rfl, hs, ha⟩ := dp_tup h
  obtain ⟨x, r, rfl, hx, hr⟩ := dpa_cons ha
  obtain ⟨y, r, rfl, hy, hr⟩ := dpa_cons hr
  cases dpa_nil hr
  rw [dp_str hx] at hs
  exact ⟨p, y, rfl, hs, hy⟩
theorem exp_2 {K : PySem.W.Frag} {H : Hp} {v : V} {s : Str} {d e : PyData} (h : Dp K H v (.tuple [.str s, d, e])) : ∃ p u w, v = .ref p ∧ SqT K H p [.str s, u, w] ∧ Dp K H u d ∧ Dp K H w e := by
  obtain ⟨p, xs, rfl, hs, ha⟩ := dp_tup h
  obtain ⟨x, r, rfl, hx, hr⟩ := dpa_cons ha
  obtain ⟨y, r, rfl, hy, hr⟩ := dpa_cons hr
  obtain ⟨z, r, rfl, hz, hr⟩ := dpa_cons hr
  cases dpa_nil hr
  rw [dp_str hx] at hs
  exact ⟨p, y, z, rfl, hs, hy, hz⟩
theorem Exp.cases {n : Nat} {e : Exp} (h : OkE (n + 1) e) : (∃ j, e = .num j) ∨ (∃ j, e = .fld j) ∨ (∃ k j, e = .plc k j ∧ SelS k) ∨ (∃ k j, e = .mrk k j ∧ SelS k) ∨
    ∃ (o : Str) (es : List Exp), PyData.strOk o = true ∧ (o ≠ "number" ∧ o ≠ "field" ∧ o ≠ "place" ∧ o ≠ "mark") ∧ es.length ≤ 2 ∧ 1 ≤ es.length ∧ (∀ x ∈ es, OkE n x) ∧ e.d = .tuple (.str o :: es.map Exp.d) ∧
      (∀ ps, e.part ps = (.int (J.parts es ps).2.length, (J.parts es ps).2 ++ [.tuple (.str o :: (J.parts es ps).1)])) ∧ e.cnt = cnts es + 1 := by
  cases e with
  | num j => exact .inl ⟨j, rfl⟩
  | fld j => exact .inr (.inl ⟨j, rfl⟩)
  | plc k j => exact .inr (.inr (.inl ⟨k, j, rfl, h.2⟩))
  | mrk k j => exact .inr (.inr (.inr (.inl ⟨k, j, rfl, h.2⟩)))
  | cell a =>
    refine .inr (.inr (.inr (.inr ⟨"cell", [a], by decide +kernel, by decide +kernel, by simp, by simp, fun x hx => ?_, rfl, fun ps => rfl, by simp [Exp.cnt, cnts]⟩)))
    rw [List.mem_singleton.mp hx]
    exact okE_cell h
  | two o a b =>
    obtain ⟨oo, oa, ob⟩ := okE_two h
    obtain ⟨n1, n2, n3, n4, _⟩ := oo.ne
    refine .inr (.inr (.inr (.inr ⟨o, [a, b], oo.ok, ⟨n1, n2, n3, n4⟩, Nat.le_refl _, by simp, fun x hx => ?_, rfl, fun ps => rfl, by simp [Exp.cnt, cnts]⟩)))
    simp only [List.mem_cons, List.mem_nil_iff, or_false] at hx
    rcases hx with rfl | rfl
    · exact oa
    · exact ob
theorem exp_n {K : PySem.W.Frag} {H : Hp} {v : V} {s : Str} {ds : List PyData} (h : Dp K H v (.tuple (.str s :: ds))) : ∃ p us, v = .ref p ∧ SqT K H p (.str s :: us) ∧ DpAll K H us ds := by
  obtain ⟨p, xs, rfl, hs, ha⟩ := dp_tup h
  obtain ⟨x, r, rfl, hx, hr⟩ := dpa_cons ha
  rw [dp_str hx] at hs
  exact ⟨p, r, rfl, hs, hr⟩
theorem exps_tup : ∀ es : List Exp, tupAll (es.map Exp.d) = true
  | [] => rfl
  | e :: es => by rw [List.map_cons, tupAll, e.tup, exps_tup es]; rfl
theorem row_1 {s : Str} {d : PyData} (h : PyData.strOk s = true) (i : Item d) : Row (.tuple [.str s, d]) := ⟨_, rfl, fun x hx => by
  simp only [List.mem_cons, List.mem_nil_iff, or_false] at hx
  rcases hx with rfl | rfl
  · exact .str h
  · exact i⟩
theorem row_2 {s : Str} {d e : PyData} (h : PyData.strOk s = true) (i : Item d) (j : Item e) : Row (.tuple [.str s, d, e]) := ⟨_, rfl, fun x hx => by
  simp only [List.mem_cons, List.mem_nil_iff, or_false] at hx
  rcases hx with rfl | rfl | rfl
  · exact .str h
  · exact i
  · exact j⟩
theorem len_sub {xs : List V} {ps : List PyData} {v : V} (h : xs.length = ps.length) : ((((xs ++ [v]).length : Nat) : Int) - 1) = (ps.length : Int) := by
  rw [List.length_append, h, List.length_singleton]
  omega
section
variable {P : Program} {w : World} {K : PySem.W.Frag} {mg : Str → Option Value}
theorem ok_law_part [c : Facts K mg] : ∀ n : Nat, Fn P w K mg "_law_part" (n + 1) ["e", "parts"] ((spPart K n))
  | 0 => by
    obtain ⟨fd, F⟩ := c.d_law_part
    exact Fn.mk' (k := 0) F c.g_law_part sc_law_part (fun vs H Q E h => (no_law_part h).elim) (fun _ _ _ _ _ _ us hl => match us, hl with | [_, _], _ => rfl) (fun base cdv A outer s H vs Q E hr h => (no_law_part h).elim)
  | n + 1 => by
    have G__law_part := ok_law_part n
    obtain ⟨fd, F⟩ := c.d_law_part
    refine Fn.mk' F c.g_law_part sc_law_part (k := n + 1) (fun vs H Q E h => ?_) (fun _ _ _ _ _ _ us hl => match us, hl with | [_, _], _ => rfl) (fun base cdv A outer s H vs Q E hr h => ?_)
    · exact len_law_part h
    · have nd := sc_law_part.nd
      have hu := hu_of hr
      have hr__law_part : Room (n + 1) _ := hr.mono (by omega)
      refine ⟨_, (pss_cons (ps_if (PW.pt (pw_or (pt_cmpR (op_eqA (K := K) rfl hr.units) (pe_ix (ix_any (K := K) rfl) (pv 0) pe_int (fun _ _ => rfl)) pe_str (nomark _)) (pw_or1 (pt_cmpR (op_eqA (K := K) rfl hr.units) (pe_ix (ix_any (K := K) rfl) (pv 0) pe_int (fun _ _ => rfl)) pe_str (nomark _))))) (pss_one (ps_ret (pv 0))) pss_nil)
      (pss_cons (ps_if (PW.pt (pw_or (pt_cmpR (op_eqA (K := K) rfl hr.units) (pe_ix (ix_any (K := K) rfl) (pv 0) pe_int (fun _ _ => rfl)) pe_str (nomark _)) (pw_or1 (pt_cmpR (op_eqA (K := K) rfl hr.units) (pe_ix (ix_any (K := K) rfl) (pv 0) pe_int (fun _ _ => rfl)) pe_str (nomark _))))) (pss_one (ps_expr (pe_bm PySem.F.plainAttrs_list PySem.F.slot_list_append PySem.F.type_list_append mt_append (pv 1) (pa_cons (pe_tup (pa_cons (pe_ix (ix_any (K := K) rfl) (pe_lst (pa_cons pe_str (pa_cons pe_str pa_nil))) (pe_callTy call_int1A (by rfl) c.f_int boot_int (pa_cons (pe_cmpR (op_eqA (K := K) rfl hr.units) (pe_ix (ix_any (K := K) rfl) (pv 0) pe_int (fun _ _ => rfl)) pe_str (nomark _)) pa_nil)) (fun _ _ => rfl)) (pa_cons (pe_ix (ix_any (K := K) rfl) (pv 0) pe_int (fun _ _ => rfl)) pa_nil))) pa_nil)))) (pss_one (ps_if (pt_cmpR (op_eqA (K := K) rfl hr.units) (pe_ix (ix_any (K := K) rfl) (pv 0) pe_int (fun _ _ => rfl)) pe_str (nomark _)) (pss_cons (ps_set (i := 2) nd rfl (Or.inl rfl) (pe_fn G__law_part hr__law_part (by rfl) (pa_cons (pe_ix (ix_any (K := K) rfl) (pv 0) pe_int (fun _ _ => rfl)) (pa_cons (pv 1) pa_nil))))
      (pss_one (ps_expr (pe_bm PySem.F.plainAttrs_list PySem.F.slot_list_append PySem.F.type_list_append mt_append (pv 1) (pa_cons (pe_tup (pa_cons pe_str (pa_cons (pv 2) pa_nil))) pa_nil))))) (pss_cons (ps_set (i := 3) nd rfl (Or.inl rfl) (pe_fn G__law_part hr__law_part (by rfl) (pa_cons (pe_ix (ix_any (K := K) rfl) (pv 0) pe_int (fun _ _ => rfl)) (pa_cons (pv 1) pa_nil))))
      (pss_cons (ps_set (i := 4) nd rfl (Or.inl rfl) (pe_fn G__law_part hr__law_part (by rfl) (pa_cons (pe_ix (ix_any (K := K) rfl) (pv 0) pe_int (fun _ _ => rfl)) (pa_cons (pv 1) pa_nil))))
      (pss_one (ps_expr (pe_bm PySem.F.plainAttrs_list PySem.F.slot_list_append PySem.F.type_list_append mt_append (pv 1) (pa_cons (pe_tup (pa_cons (pe_ix (ix_any (K := K) rfl) (pv 0) pe_int (fun _ _ => rfl)) (pa_cons (pv 3) (pa_cons (pv 4) pa_nil)))) pa_nil)))))))))
      (pss_one (ps_ret (pe_op op_sub (pe_callB (call_lenA (K := K) rfl) (by rfl) c.f_len boot_len (pa_cons (pv 1) pa_nil)) pe_int))))), ?_⟩
      try dsimp only [cxOf, Cx.nox, Cx.wish]
      obtain ⟨v, l, e, ps, rfl, hv, oe, hP, hz, q⟩ := h
      cases e with
      | num j =>
        obtain ⟨p, u, rfl, hp, hu'⟩ := exp_1 hv
        repeat walk_at "wf"
        exact q _ H hv hP (But.refl _ _)
      | fld j =>
        obtain ⟨p, u, rfl, hp, hu'⟩ := exp_1 hv
        repeat walk_at "wf"
        exact q _ H hv hP (But.refl _ _)
      | plc k j =>
        obtain ⟨p, u, rfl, hp, hu'⟩ := exp_1 hv
        obtain ⟨xs, hx, _⟩ := id hP
        have hxl : xs.length ≤ 1000 := by rw [hP.len hx]; omega
        repeat walk_at "wf"
        refine w_new fun p1 H1 n1 s1 f1 => ?_
        repeat walk_at "w"
        refine w_new fun p2 H2 n2 s2 f2 => ?_
        repeat walk_at "w"
        refine w_chg fun H3 e3 f3 => ?_
        repeat walk_at "w"
        have s12 : Same H H2 := s1.trans s2
        have z := PL.snoc (hP.same s12) (s12 _ _ hx) e3 f3 (.tup (SqT.of f2) (.cons (.str _) (.cons (dp_ts (TS.of s12) _ _ (tupD_sel _ _) hu') .nil))) (row_sel (by decide +kernel) oe.2)
        rw [len_sub (hP.len hx)]
        exact q _ H3 (.int _) z.1 (by walk_at "bu")
      | mrk k j =>
        obtain ⟨p, u, rfl, hp, hu'⟩ := exp_1 hv
        obtain ⟨xs, hx, _⟩ := id hP
        have hxl : xs.length ≤ 1000 := by rw [hP.len hx]; omega
        repeat walk_at "wf"
        refine w_new fun p1 H1 n1 s1 f1 => ?_
        repeat walk_at "w"
        refine w_new fun p2 H2 n2 s2 f2 => ?_
        repeat walk_at "w"
        refine w_chg fun H3 e3 f3 => ?_
        repeat walk_at "w"
        have s12 : Same H H2 := s1.trans s2
        have z := PL.snoc (hP.same s12) (s12 _ _ hx) e3 f3 (.tup (SqT.of f2) (.cons (.str _) (.cons (dp_ts (TS.of s12) _ _ (tupD_sel _ _) hu') .nil))) (row_sel (by decide +kernel) oe.2)
        rw [len_sub (hP.len hx)]
        exact q _ H3 (.int _) z.1 (by walk_at "bu")
      | cell a =>
        obtain ⟨p, u, rfl, hp, hu'⟩ := exp_1 hv
        rw [Exp.cnt] at hz
        repeat walk_at "wf"
        refine ⟨u, l, a, ps, rfl, hu', okE_cell oe, hP, by omega, fun r H1 hr1 hP1 e1 => ?_⟩
        obtain ⟨xs, hx, _⟩ := id hP1
        have hxl : xs.length ≤ 1000 := by rw [hP1.len hx, a.part_len]; omega
        have i1 := (a.part_ok oe.2 hP.choose_spec.2.2).1
        repeat walk_at "w"
        refine w_new fun p2 H2 n2 s2 f2 => ?_
        repeat walk_at "w"
        refine w_chg fun H3 e3 f3 => ?_
        repeat walk_at "w"
        have z := PL.snoc (hP1.same s2) (s2 _ _ hx) e3 f3 (.tup (SqT.of f2) (.cons (.str _) (.cons (i1.ts (TS.of s2) hr1) .nil))) (row_1 (by decide +kernel) i1)
        rw [len_sub (hP1.len hx)]
        exact q _ H3 (.int _) z.1 (by walk_at "bu")
      | two o a b =>
        obtain ⟨p, u, u2, rfl, hp, hu', hu2⟩ := exp_2 hv
        obtain ⟨oo, oa, ob⟩ := okE_two oe
        obtain ⟨n1, n2, n3, n4, n5⟩ := oo.ne
        rw [Exp.cnt] at hz
        repeat walk_at "wf"
        refine ⟨u, l, a, ps, rfl, hu', oa, hP, by omega, fun r H1 hr1 hP1 e1 => ?_⟩
        have hp1 : SqT K H1 p _ := (hP.tsB e1).sqT hp
        have i1 := (a.part_ok oa.2 hP.choose_spec.2.2)
        repeat walk_at "w"
        refine ⟨u2, l, b, _, rfl, dp_ts (hP.tsB e1) _ _ b.tup hu2, ob, hP1, by rw [a.part_len]; omega, fun r2 H2 hr2 hP2 e2 => ?_⟩
        have hp2 : SqT K H2 p _ := (hP1.tsB e2).sqT hp1
        have i2 := (b.part_ok ob.2 i1.2)
        obtain ⟨xs, hx, _⟩ := id hP2
        have hxl : xs.length ≤ 1000 := by rw [hP2.len hx, b.part_len, a.part_len]; omega
        repeat walk_at "w"
        refine w_new fun p3 H3 n3 s3 f3 => ?_
        repeat walk_at "w"
        refine w_chg fun H4 e4 f4 => ?_
        repeat walk_at "w"
        have z := PL.snoc (hP2.same s3) (s3 _ _ hx) e4 f4 (.tup (SqT.of f3) (.cons (.str _) (.cons (i1.1.ts ((hP1.tsB e2).trans (TS.of s3)) hr1) (.cons (i2.1.ts (TS.of s3) hr2) .nil)))) (row_2 oo.ok i1.1 i2.1)
        rw [len_sub (hP2.len hx)]
        exact q _ H4 (.int _) z.1 (by walk_at "bu")
end

end J
namespace J
open PySem PySem.Spec PyProof.Rows L2
local macro_rules | `(tactic| walk_at "cls") => `(tactic| first
  | with_reducible exact Facts.cl_Parts)
local macro_rules | `(tactic| walk_at "na") => `(tactic| first
  | with_reducible exact Facts.na_Parts_rows)
local macro_rules | `(tactic| walk_at "ty") => `(tactic| first
  | with_reducible exact ty_int
  | with_reducible exact ty_bl
  | with_reducible exact ty_str
  | with_reducible exact ty_non
  | ((with_reducible refine' ty_lst ?vv); (case vv => walk_at "tr"))
  | ((with_reducible refine' ty_sqT ?vv); (case vv => walk_at "tr"))
  | ((with_reducible refine' ty_dic ?vv); (case vv => walk_at "tr")))
local macro_rules | `(tactic| walk_at "ix") => `(tactic| first | exact at0 | exact at1 | exact at2 | assumption)
local macro_rules | `(tactic| walk_at "size") => `(tactic| first
  | assumption
  | (show _ < sizeLine; rw [sizeLine_eq]; (try simp only [List.length_cons, List.length_nil, List.length_append, List.length_map]); omega)
  | (show _ ≤ sizeLine; rw [sizeLine_eq]; (try simp only [List.length_cons, List.length_nil, List.length_append, List.length_map]); omega))
local macro_rules | `(tactic| walk_at "side") => `(tactic| first
  | assumption
  | ((with_reducible refine cdw ?_ ?_) <;> omega)
  | omega
  | (exact ⟨by omega, by omega⟩)
  | (exact Or.inl ⟨by omega, by omega⟩)
  | (exact Or.inr ⟨by omega, by omega⟩)
  | decide
  | (simp only [List.length_cons, List.length_nil, List.length_append, List.length_map]; omega)
  | (show _ ≤ _; decide))
local macro_rules | `(tactic| walk_at "as") => `(tactic| with_reducible assumption)
local macro_rules | `(tactic| walk_at "tr") => `(tactic| first
  | with_reducible assumption
  | with_reducible exact upd_same
  | ((with_reducible refine' SqL.of ?hh); (case hh => walk_at "as"))
  | ((with_reducible refine' SqT.of ?hh); (case hh => walk_at "as"))
  | ((with_reducible refine' Same.stm ?ee ?gg); (case ee => walk_at "as"); (case gg => walk_at "tr"))
  | ((with_reducible refine' Same.sqT ?ee ?gg); (case ee => walk_at "as"); (case gg => walk_at "tr"))
  | ((with_reducible refine' Same.sqL ?ee ?gg); (case ee => walk_at "as"); (case gg => walk_at "tr"))
  | ((with_reducible refine' Same.at ?ee ?gg); (case ee => walk_at "as"); (case gg => walk_at "tr"))
  | ((with_reducible refine' But.stm ?ee ?ff ?gg); (case ee => walk_at "as"); (case ff => walk_at "ne"); (case gg => walk_at "tr"))
  | ((with_reducible refine' But.tup ?ee ?ff ?gg); (case ee => walk_at "as"); (case ff => walk_at "tr1"); (case gg => walk_at "tr"))
  | ((with_reducible refine' But.sqT ?ee ?ff ?gg); (case ee => walk_at "as"); (case ff => walk_at "tr1"); (case gg => walk_at "tr"))
  | ((with_reducible refine' But.tupL ?ee ?ff ?gg); (case ee => walk_at "as"); (case ff => walk_at "tr1"); (case gg => walk_at "tr"))
  | ((with_reducible refine' But.sqTL ?ee ?ff ?gg); (case ee => walk_at "as"); (case ff => walk_at "tr1"); (case gg => walk_at "tr"))
  | ((with_reducible refine' But.sqL ?ee ?ff ?gg); (case ee => walk_at "as"); (case ff => walk_at "ne"); (case gg => walk_at "tr"))
  | ((with_reducible refine' But.at ?ee ?ff ?gg); (case ee => walk_at "as"); (case ff => walk_at "ne"); (case gg => walk_at "tr")))
local macro_rules | `(tactic| walk_at "ts") => `(tactic| first
  | with_reducible assumption
  | with_reducible exact TS.refl _
  | ((with_reducible refine' TS.trans ?gg (TS.of ?ee)); (case ee => walk_at "as"); (case gg => walk_at "ts"))
  | ((with_reducible refine' TS.trans ?gg (TS.butS ?ee ?ff)); (case ee => walk_at "as"); (case ff => walk_at "tr1"); (case gg => walk_at "ts"))
  | ((with_reducible refine' TS.trans ?gg (TS.butL ?ee ?ff)); (case ee => walk_at "as"); (case ff => walk_at "tr1"); (case gg => walk_at "ts"))
  | ((with_reducible refine' TS.trans ?gg (TS.butI ?ee ?ff)); (case ee => walk_at "as"); (case ff => walk_at "tr1"); (case gg => walk_at "ts")))
local macro_rules | `(tactic| walk_at "sm") => `(tactic| first
  | with_reducible assumption
  | with_reducible exact Same.refl _
  | ((with_reducible refine' Same.trans ?gg ?ee); (case ee => walk_at "as"); (case gg => walk_at "sm"))
  | ((with_reducible refine' But.new ?gg ?nn ?ee); (case ee => walk_at "as"); (case nn => walk_at "fr"); (case gg => walk_at "sm")))
local macro_rules | `(tactic| walk_at "fr") => `(tactic| first
  | with_reducible assumption
  | ((with_reducible refine' Same.back ?ee ?nn); (case nn => walk_at "as"); (case ee => walk_at "sm"))
  | ((with_reducible refine' But.back ?ee ?ff ?nn); (case nn => walk_at "as"); (case ff => walk_at "ne0"); (case ee => walk_at "bu")))
local macro_rules | `(tactic| walk_at "bu") => `(tactic| first
  | with_reducible assumption
  | with_reducible exact But.refl _ _
  | ((with_reducible refine' But.trans ?gg ?ee); (case ee => walk_at "as"); (case gg => walk_at "bu"))
  | ((with_reducible refine' But.trans ?gg (But.of ?ee)); (case ee => walk_at "as"); (case gg => walk_at "bu"))
  | ((with_reducible refine' But.new2 ?gg ?nn ?ee); (case ee => walk_at "as"); (case nn => walk_at "frB"); (case gg => walk_at "bu")))
local macro_rules | `(tactic| walk_at "frB") => `(tactic| first
  | with_reducible assumption
  | ((with_reducible refine' Same.back ?ee ?nn); (case nn => walk_at "as"); (case ee => walk_at "sm"))
  | ((with_reducible refine' But.back' ?ee ?ff ?nn); (case nn => walk_at "as"); (case ee => walk_at "bu"); (case ff => walk_at "tr1")))
local macro_rules | `(tactic| walk_at "tr1") => `(tactic| first
  | with_reducible assumption
  | ((with_reducible refine' Same.stm ?ee ?gg); (case ee => walk_at "as"); (case gg => walk_at "tr1"))
  | ((with_reducible refine' Same.at ?ee ?gg); (case ee => walk_at "as"); (case gg => walk_at "tr1"))
  | ((with_reducible refine' But.at ?ee ?ff ?gg); (case ee => walk_at "as"); (case ff => walk_at "ne0"); (case gg => walk_at "tr1"))
  | ((with_reducible refine' But.stm ?ee ?ff ?gg); (case ee => walk_at "as"); (case ff => walk_at "ne0"); (case gg => walk_at "tr1")))
local macro_rules | `(tactic| walk_at "ne0") => `(tactic| first
  | with_reducible assumption
  | (with_reducible apply Ne.symm; with_reducible assumption))
local macro_rules | `(tactic| walk_at "ne") => `(tactic| first
  | with_reducible assumption
  | (with_reducible apply Ne.symm; with_reducible assumption)
  | ((with_reducible refine' stm_ne ?hh ?nn); (case nn => walk_at "as"); (case hh => walk_at "tr1"))
  | ((with_reducible refine' ne_of_none ?hh ?nn); (case nn => walk_at "as"); (case hh => walk_at "tr1"))
  | ((with_reducible apply Ne.symm); (with_reducible refine' ne_of_none ?hh ?nn); (case nn => walk_at "as"); (case hh => walk_at "tr1")))
local macro_rules | `(tactic| walk_at "v") => `(tactic| first
  | with_reducible refine w_seq ?_
  | ((with_reducible refine' w_var ?vv ?_); (case vv => exact rfl))
  | with_reducible refine w_c ?_
  | with_reducible refine w_op ?_
  | with_reducible refine w_asg ?_
  | with_reducible refine w_gName ?_
  | with_reducible refine w_ret ?_
  | with_reducible refine w_ifS ?_
  | with_reducible refine w_drop ?_
  | with_reducible refine w_next ?_
  | with_reducible refine w_cons ?_
  | with_reducible refine w_nil ?_
  | with_reducible refine w_call ?_
  | with_reducible refine w_cb ?_
  | with_reducible refine w_rI0 ?_
  | with_reducible refine w_addI ?_
  | with_reducible refine w_eqI ?_
  | with_reducible refine w_neI ?_
  | with_reducible refine w_eqS ?_
  | with_reducible refine w_neS ?_
  | with_reducible refine w_eqB ?_
  | with_reducible refine w_neB ?_
  | with_reducible refine w_chain ?_
  | with_reducible refine w_test ?_
  | with_reducible refine w_tB ?_
  | with_reducible refine w_bl ?_
  | ((with_reducible refine' w_mulI ?vv ?_); (case vv => walk_at "side"))
  | ((with_reducible refine' w_rI ?vv ?_); (case vv => walk_at "side"))
  | with_reducible refine w_int1 ?_
  | with_reducible refine w_int1b ?_
  | with_reducible refine w_tup ?_
  | with_reducible refine w_lst ?_
  | with_reducible refine w_un ?_
  | with_reducible refine w_rU ?_
  | with_reducible refine w_not ?_
  | with_reducible refine w_notV ?_
  | with_reducible refine w_ifE ?_
  | with_reducible refine w_nT ?_
  | with_reducible refine w_nF ?_
  | with_reducible refine iteT ?_
  | with_reducible refine iteF ?_
  | ((with_reducible refine' w_ixT ?vv ?ww ?_); (case vv => walk_at "tr"); (case ww => walk_at "ix"))
  | ((with_reducible refine' w_ixL ?vv ?ww ?_); (case vv => walk_at "tr"); (case ww => walk_at "ix"))
  | with_reducible refine w_gSub ?_
  | ((with_reducible refine' w_setL ?vv ?ww ?_); (case vv => walk_at "tr"); (case ww => first | rfl | decide | assumption))
  | ((with_reducible refine' w_lenL ?vv ?_); (case vv => walk_at "tr"))
  | ((with_reducible refine' w_lenT ?vv ?_); (case vv => walk_at "tr"))
  | with_reducible refine w_max2 ?_
  | with_reducible refine w_max3 ?_
  | with_reducible refine w_din ?_
  | with_reducible refine w_dnotin ?_
  | with_reducible refine w_dput ?_
  | with_reducible refine w_min2 ?_
  | with_reducible refine w_bm ?_
  | with_reducible refine w_bm0 ?_
  | ((with_reducible refine' w_tyL ?vv ?_); (case vv => walk_at "tr"))
  | ((with_reducible refine' w_append ?vv ?ww ?_); (case vv => walk_at "tr"); (case ww => walk_at "size"))
  | ((with_reducible refine' w_size ?vv ?_); (case vv => walk_at "size"))
  | with_reducible refine w_forL ?_
  | with_reducible refine w_forT ?_
  | with_reducible refine w_forR1 ?_
  | with_reducible refine w_forR2 ?_
  | with_reducible refine w_lcL ?_
  | with_reducible refine w_lcT ?_
  | with_reducible refine w_lcR1 ?_
  | with_reducible refine w_yes ?_
  | with_reducible refine w_sl ?_
  | with_reducible refine w_noPart ?_
  | with_reducible refine w_part ?_
  | with_reducible refine w_int ?_
  | ((with_reducible refine' w_slL ?vv ?_); (case vv => walk_at "tr"))
  | ((with_reducible refine' w_seqL ?vv ?ww ?_); (case vv => walk_at "tr"); (case ww => rfl))
  | ((with_reducible refine' w_seqT ?vv ?ww ?_); (case vv => walk_at "tr"); (case ww => rfl))
  | with_reducible refine w_gNil ?_
  | with_reducible refine w_gCons ?_
  | with_reducible refine w_forZ ?_
  | with_reducible refine w_forM ?_
  | with_reducible refine w_forE ?_
  | with_reducible refine w_forV ?_
  | with_reducible refine w_lcZ ?_
  | with_reducible refine w_lcE ?_
  | ((with_reducible refine' w_isi (b := true) ?vv ?ww ?_); (case vv => walk_at "ty"); (case ww => decide +kernel))
  | ((with_reducible refine' w_isi (b := false) ?vv ?ww ?_); (case vv => walk_at "ty"); (case ww => decide +kernel))
  | with_reducible refine w_revL ?_
  | with_reducible refine w_pairN ?_
  | with_reducible refine w_pairC ?_
  | with_reducible refine w_dget ?_
  | with_reducible refine w_met ?_
  | ((with_reducible refine' w_metAt ?vv ?ww ?_); (case vv => walk_at "tr"); (case ww => rfl))
  | with_reducible refine w_mkI ?_
  | with_reducible refine w_fld ?_
  | ((with_reducible refine' w_fldAt ?vv ?cc ?nn ?ww ?_); (case vv => walk_at "tr"); (case cc => walk_at "cls"); (case nn => walk_at "na"); (case ww => rfl))
  | with_reducible refine w_sfld ?_
  | ((with_reducible refine' w_sfldAt ?vv ?cc ?nn ?ll ?ee ?_); (case vv => walk_at "tr"); (case cc => walk_at "cls"); (case nn => walk_at "na"); (case ll => simp); (case ee => rfl))
  | ((with_reducible refine' w_tupL ?vv ?_); (case vv => walk_at "tr"))
  | ((with_reducible refine' w_tupT ?vv ?_); (case vv => walk_at "tr"))
  | ((with_reducible refine' w_listL ?vv ?_); (case vv => walk_at "tr"))
  | ((with_reducible refine' w_listT ?vv ?_); (case vv => walk_at "tr"))
  | with_reducible refine w_tyS ?_
  | with_reducible refine w_retN ?_
  | with_reducible refine w_break ?_
  | with_reducible refine w_cont ?_)
local macro_rules | `(tactic| walk_at "w") => `(tactic| first
  | walk_at "v"
  | with_reducible refine w_or ?_
  | with_reducible refine w_and ?_
  | with_reducible refine w_andV ?_
  | with_reducible refine w_orV ?_)
local macro_rules | `(tactic| walk_at "wd") => `(tactic| first
  | walk_at "w"
  | ((with_reducible refine' w_decT ?vv ?_); (case vv => decide +kernel))
  | ((with_reducible refine' w_decF ?vv ?_); (case vv => decide +kernel)))
local macro_rules | `(tactic| walk_at "tz") => `(tactic| (intro S z; (repeat walk_at "w"); exact z))
local macro_rules | `(tactic| walk_at "wf") => `(tactic| first
  | walk_at "wd"
  | ((with_reducible refine' w_decF ?vv ?_); (case vv => with_reducible assumption)))
/-! ### the program's parts and roots -/
def spInit (C : Addr) : Sp := fun vs H Q _ => ∃ (p dx : Addr), vs = [.ref p] ∧ H p = some (.ins C dx []) ∧ ∀ l H', H' p = some (.ins C dx [("rows", .ref l)]) → H' l = some (.lst []) → H l = none → But p H H' → Q .non H'
theorem len_Partsu_initu {C : Addr} {vs H Q E} (h : spInit C vs H Q E) : vs.length = 1 := by obtain ⟨_, _, rfl, _⟩ := h; rfl
def spPartIn (K : PySem.W.Frag) (C : Addr) (n : Nat) : Sp := fun vs H Q _ => ∃ (v : V) (p dx l : Addr) (e : Exp) (ps : List PyData), vs = [.ref p, v] ∧ H p = some (.ins C dx [("rows", .ref l)]) ∧ Dp K H v e.d ∧ OkE n e ∧ PL K H l ps ∧ ps.length + e.cnt ≤ 1000 ∧
  ∀ r H', Dp K H' r (e.part ps).1 → PL K H' l (e.part ps).2 → But l H H' → Q r H'
theorem len_Parts_part_in {K : PySem.W.Frag} {C : Addr} {n : Nat} {vs H Q E} (h : spPartIn K C n vs H Q E) : vs.length = 2 := by obtain ⟨_, _, _, _, _, _, rfl, _⟩ := h; rfl
theorem no_Parts_part_in {K : PySem.W.Frag} {C : Addr} {vs H Q E} (h : spPartIn K C 0 vs H Q E) : False := by obtain ⟨_, _, _, _, _, _, _, _, _, h, _⟩ := h; exact okE_0 h
section
variable {P : Program} {w : World} {K : PySem.W.Frag} {mg : Str → Option Value}
theorem ok_Partsu_initu [c : Facts K mg] {f : Addr} {fd : FuncData} (F : FunD K "__init__" "Parts.__init__" (defArgs s_Partsu_initu) (defBody s_Partsu_initu) (defScope s_Partsu_initu) [] [] f fd) : FnA P w K mg f 1 ["self"] ((spInit (He.ga K "Parts"))) := by
  refine FnA.mk' F sc_Partsu_initu (k := 0) (fun vs H Q E h => ?_) (fun _ _ _ _ _ _ us hl => match us, hl with | [_], _ => rfl) (fun base cdv A outer s H vs Q E hr h => ?_)
  · exact len_Partsu_initu h
  · have nd := sc_Partsu_initu.nd
    have hu := hu_of hr
    refine ⟨_, (pss_one (ps_fld (pv 0) (pe_lst pa_nil) rfl)), ?_⟩
    try dsimp only [cxOf, Cx.nox, Cx.wish]
    obtain ⟨p, dx, rfl, hp, q⟩ := h
    repeat walk_at "w"
    refine w_new fun l H1 n1 s1 f1 => ?_
    repeat walk_at "w"
    refine w_chg fun H2 e2 f2 => ?_
    exact q l H2 f2 (e2 _ _ (ne_of f1 (s1 _ _ hp) (by intro z; cases z)) f1) n1 (But.trans (But.of s1) e2)
theorem ok_Parts_part_in [c : Facts K mg] : ∀ n : Nat, FnA P w K mg (He.ma K (He.ga K "Parts") "part_in") (n + 1) ["self", "e"] ((spPartIn K (He.ga K "Parts") n))
  | 0 => by
    obtain ⟨fd, F⟩ := c.dm_Parts_part_in
    exact FnA.mk' (k := 0) F sc_Parts_part_in (fun vs H Q E h => (no_Parts_part_in h).elim) (fun _ _ _ _ _ _ us hl => match us, hl with | [_, _], _ => rfl) (fun base cdv A outer s H vs Q E hr h => (no_Parts_part_in h).elim)
  | n + 1 => by
    have GM_Parts_part_in := ok_Parts_part_in n
    obtain ⟨fd, F⟩ := c.dm_Parts_part_in
    refine FnA.mk' F sc_Parts_part_in (k := n + 1) (fun vs H Q E h => ?_) (fun _ _ _ _ _ _ us hl => match us, hl with | [_, _], _ => rfl) (fun base cdv A outer s H vs Q E hr h => ?_)
    · exact len_Parts_part_in h
    · have nd := sc_Parts_part_in.nd
      have hu := hu_of hr
      have hrM_Parts_part_in : Room (n + 1) _ := hr.mono (by omega)
      refine ⟨_, (pss_cons (ps_if (PW.pt (pw_or (pt_cmpR (op_eqA (K := K) rfl hr.units) (pe_ix (ix_any (K := K) rfl) (pv 1) pe_int (fun _ _ => rfl)) pe_str (nomark _)) (pw_or1 (pt_cmpR (op_eqA (K := K) rfl hr.units) (pe_ix (ix_any (K := K) rfl) (pv 1) pe_int (fun _ _ => rfl)) pe_str (nomark _))))) (pss_one (ps_ret (pv 1))) pss_nil)
      (pss_cons (ps_if (pt_cmpR (op_eqA (K := K) rfl hr.units) (pe_ix (ix_any (K := K) rfl) (pv 1) pe_int (fun _ _ => rfl)) pe_str (nomark _)) (pss_one (ps_expr (pe_bm PySem.F.plainAttrs_list PySem.F.slot_list_append PySem.F.type_list_append mt_append (pe_fldK (K := K) rfl (pv 0)) (pa_cons (pe_tup (pa_cons pe_str (pa_cons (pe_ix (ix_any (K := K) rfl) (pv 1) pe_int (fun _ _ => rfl)) pa_nil))) pa_nil)))) (pss_one (ps_if (pt_cmpR (op_eqA (K := K) rfl hr.units) (pe_ix (ix_any (K := K) rfl) (pv 1) pe_int (fun _ _ => rfl)) pe_str (nomark _)) (pss_one (ps_expr (pe_bm PySem.F.plainAttrs_list PySem.F.slot_list_append PySem.F.type_list_append mt_append (pe_fldK (K := K) rfl (pv 0)) (pa_cons (pe_tup (pa_cons pe_str (pa_cons (pe_ix (ix_any (K := K) rfl) (pv 1) pe_int (fun _ _ => rfl)) pa_nil))) pa_nil)))) (pss_cons (ps_setLc (i := 2) (own := [("one", 3)]) rfl nd rfl rfl (sw_true rfl rfl rfl (by decide +kernel)) (pi_tup (pe_slice (sl_any (K := K) rfl) (pv 1) (po_some pe_int) po_none)) (blkOk_by (N := N_Parts_part_in) (sc := defScope s_Parts_part_in) (by decide +kernel)) (fun _ _ _ _ _ => (pg_name (i := 3) nd rfl (Or.inl rfl))) (fun _ _ _ _ _ => pts_nil) (fun _ _ _ _ _ => (pe_met GM_Parts_part_in rfl c.cl_Parts c.me_Parts_part_in hrM_Parts_part_in (pv 0) (pa_cons (pv 3) pa_nil))))
      (pss_one (ps_expr (pe_bm PySem.F.plainAttrs_list PySem.F.slot_list_append PySem.F.type_list_append mt_append (pe_fldK (K := K) rfl (pv 0)) (pa_cons (pe_callTy (call_tupA (K := K) rfl) (by rfl) c.f_tuple boot_tuple (pa_cons (pe_op (op_addA (K := K) rfl) (pe_lst (pa_cons (pe_ix (ix_any (K := K) rfl) (pv 1) pe_int (fun _ _ => rfl)) pa_nil)) (pv 2)) pa_nil)) pa_nil))))))))
      (pss_one (ps_ret (pe_op op_sub (pe_callB (call_lenA (K := K) rfl) (by rfl) c.f_len boot_len (pa_cons (pe_fldK (K := K) rfl (pv 0)) pa_nil)) pe_int))))), ?_⟩
      try dsimp only [cxOf, Cx.nox, Cx.wish]
      obtain ⟨v, p, dx, l, e, ps, rfl, hp, hv, oe, hP, hz, q⟩ := h
      have npl : p ≠ l := ne_of hp hP.choose_spec.1 (by intro z; cases z)
      rcases Exp.cases oe with ⟨j, rfl⟩ | ⟨j, rfl⟩ | ⟨k, j, rfl, ks⟩ | ⟨k, j, rfl, ks⟩ | ⟨o, es, oo, ⟨o1, o2, o3, o4⟩, l2, l1, oes, ed, ep, ec⟩
      · obtain ⟨t, u, rfl, ht, hu'⟩ := exp_1 hv
        repeat walk_at "wf"
        exact q _ H hv hP (But.refl _ _)
      · obtain ⟨t, u, rfl, ht, hu'⟩ := exp_1 hv
        repeat walk_at "wf"
        exact q _ H hv hP (But.refl _ _)
      · obtain ⟨t, u, rfl, ht, hu'⟩ := exp_1 hv
        obtain ⟨xs, hx, _⟩ := id hP
        have hxl : xs.length ≤ 1000 := by rw [hP.len hx]; omega
        repeat walk_at "wf"
        refine w_new fun p1 H1 n1 s1 f1 => ?_
        repeat walk_at "w"
        refine w_chg fun H2 e2 f2 => ?_
        repeat walk_at "w"
        have z := PL.snoc (hP.same s1) (s1 _ _ hx) e2 f2 (.tup (SqT.of f1) (.cons (.str _) (.cons (dp_ts (TS.of s1) _ _ (tupD_sel _ _) hu') .nil))) (row_sel (by decide +kernel) oe.2)
        rw [len_sub (hP.len hx)]
        exact q _ H2 (.int _) z.1 (by walk_at "bu")
      · obtain ⟨t, u, rfl, ht, hu'⟩ := exp_1 hv
        obtain ⟨xs, hx, _⟩ := id hP
        have hxl : xs.length ≤ 1000 := by rw [hP.len hx]; omega
        repeat walk_at "wf"
        refine w_new fun p1 H1 n1 s1 f1 => ?_
        repeat walk_at "w"
        refine w_chg fun H2 e2 f2 => ?_
        repeat walk_at "w"
        have z := PL.snoc (hP.same s1) (s1 _ _ hx) e2 f2 (.tup (SqT.of f1) (.cons (.str _) (.cons (dp_ts (TS.of s1) _ _ (tupD_sel _ _) hu') .nil))) (row_sel (by decide +kernel) oe.2)
        rw [len_sub (hP.len hx)]
        exact q _ H2 (.int _) z.1 (by walk_at "bu")
      · rw [ed] at hv
        obtain ⟨t, us, rfl, ht, hus⟩ := exp_n hv
        have hul : us.length = es.length := by rw [dpa_len hus, List.length_map]
        repeat walk_at "wf"
        refine w_slT1 (σ := []) ht ?_
        refine w_new fun p1 H1 n1 s1 f1 => ?_
        have hus1 := dpAll_ts (TS.of s1) _ _ (exps_tup es) hus
        have hp1 := s1 _ _ hp
        have hP1 := hP.same s1
        have fold : ∀ i, i ≤ es.length → (J.parts (es.take i) ps).2.length ≤ ps.length + cnts es := fun i hi => by
          rw [parts_len]
          have : ∀ (es : List Exp) (i : Nat), cnts (es.take i) ≤ cnts es := by
            intro es
            induction es with
            | nil => intro i; rw [List.take_nil]; exact Nat.le_refl _
            | cons a es ih =>
              intro i
              cases i with
              | zero => exact Nat.zero_le _
              | succ i => rw [List.take_succ_cons, cnts, cnts]; have := ih i; omega
          have := this es i
          omega
        refine lc_T us (fun D i ys H' => But l H1 H' ∧ PL K H' l (J.parts (es.take i) ps).2 ∧ DpAll K H' ys (J.parts (es.take i) ps).1) (SqT.of f1) (fun D H' hD e f => ⟨But.of e, hP1.same e, .nil⟩)
          (fun D hD i ys H' hi hy hp => (hP1.tsB hp.1).sqT (SqT.of f1)) (fun D hD i x ys H' hi hl hy hp => ?_) (fun D hD ys H' hl hy hp => ?_)
        · obtain ⟨b1, hP', hys⟩ := hp
          have hi' : i < es.length := by have := (List.getElem?_eq_some_iff.mp hi).1; omega
          obtain ⟨a, ha⟩ : ∃ a, es[i]? = some a := ⟨_, List.getElem?_eq_getElem hi'⟩
          have hza : (J.parts (es.take i) ps).2.length + a.cnt ≤ 1000 := by
            have := fold (i + 1) hi'
            rw [take_snoc ha, parts_snoc] at this
            have e : (Exp.part a (J.parts (es.take i) ps).2).2.length ≤ ps.length + cnts es := this
            rw [a.part_len] at e
            omega
          have oa := oes a (List.mem_of_getElem? ha)
          have t1 : TS H1 H' := hP1.tsB b1
          have hx : Dp K H' x a.d := by
            obtain ⟨d, hd1, hd2⟩ := dpa_at' (dpAll_ts t1 _ _ (exps_tup es) hus1) hi
            rw [List.getElem?_map, ha] at hd1
            cases Option.some.inj hd1
            exact hd2
          have hpp : H' p = some (.ins (He.ga K "Parts") dx [("rows", .ref l)]) := b1 _ _ npl hp1
          have nDl : D ≠ l := fun z => by rw [z] at hD; obtain ⟨_, g, _⟩ := hP1; rw [hD] at g; cases g
          repeat walk_at "w"
          refine ⟨x, p, dx, l, a, _, rfl, hpp, hx, oa, hP', hza, fun r H2 hr hP2 e2 => ?_⟩
          have hy2 : H2 D = some (.lst ys) := e2 _ _ nDl hy
          refine lc_end hy2 hl (by rw [sizeLine_eq]; omega) fun H3 e3 f3 => ?_
          have t2 : TS H' H2 := hP'.tsB e2
          have t3 : TS H2 H3 := TS.butL e3 hy2
          have ip := a.part_ok oa.2 hP'.choose_spec.2.2
          have ii := parts_ok (es.take i) (ps := ps) (fun y hy => (oes y (List.mem_of_mem_take hy)).2) hP.choose_spec.2.2
          rw [take_snoc ha, parts_snoc]
          refine ⟨But.new2 (b1.trans e2) hD e3, hP2.ts t3 fun _ g => e3 _ _ nDl.symm g, ?_⟩
          exact dpa_app (dpAll_ts (t2.trans t3) _ _ (items_all ii.1).1 hys) (dpa_one (ip.1.ts t3 hr))
        · obtain ⟨b1, hP', hys⟩ := hp
          rw [hul, List.take_length] at hys hP'
          have t1 : TS H1 H' := hP1.tsB b1
          have hpp : H' p = some (.ins (He.ga K "Parts") dx [("rows", .ref l)]) := b1 _ _ npl hp1
          have ht' : SqT K H' t _ := t1.sqT ((TS.of s1).sqT ht)
          obtain ⟨xs, hx, _⟩ := id hP'
          have ii := parts_ok es (ps := ps) (fun y hy => (oes y hy).2) hP.choose_spec.2.2
          have hxl : xs.length ≤ 1000 := by rw [hP'.len hx]; have := fold es.length (Nat.le_refl _); rw [List.take_length] at this; omega
          repeat walk_at "w"
          refine w_new fun p2 H2 n2 s2 f2 => ?_
          repeat walk_at "w"
          refine w_addL f2 (s2 _ _ hy) (by rw [sizeLine_eq, List.length_singleton]; omega) ?_
          refine w_new fun p3 H3 n3 s3 f3 => ?_
          repeat walk_at "w"
          refine w_new fun p4 H4 n4 s4 f4 => ?_
          repeat walk_at "w"
          refine w_chg fun H5 e5 f5 => ?_
          repeat walk_at "w"
          have s24 : Same H' H4 := (s2.trans s3).trans s4
          have z := PL.snoc (hP'.same s24) (s24 _ _ hx) e5 f5 (.tup (SqT.of f4) (.cons (.str _) (dpAll_ts (TS.of s24) _ _ (items_all ii.1).1 hys))) ⟨_, rfl, fun x hx => by
            rcases List.mem_cons.mp hx with rfl | hx
            · exact .str oo
            · exact ii.1 x hx⟩
          rw [len_sub (hP'.len hx)]
          rw [ep] at q
          exact q _ H5 (.int _) z.1 (((But.of s1).trans b1).trans ((But.of s24).trans e5))
end

end J
namespace J
open PySem PySem.Spec PyProof.Rows L2
local macro_rules | `(tactic| walk_at "cls") => `(tactic| first
  | with_reducible exact Facts.cl_Parts)
local macro_rules | `(tactic| walk_at "na") => `(tactic| first
  | with_reducible exact Facts.na_Parts_rows)
local macro_rules | `(tactic| walk_at "ty") => `(tactic| first
  | with_reducible exact ty_int
  | with_reducible exact ty_bl
  | with_reducible exact ty_str
  | with_reducible exact ty_non
  | ((with_reducible refine' ty_lst ?vv); (case vv => walk_at "tr"))
  | ((with_reducible refine' ty_sqT ?vv); (case vv => walk_at "tr"))
  | ((with_reducible refine' ty_dic ?vv); (case vv => walk_at "tr")))
local macro_rules | `(tactic| walk_at "ix") => `(tactic| first | exact at0 | exact at1 | exact at2 | assumption)
local macro_rules | `(tactic| walk_at "size") => `(tactic| first
  | assumption
  | (show _ < sizeLine; rw [sizeLine_eq]; (try simp only [List.length_cons, List.length_nil, List.length_append, List.length_map]); omega)
  | (show _ ≤ sizeLine; rw [sizeLine_eq]; (try simp only [List.length_cons, List.length_nil, List.length_append, List.length_map]); omega))
local macro_rules | `(tactic| walk_at "side") => `(tactic| first
  | assumption
  | ((with_reducible refine cdw ?_ ?_) <;> omega)
  | omega
  | (exact ⟨by omega, by omega⟩)
  | (exact Or.inl ⟨by omega, by omega⟩)
  | (exact Or.inr ⟨by omega, by omega⟩)
  | decide
  | (simp only [List.length_cons, List.length_nil, List.length_append, List.length_map]; omega)
  | (show _ ≤ _; decide))
local macro_rules | `(tactic| walk_at "as") => `(tactic| with_reducible assumption)
local macro_rules | `(tactic| walk_at "tr") => `(tactic| first
  | with_reducible assumption
  | with_reducible exact upd_same
  | ((with_reducible refine' SqL.of ?hh); (case hh => walk_at "as"))
  | ((with_reducible refine' SqT.of ?hh); (case hh => walk_at "as"))
  | ((with_reducible refine' Same.stm ?ee ?gg); (case ee => walk_at "as"); (case gg => walk_at "tr"))
  | ((with_reducible refine' Same.sqT ?ee ?gg); (case ee => walk_at "as"); (case gg => walk_at "tr"))
  | ((with_reducible refine' Same.sqL ?ee ?gg); (case ee => walk_at "as"); (case gg => walk_at "tr"))
  | ((with_reducible refine' Same.at ?ee ?gg); (case ee => walk_at "as"); (case gg => walk_at "tr"))
  | ((with_reducible refine' But.stm ?ee ?ff ?gg); (case ee => walk_at "as"); (case ff => walk_at "ne"); (case gg => walk_at "tr"))
  | ((with_reducible refine' But.tup ?ee ?ff ?gg); (case ee => walk_at "as"); (case ff => walk_at "tr1"); (case gg => walk_at "tr"))
  | ((with_reducible refine' But.sqT ?ee ?ff ?gg); (case ee => walk_at "as"); (case ff => walk_at "tr1"); (case gg => walk_at "tr"))
  | ((with_reducible refine' But.tupL ?ee ?ff ?gg); (case ee => walk_at "as"); (case ff => walk_at "tr1"); (case gg => walk_at "tr"))
  | ((with_reducible refine' But.sqTL ?ee ?ff ?gg); (case ee => walk_at "as"); (case ff => walk_at "tr1"); (case gg => walk_at "tr"))
  | ((with_reducible refine' But.sqL ?ee ?ff ?gg); (case ee => walk_at "as"); (case ff => walk_at "ne"); (case gg => walk_at "tr"))
  | ((with_reducible refine' But.at ?ee ?ff ?gg); (case ee => walk_at "as"); (case ff => walk_at "ne"); (case gg => walk_at "tr")))
local macro_rules | `(tactic| walk_at "ts") => `(tactic| first
  | with_reducible assumption
  | with_reducible exact TS.refl _
  | ((with_reducible refine' TS.trans ?gg (TS.of ?ee)); (case ee => walk_at "as"); (case gg => walk_at "ts"))
  | ((with_reducible refine' TS.trans ?gg (TS.butS ?ee ?ff)); (case ee => walk_at "as"); (case ff => walk_at "tr1"); (case gg => walk_at "ts"))
  | ((with_reducible refine' TS.trans ?gg (TS.butL ?ee ?ff)); (case ee => walk_at "as"); (case ff => walk_at "tr1"); (case gg => walk_at "ts"))
  | ((with_reducible refine' TS.trans ?gg (TS.butI ?ee ?ff)); (case ee => walk_at "as"); (case ff => walk_at "tr1"); (case gg => walk_at "ts")))
local macro_rules | `(tactic| walk_at "sm") => `(tactic| first
  | with_reducible assumption
  | with_reducible exact Same.refl _
  | ((with_reducible refine' Same.trans ?gg ?ee); (case ee => walk_at "as"); (case gg => walk_at "sm"))
  | ((with_reducible refine' But.new ?gg ?nn ?ee); (case ee => walk_at "as"); (case nn => walk_at "fr"); (case gg => walk_at "sm")))
local macro_rules | `(tactic| walk_at "fr") => `(tactic| first
  | with_reducible assumption
  | ((with_reducible refine' Same.back ?ee ?nn); (case nn => walk_at "as"); (case ee => walk_at "sm"))
  | ((with_reducible refine' But.back ?ee ?ff ?nn); (case nn => walk_at "as"); (case ff => walk_at "ne0"); (case ee => walk_at "bu")))
local macro_rules | `(tactic| walk_at "bu") => `(tactic| first
  | with_reducible assumption
  | with_reducible exact But.refl _ _
  | ((with_reducible refine' But.trans ?gg ?ee); (case ee => walk_at "as"); (case gg => walk_at "bu"))
  | ((with_reducible refine' But.trans ?gg (But.of ?ee)); (case ee => walk_at "as"); (case gg => walk_at "bu"))
  | ((with_reducible refine' But.new2 ?gg ?nn ?ee); (case ee => walk_at "as"); (case nn => walk_at "frB"); (case gg => walk_at "bu")))
local macro_rules | `(tactic| walk_at "frB") => `(tactic| first
  | with_reducible assumption
  | ((with_reducible refine' Same.back ?ee ?nn); (case nn => walk_at "as"); (case ee => walk_at "sm"))
  | ((with_reducible refine' But.back' ?ee ?ff ?nn); (case nn => walk_at "as"); (case ee => walk_at "bu"); (case ff => walk_at "tr1")))
local macro_rules | `(tactic| walk_at "tr1") => `(tactic| first
  | with_reducible assumption
  | ((with_reducible refine' Same.stm ?ee ?gg); (case ee => walk_at "as"); (case gg => walk_at "tr1"))
  | ((with_reducible refine' Same.at ?ee ?gg); (case ee => walk_at "as"); (case gg => walk_at "tr1"))
  | ((with_reducible refine' But.at ?ee ?ff ?gg); (case ee => walk_at "as"); (case ff => walk_at "ne0"); (case gg => walk_at "tr1"))
  | ((with_reducible refine' But.stm ?ee ?ff ?gg); (case ee => walk_at "as"); (case ff => walk_at "ne0"); (case gg => walk_at "tr1")))
local macro_rules | `(tactic| walk_at "ne0") => `(tactic| first
  | with_reducible assumption
  | (with_reducible apply Ne.symm; with_reducible assumption))
local macro_rules | `(tactic| walk_at "ne") => `(tactic| first
  | with_reducible assumption
  | (with_reducible apply Ne.symm; with_reducible assumption)
  | ((with_reducible refine' stm_ne ?hh ?nn); (case nn => walk_at "as"); (case hh => walk_at "tr1"))
  | ((with_reducible refine' ne_of_none ?hh ?nn); (case nn => walk_at "as"); (case hh => walk_at "tr1"))
  | ((with_reducible apply Ne.symm); (with_reducible refine' ne_of_none ?hh ?nn); (case nn => walk_at "as"); (case hh => walk_at "tr1")))
local macro_rules | `(tactic| walk_at "v") => `(tactic| first
  | with_reducible refine w_seq ?_
  | ((with_reducible refine' w_var ?vv ?_); (case vv => exact rfl))
  | with_reducible refine w_c ?_
  | with_reducible refine w_op ?_
  | with_reducible refine w_asg ?_
  | with_reducible refine w_gName ?_
  | with_reducible refine w_ret ?_
  | with_reducible refine w_ifS ?_
  | with_reducible refine w_drop ?_
  | with_reducible refine w_next ?_
  | with_reducible refine w_cons ?_
  | with_reducible refine w_nil ?_
  | with_reducible refine w_call ?_
  | with_reducible refine w_cb ?_
  | with_reducible refine w_rI0 ?_
  | with_reducible refine w_addI ?_
  | with_reducible refine w_eqI ?_
  | with_reducible refine w_neI ?_
  | with_reducible refine w_eqS ?_
  | with_reducible refine w_neS ?_
  | with_reducible refine w_eqB ?_
  | with_reducible refine w_neB ?_
  | with_reducible refine w_chain ?_
  | with_reducible refine w_test ?_
  | with_reducible refine w_tB ?_
  | with_reducible refine w_bl ?_
  | ((with_reducible refine' w_mulI ?vv ?_); (case vv => walk_at "side"))
  | ((with_reducible refine' w_rI ?vv ?_); (case vv => walk_at "side"))
  | with_reducible refine w_int1 ?_
  | with_reducible refine w_int1b ?_
  | with_reducible refine w_tup ?_
  | with_reducible refine w_lst ?_
  | with_reducible refine w_un ?_
  | with_reducible refine w_rU ?_
  | with_reducible refine w_not ?_
  | with_reducible refine w_notV ?_
  | with_reducible refine w_ifE ?_
  | with_reducible refine w_nT ?_
  | with_reducible refine w_nF ?_
  | with_reducible refine iteT ?_
  | with_reducible refine iteF ?_
  | ((with_reducible refine' w_ixT ?vv ?ww ?_); (case vv => walk_at "tr"); (case ww => walk_at "ix"))
  | ((with_reducible refine' w_ixL ?vv ?ww ?_); (case vv => walk_at "tr"); (case ww => walk_at "ix"))
  | with_reducible refine w_gSub ?_
  | ((with_reducible refine' w_setL ?vv ?ww ?_); (case vv => walk_at "tr"); (case ww => first | rfl | decide | assumption))
  | ((with_reducible refine' w_lenL ?vv ?_); (case vv => walk_at "tr"))
  | ((with_reducible refine' w_lenT ?vv ?_); (case vv => walk_at "tr"))
  | with_reducible refine w_max2 ?_
  | with_reducible refine w_max3 ?_
  | with_reducible refine w_din ?_
  | with_reducible refine w_dnotin ?_
  | with_reducible refine w_dput ?_
  | with_reducible refine w_min2 ?_
  | with_reducible refine w_bm ?_
  | with_reducible refine w_bm0 ?_
  | ((with_reducible refine' w_tyL ?vv ?_); (case vv => walk_at "tr"))
  | ((with_reducible refine' w_append ?vv ?ww ?_); (case vv => walk_at "tr"); (case ww => walk_at "size"))
  | ((with_reducible refine' w_size ?vv ?_); (case vv => walk_at "size"))
  | with_reducible refine w_forL ?_
  | with_reducible refine w_forT ?_
  | with_reducible refine w_forR1 ?_
  | with_reducible refine w_forR2 ?_
  | with_reducible refine w_lcL ?_
  | with_reducible refine w_lcT ?_
  | with_reducible refine w_lcR1 ?_
  | with_reducible refine w_yes ?_
  | with_reducible refine w_sl ?_
  | with_reducible refine w_noPart ?_
  | with_reducible refine w_part ?_
  | with_reducible refine w_int ?_
  | ((with_reducible refine' w_slL ?vv ?_); (case vv => walk_at "tr"))
  | ((with_reducible refine' w_seqL ?vv ?ww ?_); (case vv => walk_at "tr"); (case ww => rfl))
  | ((with_reducible refine' w_seqT ?vv ?ww ?_); (case vv => walk_at "tr"); (case ww => rfl))
  | with_reducible refine w_gNil ?_
  | with_reducible refine w_gCons ?_
  | with_reducible refine w_forZ ?_
  | with_reducible refine w_forM ?_
  | with_reducible refine w_forE ?_
  | with_reducible refine w_forV ?_
  | with_reducible refine w_lcZ ?_
  | with_reducible refine w_lcE ?_
  | ((with_reducible refine' w_isi (b := true) ?vv ?ww ?_); (case vv => walk_at "ty"); (case ww => decide +kernel))
  | ((with_reducible refine' w_isi (b := false) ?vv ?ww ?_); (case vv => walk_at "ty"); (case ww => decide +kernel))
  | with_reducible refine w_revL ?_
  | with_reducible refine w_pairN ?_
  | with_reducible refine w_pairC ?_
  | with_reducible refine w_dget ?_
  | with_reducible refine w_met ?_
  | ((with_reducible refine' w_metAt ?vv ?ww ?_); (case vv => walk_at "tr"); (case ww => rfl))
  | with_reducible refine w_mkI ?_
  | with_reducible refine w_fld ?_
  | ((with_reducible refine' w_fldAt ?vv ?cc ?nn ?ww ?_); (case vv => walk_at "tr"); (case cc => walk_at "cls"); (case nn => walk_at "na"); (case ww => rfl))
  | with_reducible refine w_sfld ?_
  | ((with_reducible refine' w_sfldAt ?vv ?cc ?nn ?ll ?ee ?_); (case vv => walk_at "tr"); (case cc => walk_at "cls"); (case nn => walk_at "na"); (case ll => simp); (case ee => rfl))
  | ((with_reducible refine' w_tupL ?vv ?_); (case vv => walk_at "tr"))
  | ((with_reducible refine' w_tupT ?vv ?_); (case vv => walk_at "tr"))
  | ((with_reducible refine' w_listL ?vv ?_); (case vv => walk_at "tr"))
  | ((with_reducible refine' w_listT ?vv ?_); (case vv => walk_at "tr"))
  | with_reducible refine w_tyS ?_
  | with_reducible refine w_retN ?_
  | with_reducible refine w_break ?_
  | with_reducible refine w_cont ?_)
local macro_rules | `(tactic| walk_at "w") => `(tactic| first
  | walk_at "v"
  | with_reducible refine w_or ?_
  | with_reducible refine w_and ?_
  | with_reducible refine w_andV ?_
  | with_reducible refine w_orV ?_)
local macro_rules | `(tactic| walk_at "wd") => `(tactic| first
  | walk_at "w"
  | ((with_reducible refine' w_decT ?vv ?_); (case vv => decide +kernel))
  | ((with_reducible refine' w_decF ?vv ?_); (case vv => decide +kernel)))
local macro_rules | `(tactic| walk_at "tz") => `(tactic| (intro S z; (repeat walk_at "w"); exact z))
local macro_rules | `(tactic| walk_at "wf") => `(tactic| first
  | walk_at "wd"
  | ((with_reducible refine' w_decF ?vv ?_); (case vv => with_reducible assumption)))
def spRests (K : PySem.W.Frag) : Sp := fun vs H Q _ => ∃ (v : V) (s : SetE), vs = [v] ∧ Dp K H v s.d ∧ ∀ p us H', H' p = some (.lst us) → DpAll K H' us (s.rests.map Exp.d) → Same H H' → H p = none → Q (.ref p) H'
theorem len_rests_of {K : PySem.W.Frag} {vs H Q E} (h : spRests K vs H Q E) : vs.length = 1 := by obtain ⟨_, _, rfl, _⟩ := h; rfl
def spPR (K : PySem.W.Frag) : Sp := fun vs H Q _ => ∃ (v : V) (ss : List SetE), vs = [v] ∧ Dp K H v (setsD ss) ∧ ss.length ≤ 4 ∧ (∀ x ∈ ss, OkS 4 x) ∧ ∀ t l r H', H' t = some (.tup [.ref l, .ref r]) → PL K H' l (proots ss []).2 → PL K H' r (proots ss []).1 → H l = none → H r = none → Same H H' → l ≠ r → Q (.ref t) H'
theorem len_parts_and_roots {K : PySem.W.Frag} {vs H Q E} (h : spPR K vs H Q E) : vs.length = 1 := by obtain ⟨_, _, rfl, _⟩ := h; rfl
def spPof (K : PySem.W.Frag) : Sp := fun vs H Q _ => ∃ (v : V) (ss : List SetE), vs = [v] ∧ Dp K H v (setsD ss) ∧ ss.length ≤ 4 ∧ (∀ x ∈ ss, OkS 4 x) ∧ ∀ l H', PL K H' l (proots ss []).2 → H l = none → Same H H' → Q (.ref l) H'
def spRof (K : PySem.W.Frag) : Sp := fun vs H Q _ => ∃ (v : V) (ss : List SetE), vs = [v] ∧ Dp K H v (setsD ss) ∧ ss.length ≤ 4 ∧ (∀ x ∈ ss, OkS 4 x) ∧ ∀ l H', PL K H' l (proots ss []).1 → H l = none → Same H H' → Q (.ref l) H'
theorem len_parts_of {K : PySem.W.Frag} {vs H Q E} (h : spPof K vs H Q E) : vs.length = 1 := by obtain ⟨_, _, rfl, _⟩ := h; rfl
theorem len_roots_of {K : PySem.W.Frag} {vs H Q E} (h : spRof K vs H Q E) : vs.length = 1 := by obtain ⟨_, _, rfl, _⟩ := h; rfl
theorem set_d {K : PySem.W.Frag} {H : Hp} {v : V} {ss : List SetE} (h : Dp K H v (setsD ss)) : ∃ p xs, v = .ref p ∧ SqT K H p xs ∧ DpAll K H xs (ss.map SetE.d) := dp_tup h
theorem cnts_take (es : List Exp) : ∀ i : Nat, cnts (es.take i) ≤ cnts es := by
  induction es with
  | nil => intro i; rw [List.take_nil]; exact Nat.le_refl _
  | cons a es ih =>
    intro i
    cases i with
    | zero => exact Nat.zero_le _
    | succ i => rw [List.take_succ_cons, cnts, cnts]; have := ih i; omega
section
variable {P : Program} {w : World} {K : PySem.W.Frag} {mg : Str → Option Value}
theorem ok_rests_of [c : Facts K mg] : Fn P w K mg "rests_of" 1 ["one"] ((spRests K)) := by
  obtain ⟨fd, F⟩ := c.d_rests_of
  refine Fn.mk' F c.g_rests_of sc_rests_of (k := 0) (fun vs H Q E h => ?_) (fun _ _ _ _ _ _ us hl => match us, hl with | [_], _ => rfl) (fun base cdv A outer s H vs Q E hr h => ?_)
  · exact len_rests_of h
  · have nd := sc_rests_of.nd
    have hu := hu_of hr
    refine ⟨_, (pss_cons (ps_if (pt_cmpR (op_eqA (K := K) rfl hr.units) (pe_ix (ix_any (K := K) rfl) (pv 0) pe_int (fun _ _ => rfl)) pe_str (nomark _)) (pss_one (ps_ret (pe_lst (pa_cons (pe_ix (ix_any (K := K) rfl) (pv 0) pe_int (fun _ _ => rfl)) (pa_cons (pe_ix (ix_any (K := K) rfl) (pv 0) pe_int (fun _ _ => rfl)) pa_nil))))) pss_nil)
      (pss_one (ps_ret (pe_lst (pa_cons (pe_ix (ix_any (K := K) rfl) (pv 0) pe_int (fun _ _ => rfl)) pa_nil))))), ?_⟩
    try dsimp only [cxOf, Cx.nox, Cx.wish]
    obtain ⟨v, s, rfl, hv, q⟩ := h
    cases s with
    | cell a b =>
      obtain ⟨p, u, u2, rfl, hp, hu', hu2⟩ := exp_2 hv
      repeat walk_at "wf"
      refine w_new fun p1 H1 n1 s1 f1 => ?_
      exact q _ _ H1 f1 (.cons (Exp.ts (TS.of s1) hu') (.cons (Exp.ts (TS.of s1) hu2) .nil)) s1 n1
    | sel m k n e =>
      obtain ⟨p, u, u2, rfl, hp, hu', hu2⟩ := exp_2 hv
      have nc : (if m then ("mark" : Str) else "place") ≠ "cell" := by cases m <;> decide +kernel
      repeat walk_at "wf"
      refine w_new fun p1 H1 n1 s1 f1 => ?_
      exact q _ _ H1 f1 (.cons (Exp.ts (TS.of s1) hu2) .nil) s1 n1
theorem ok_parts_and_roots [c : Facts K mg] (G_rests_of : Fn P w K mg "rests_of" 1 ["one"] ((spRests K))) (GM_Parts___init__ : FnA P w K mg (He.ma K (He.ga K "Parts") "__init__") 1 ["self"] ((spInit (He.ga K "Parts")))) (GM_Parts_part_in : FnA P w K mg (He.ma K (He.ga K "Parts") "part_in") 5 ["self", "e"] ((spPartIn K (He.ga K "Parts") 4))) : Fn P w K mg "parts_and_roots" 6 ["sets"] ((spPR K)) := by
  obtain ⟨fd, F⟩ := c.d_parts_and_roots
  refine Fn.mk' F c.g_parts_and_roots sc_parts_and_roots (k := 5) (fun vs H Q E h => ?_) (fun _ _ _ _ _ _ us hl => match us, hl with | [_], _ => rfl) (fun base cdv A outer s H vs Q E hr h => ?_)
  · exact len_parts_and_roots h
  · have nd := sc_parts_and_roots.nd
    have hu := hu_of hr
    have hr_rests_of : Room 1 _ := hr.mono (by omega)
    have hrI_Parts : Room (1 + 1) _ := hr.mono (by omega)
    have hrM_Parts_part_in : Room 5 _ := hr.mono (by omega)
    refine ⟨_, (pss_cons (ps_set (i := 1) nd rfl (Or.inr rfl) (pe_mkI0 GM_Parts___init__ rfl c.mk_Parts c.gc_Parts hrI_Parts (by rfl)))
      (pss_cons (ps_set (i := 2) nd rfl (Or.inl rfl) (pe_lst pa_nil))
      (pss_cons (ps_for PassesOwn.never rfl (pi_tup (pv 0)) (pg_name (i := 3) nd rfl (Or.inl rfl)) (pss_one (ps_expr (pe_bm PySem.F.plainAttrs_list PySem.F.slot_list_append PySem.F.type_list_append mt_append (pv 2) (pa_cons (pe_callTy (call_tupA (K := K) rfl) (by rfl) c.f_tuple boot_tuple (pa_cons (pe_lc (own := [("e", 4)]) rfl nd (pi_list (pe_fn G_rests_of hr_rests_of (by rfl) (pa_cons (pv 3) pa_nil))) (blkOk_by (N := N_parts_and_roots) (sc := defScope s_parts_and_roots) (by decide +kernel)) (fun _ _ _ _ _ => (pg_name (i := 4) nd rfl (Or.inl rfl))) (fun _ _ _ _ _ => pts_nil) (fun _ _ _ _ _ => (pe_met GM_Parts_part_in rfl c.cl_Parts c.me_Parts_part_in hrM_Parts_part_in (pv 1) (pa_cons (pv 4) pa_nil)))) pa_nil)) pa_nil)))))
      (pss_one (ps_ret (pe_tup (pa_cons (pe_fldK (K := K) rfl (pv 1)) (pa_cons (pv 2) pa_nil)))))))), ?_⟩
    try dsimp only [cxOf, Cx.nox, Cx.wish]
    obtain ⟨v, ss, rfl, hv, hl, ho, q⟩ := h
    obtain ⟨a, xs, rfl, ha, hxs⟩ := set_d hv
    have hxl : xs.length = ss.length := by rw [dpa_len hxs, List.length_map]
    repeat walk_at "w"
    refine w_newI fun p dx H1 n1 s1 f1 => ?_
    refine ⟨p, dx, rfl, f1, fun l H2 f2 fl nl e2 => ⟨rfl, ?_⟩⟩
    repeat walk_at "w"
    refine w_new fun r H3 n3 s3 f3 => ?_
    have s02 : Same H H2 := But.new s1 n1 e2
    have s03 : Same H H3 := s02.trans s3
    have nl0 : H l = none := s1.free nl
    have nr0 : H r = none := s02.free n3
    have npl : p ≠ l := fun z => by rw [z, fl] at f2; cases f2
    have nrp : r ≠ p := fun z => by rw [z, f2] at n3; cases n3
    have nrl : r ≠ l := fun z => by rw [z, fl] at n3; cases n3
    repeat walk_at "w"
    refine fl_tup xs (fun i σ H' => ∃ o, σ = [some (.ref a), some (.ref p), some (.ref r), o, none] ∧ H' p = some (.ins (He.ga K "Parts") dx [("rows", .ref l)]) ∧ PL K H' l (proots (ss.take i) []).2 ∧ PL K H' r (proots (ss.take i) []).1 ∧ Same H H') (s03.sqT ha)
      ⟨_, rfl, s3 _ _ f2, (PL.new fl).same s3, PL.new f3, s03⟩ (fun i σ H' hi hp => ?_) (fun i x σ H' hi hp => ?_) (fun σ H' hp => ?_)
    · obtain ⟨o, rfl, _, _, _, sm⟩ := hp
      exact sm.sqT ha
    · obtain ⟨o, rfl, hpp, hP, hR, sm⟩ := hp
      have hi' : i < ss.length := by have := (List.getElem?_eq_some_iff.mp hi).1; omega
      obtain ⟨s, hs⟩ : ∃ s, ss[i]? = some s := ⟨_, List.getElem?_eq_getElem hi'⟩
      have os := ho s (List.mem_of_getElem? hs)
      have hx : Dp K H' x s.d := by
        obtain ⟨d, hd1, hd2⟩ := dpa_at' (dpAll_ts (TS.of sm) _ _ (setsD_tup ss) hxs) hi
        rw [List.getElem?_map, hs] at hd1
        cases Option.some.inj hd1
        exact hd2
      obtain ⟨ys, hy, hyd, hyr⟩ := id hR
      have ln := proots_len (ss.take i) [] (fun x hx => ho x (List.mem_of_mem_take hx))
      have lt : (ss.take i).length ≤ 4 := by rw [List.length_take]; omega
      have hyl : ys.length ≤ 4 := by rw [hR.len hy, ln.2]; exact lt
      have lp : (proots (ss.take i) []).2.length ≤ 120 := by have := ln.1; rw [List.length_nil] at this; omega
      have cr := cnts_le s.rests (okS_rests os)
      have rl : s.rests.length ≤ 2 := by cases s <;> simp [SetE.rests]
      repeat walk_at "w"
      refine ⟨x, s, rfl, hx, fun t us H4 ht hus s4 n4 => ?_⟩
      have hP4 := hP.same s4
      have hul : us.length = s.rests.length := by rw [dpa_len hus, List.length_map]
      refine lc_L us (fun D j zs H' => But l H4 H' ∧ PL K H' l (J.parts (s.rests.take j) (proots (ss.take i) []).2).2 ∧ DpAll K H' zs (J.parts (s.rests.take j) (proots (ss.take i) []).2).1) (SqL.of ht) (fun D H' hD e f => ⟨But.of e, hP4.same e, .nil⟩)
        (fun D hD j zs H' hi hy hp => ?_) (fun D hD j x zs H' hj hl hy hp => ?_) (fun D hD zs H' hl hz hp => ?_)
      · refine But.sqL hp.1 (fun z => ?_) (SqL.of ht)
        obtain ⟨_, g, _⟩ := hP
        rw [z, g] at n4; cases n4
      · obtain ⟨b1, hP', hys⟩ := hp
        have hj' : j < s.rests.length := by have := (List.getElem?_eq_some_iff.mp hj).1; omega
        obtain ⟨e, he⟩ : ∃ e, s.rests[j]? = some e := ⟨_, List.getElem?_eq_getElem hj'⟩
        have oe := okS_rests os e (List.mem_of_getElem? he)
        have ce := cnt4 oe (Nat.le_refl 4)
        have hza : (J.parts (s.rests.take j) (proots (ss.take i) []).2).2.length + e.cnt ≤ 1000 := by
          rw [parts_len]
          have := cnts_take s.rests j
          omega
        have t1 : TS H4 H' := hP4.tsB b1
        have hx : Dp K H' x e.d := by
          obtain ⟨d, hd1, hd2⟩ := dpa_at' (dpAll_ts t1 _ _ (exps_tup _) hus) hj
          rw [List.getElem?_map, he] at hd1
          cases Option.some.inj hd1
          exact hd2
        have hpp' : H' p = some (.ins (He.ga K "Parts") dx [("rows", .ref l)]) := b1 _ _ npl (s4 _ _ hpp)
        have nDl : D ≠ l := fun z => by rw [z] at hD; obtain ⟨_, g, _⟩ := hP4; rw [hD] at g; cases g
        repeat walk_at "w"
        refine ⟨x, p, dx, l, e, _, rfl, hpp', hx, oe, hP', hza, fun v H5 hv5 hP5 e5 => ?_⟩
        have hy2 : H5 D = some (.lst zs) := e5 _ _ nDl hy
        refine lc_end hy2 hl (by rw [sizeLine_eq]; omega) fun H6 e6 f6 => ?_
        have t2 : TS H' H5 := hP'.tsB e5
        have t3 : TS H5 H6 := TS.butL e6 hy2
        have ip := e.part_ok oe.2 hP'.choose_spec.2.2
        have ii := parts_ok (s.rests.take j) (ps := (proots (ss.take i) []).2) (fun y hy => (okS_rests os y (List.mem_of_mem_take hy)).2) hP.choose_spec.2.2
        rw [take_snoc he, parts_snoc]
        refine ⟨But.new2 (b1.trans e5) hD e6, hP5.ts t3 fun _ g => e6 _ _ nDl.symm g, ?_⟩
        exact dpa_app (dpAll_ts (t2.trans t3) _ _ (items_all ii.1).1 hys) (dpa_one (ip.1.ts t3 hv5))
      · obtain ⟨b1, hP', hys⟩ := hp
        rw [hul, List.take_length] at hys hP'
        have nrD : H' r = some (.lst ys) := b1 _ _ nrl (s4 _ _ hy)
        have hpp' : H' p = some (.ins (He.ga K "Parts") dx [("rows", .ref l)]) := b1 _ _ npl (s4 _ _ hpp)
        have ii := parts_ok s.rests (ps := (proots (ss.take i) []).2) (fun y hy => (okS_rests os y hy).2) hP.choose_spec.2.2
        have t1 : TS H4 H' := hP4.tsB b1
        repeat walk_at "w"
        refine w_new fun t5 H5 n5 s5 f5 => ?_
        repeat walk_at "w"
        refine w_chg fun H6 e6 f6 => ?_
        repeat walk_at "w"
        have rw5 : Row (.tuple (J.parts s.rests (proots (ss.take i) []).2).1) := ⟨_, rfl, ii.1⟩
        have hR5 : PL K H5 r (proots (ss.take i) []).1 := ((hR.same s4).but hP4 nrl b1).same s5
        have z := PL.snoc hR5 (s5 _ _ nrD) e6 f6 (.tup (SqT.of f5) (dpAll_ts (TS.of s5) _ _ (items_all ii.1).1 hys)) rw5
        rw [take_snoc hs, proots_snoc]
        have bl : But l H H' := (But.of (sm.trans s4)).trans b1
        refine ⟨_, rfl, e6 _ _ nrp.symm (s5 _ _ hpp'), (hP'.same s5).but hR5 nrl.symm e6, z.1, ?_⟩
        exact But.new ((But.new (sm.trans s4) nl0 b1).trans s5) nr0 e6
    · obtain ⟨o, rfl, hpp, hP, hR, sm⟩ := hp
      rw [hxl, List.take_length] at hP hR
      repeat walk_at "w"
      refine w_new fun t H4 n4 s4 f4 => ?_
      exact q t l r H4 f4 (hP.same s4) (hR.same s4) nl0 nr0 (sm.trans s4) nrl.symm
theorem ok_parts_of [c : Facts K mg] (G_parts_and_roots : Fn P w K mg "parts_and_roots" 6 ["sets"] ((spPR K))) : Fn P w K mg "parts_of" 7 ["sets"] ((spPof K)) := by
  obtain ⟨fd, F⟩ := c.d_parts_of
  refine Fn.mk' F c.g_parts_of sc_parts_of (k := 6) (fun vs H Q E h => ?_) (fun _ _ _ _ _ _ us hl => match us, hl with | [_], _ => rfl) (fun base cdv A outer s H vs Q E hr h => ?_)
  · exact len_parts_of h
  · have nd := sc_parts_of.nd
    have hu := hu_of hr
    have hr_parts_and_roots : Room 6 _ := hr.mono (by omega)
    refine ⟨_, (pss_cons (ps_asg (pe_fn G_parts_and_roots hr_parts_and_roots (by rfl) (pa_cons (pv 0) pa_nil)) (pg_seq 2 (K := K) rfl rfl (pgs_cons (pg_name (i := 1) nd rfl (Or.inl rfl)) (pgs_cons (pg_name (i := 2) nd rfl (Or.inl rfl)) pgs_nil))))
      (pss_one (ps_ret (pv 1)))), ?_⟩
    try dsimp only [cxOf, Cx.nox, Cx.wish]
    obtain ⟨v, ss, rfl, hv, hl, ho, q⟩ := h
    repeat walk_at "w"
    refine ⟨v, ss, rfl, hv, hl, ho, fun t l r H1 ht hP hR nl nr sm ne => ?_⟩
    repeat walk_at "w"
    exact q l H1 hP nl sm
theorem ok_roots_of [c : Facts K mg] (G_parts_and_roots : Fn P w K mg "parts_and_roots" 6 ["sets"] ((spPR K))) : Fn P w K mg "roots_of" 7 ["sets"] ((spRof K)) := by
  obtain ⟨fd, F⟩ := c.d_roots_of
  refine Fn.mk' F c.g_roots_of sc_roots_of (k := 6) (fun vs H Q E h => ?_) (fun _ _ _ _ _ _ us hl => match us, hl with | [_], _ => rfl) (fun base cdv A outer s H vs Q E hr h => ?_)
  · exact len_roots_of h
  · have nd := sc_roots_of.nd
    have hu := hu_of hr
    have hr_parts_and_roots : Room 6 _ := hr.mono (by omega)
    refine ⟨_, (pss_cons (ps_asg (pe_fn G_parts_and_roots hr_parts_and_roots (by rfl) (pa_cons (pv 0) pa_nil)) (pg_seq 2 (K := K) rfl rfl (pgs_cons (pg_name (i := 1) nd rfl (Or.inl rfl)) (pgs_cons (pg_name (i := 2) nd rfl (Or.inl rfl)) pgs_nil))))
      (pss_one (ps_ret (pv 2)))), ?_⟩
    try dsimp only [cxOf, Cx.nox, Cx.wish]
    obtain ⟨v, ss, rfl, hv, hl, ho, q⟩ := h
    repeat walk_at "w"
    refine ⟨v, ss, rfl, hv, hl, ho, fun t l r H1 ht hP hR nl nr sm ne => ?_⟩
    repeat walk_at "w"
    exact q r H1 hR nr sm
end

end J
namespace J
open PySem PySem.Spec PyProof.Rows L2
local macro_rules | `(tactic| walk_at "cls") => `(tactic| first
  | with_reducible exact Facts.cl_Parts)
local macro_rules | `(tactic| walk_at "na") => `(tactic| first
  | with_reducible exact Facts.na_Parts_rows)
local macro_rules | `(tactic| walk_at "ty") => `(tactic| first
  | with_reducible exact ty_int
  | with_reducible exact ty_bl
  | with_reducible exact ty_str
  | with_reducible exact ty_non
  | ((with_reducible refine' ty_lst ?vv); (case vv => walk_at "tr"))
  | ((with_reducible refine' ty_sqT ?vv); (case vv => walk_at "tr"))
  | ((with_reducible refine' ty_dic ?vv); (case vv => walk_at "tr")))
local macro_rules | `(tactic| walk_at "ix") => `(tactic| first | exact at0 | exact at1 | exact at2 | assumption)
local macro_rules | `(tactic| walk_at "size") => `(tactic| first
  | assumption
  | (show _ < sizeLine; rw [sizeLine_eq]; (try simp only [List.length_cons, List.length_nil, List.length_append, List.length_map]); omega)
  | (show _ ≤ sizeLine; rw [sizeLine_eq]; (try simp only [List.length_cons, List.length_nil, List.length_append, List.length_map]); omega))
local macro_rules | `(tactic| walk_at "side") => `(tactic| first
  | assumption
  | ((with_reducible refine cdw ?_ ?_) <;> omega)
  | omega
  | (exact ⟨by omega, by omega⟩)
  | (exact Or.inl ⟨by omega, by omega⟩)
  | (exact Or.inr ⟨by omega, by omega⟩)
  | decide
  | (simp only [List.length_cons, List.length_nil, List.length_append, List.length_map]; omega)
  | (show _ ≤ _; decide))
local macro_rules | `(tactic| walk_at "as") => `(tactic| with_reducible assumption)
local macro_rules | `(tactic| walk_at "tr") => `(tactic| first
  | with_reducible assumption
  | with_reducible exact upd_same
  | ((with_reducible refine' SqL.of ?hh); (case hh => walk_at "as"))
  | ((with_reducible refine' SqT.of ?hh); (case hh => walk_at "as"))
  | ((with_reducible refine' Same.stm ?ee ?gg); (case ee => walk_at "as"); (case gg => walk_at "tr"))
  | ((with_reducible refine' Same.sqT ?ee ?gg); (case ee => walk_at "as"); (case gg => walk_at "tr"))
  | ((with_reducible refine' Same.sqL ?ee ?gg); (case ee => walk_at "as"); (case gg => walk_at "tr"))
  | ((with_reducible refine' Same.at ?ee ?gg); (case ee => walk_at "as"); (case gg => walk_at "tr"))
  | ((with_reducible refine' But.stm ?ee ?ff ?gg); (case ee => walk_at "as"); (case ff => walk_at "ne"); (case gg => walk_at "tr"))
  | ((with_reducible refine' But.tup ?ee ?ff ?gg); (case ee => walk_at "as"); (case ff => walk_at "tr1"); (case gg => walk_at "tr"))
  | ((with_reducible refine' But.sqT ?ee ?ff ?gg); (case ee => walk_at "as"); (case ff => walk_at "tr1"); (case gg => walk_at "tr"))
  | ((with_reducible refine' But.tupL ?ee ?ff ?gg); (case ee => walk_at "as"); (case ff => walk_at "tr1"); (case gg => walk_at "tr"))
  | ((with_reducible refine' But.sqTL ?ee ?ff ?gg); (case ee => walk_at "as"); (case ff => walk_at "tr1"); (case gg => walk_at "tr"))
  | ((with_reducible refine' But.sqL ?ee ?ff ?gg); (case ee => walk_at "as"); (case ff => walk_at "ne"); (case gg => walk_at "tr"))
  | ((with_reducible refine' But.at ?ee ?ff ?gg); (case ee => walk_at "as"); (case ff => walk_at "ne"); (case gg => walk_at "tr")))
local macro_rules | `(tactic| walk_at "ts") => `(tactic| first
  | with_reducible assumption
  | with_reducible exact TS.refl _
  | ((with_reducible refine' TS.trans ?gg (TS.of ?ee)); (case ee => walk_at "as"); (case gg => walk_at "ts"))
  | ((with_reducible refine' TS.trans ?gg (TS.butS ?ee ?ff)); (case ee => walk_at "as"); (case ff => walk_at "tr1"); (case gg => walk_at "ts"))
  | ((with_reducible refine' TS.trans ?gg (TS.butL ?ee ?ff)); (case ee => walk_at "as"); (case ff => walk_at "tr1"); (case gg => walk_at "ts"))
  | ((with_reducible refine' TS.trans ?gg (TS.butI ?ee ?ff)); (case ee => walk_at "as"); (case ff => walk_at "tr1"); (case gg => walk_at "ts")))
local macro_rules | `(tactic| walk_at "sm") => `(tactic| first
  | with_reducible assumption
  | with_reducible exact Same.refl _
  | ((with_reducible refine' Same.trans ?gg ?ee); (case ee => walk_at "as"); (case gg => walk_at "sm"))
  | ((with_reducible refine' But.new ?gg ?nn ?ee); (case ee => walk_at "as"); (case nn => walk_at "fr"); (case gg => walk_at "sm")))
local macro_rules | `(tactic| walk_at "fr") => `(tactic| first
  | with_reducible assumption
  | ((with_reducible refine' Same.back ?ee ?nn); (case nn => walk_at "as"); (case ee => walk_at "sm"))
  | ((with_reducible refine' But.back ?ee ?ff ?nn); (case nn => walk_at "as"); (case ff => walk_at "ne0"); (case ee => walk_at "bu")))
local macro_rules | `(tactic| walk_at "bu") => `(tactic| first
  | with_reducible assumption
  | with_reducible exact But.refl _ _
  | ((with_reducible refine' But.trans ?gg ?ee); (case ee => walk_at "as"); (case gg => walk_at "bu"))
  | ((with_reducible refine' But.trans ?gg (But.of ?ee)); (case ee => walk_at "as"); (case gg => walk_at "bu"))
  | ((with_reducible refine' But.new2 ?gg ?nn ?ee); (case ee => walk_at "as"); (case nn => walk_at "frB"); (case gg => walk_at "bu")))
local macro_rules | `(tactic| walk_at "frB") => `(tactic| first
  | with_reducible assumption
  | ((with_reducible refine' Same.back ?ee ?nn); (case nn => walk_at "as"); (case ee => walk_at "sm"))
  | ((with_reducible refine' But.back' ?ee ?ff ?nn); (case nn => walk_at "as"); (case ee => walk_at "bu"); (case ff => walk_at "tr1")))
local macro_rules | `(tactic| walk_at "tr1") => `(tactic| first
  | with_reducible assumption
  | ((with_reducible refine' Same.stm ?ee ?gg); (case ee => walk_at "as"); (case gg => walk_at "tr1"))
  | ((with_reducible refine' Same.at ?ee ?gg); (case ee => walk_at "as"); (case gg => walk_at "tr1"))
  | ((with_reducible refine' But.at ?ee ?ff ?gg); (case ee => walk_at "as"); (case ff => walk_at "ne0"); (case gg => walk_at "tr1"))
  | ((with_reducible refine' But.stm ?ee ?ff ?gg); (case ee => walk_at "as"); (case ff => walk_at "ne0"); (case gg => walk_at "tr1")))
local macro_rules | `(tactic| walk_at "ne0") => `(tactic| first
  | with_reducible assumption
  | (with_reducible apply Ne.symm; with_reducible assumption))
local macro_rules | `(tactic| walk_at "ne") => `(tactic| first
  | with_reducible assumption
  | (with_reducible apply Ne.symm; with_reducible assumption)
  | ((with_reducible refine' stm_ne ?hh ?nn); (case nn => walk_at "as"); (case hh => walk_at "tr1"))
  | ((with_reducible refine' ne_of_none ?hh ?nn); (case nn => walk_at "as"); (case hh => walk_at "tr1"))
  | ((with_reducible apply Ne.symm); (with_reducible refine' ne_of_none ?hh ?nn); (case nn => walk_at "as"); (case hh => walk_at "tr1")))
local macro_rules | `(tactic| walk_at "v") => `(tactic| first
  | with_reducible refine w_seq ?_
  | ((with_reducible refine' w_var ?vv ?_); (case vv => exact rfl))
  | with_reducible refine w_c ?_
  | with_reducible refine w_op ?_
  | with_reducible refine w_asg ?_
  | with_reducible refine w_gName ?_
  | with_reducible refine w_ret ?_
  | with_reducible refine w_ifS ?_
  | with_reducible refine w_drop ?_
  | with_reducible refine w_next ?_
  | with_reducible refine w_cons ?_
  | with_reducible refine w_nil ?_
  | with_reducible refine w_call ?_
  | with_reducible refine w_cb ?_
  | with_reducible refine w_rI0 ?_
  | with_reducible refine w_addI ?_
  | with_reducible refine w_eqI ?_
  | with_reducible refine w_neI ?_
  | with_reducible refine w_eqS ?_
  | with_reducible refine w_neS ?_
  | with_reducible refine w_eqB ?_
  | with_reducible refine w_neB ?_
  | with_reducible refine w_chain ?_
  | with_reducible refine w_test ?_
  | with_reducible refine w_tB ?_
  | with_reducible refine w_bl ?_
  | ((with_reducible refine' w_mulI ?vv ?_); (case vv => walk_at "side"))
  | ((with_reducible refine' w_rI ?vv ?_); (case vv => walk_at "side"))
  | with_reducible refine w_int1 ?_
  | with_reducible refine w_int1b ?_
  | with_reducible refine w_tup ?_
  | with_reducible refine w_lst ?_
  | with_reducible refine w_un ?_
  | with_reducible refine w_rU ?_
  | with_reducible refine w_not ?_
  | with_reducible refine w_notV ?_
  | with_reducible refine w_ifE ?_
  | with_reducible refine w_nT ?_
  | with_reducible refine w_nF ?_
  | with_reducible refine iteT ?_
  | with_reducible refine iteF ?_
  | ((with_reducible refine' w_ixT ?vv ?ww ?_); (case vv => walk_at "tr"); (case ww => walk_at "ix"))
  | ((with_reducible refine' w_ixL ?vv ?ww ?_); (case vv => walk_at "tr"); (case ww => walk_at "ix"))
  | with_reducible refine w_gSub ?_
  | ((with_reducible refine' w_setL ?vv ?ww ?_); (case vv => walk_at "tr"); (case ww => first | rfl | decide | assumption))
  | ((with_reducible refine' w_lenL ?vv ?_); (case vv => walk_at "tr"))
  | ((with_reducible refine' w_lenT ?vv ?_); (case vv => walk_at "tr"))
  | with_reducible refine w_max2 ?_
  | with_reducible refine w_max3 ?_
  | with_reducible refine w_din ?_
  | with_reducible refine w_dnotin ?_
  | with_reducible refine w_dput ?_
  | with_reducible refine w_min2 ?_
  | with_reducible refine w_bm ?_
  | with_reducible refine w_bm0 ?_
  | ((with_reducible refine' w_tyL ?vv ?_); (case vv => walk_at "tr"))
  | ((with_reducible refine' w_append ?vv ?ww ?_); (case vv => walk_at "tr"); (case ww => walk_at "size"))
  | ((with_reducible refine' w_size ?vv ?_); (case vv => walk_at "size"))
  | with_reducible refine w_forL ?_
  | with_reducible refine w_forT ?_
  | with_reducible refine w_forR1 ?_
  | with_reducible refine w_forR2 ?_
  | with_reducible refine w_lcL ?_
  | with_reducible refine w_lcT ?_
  | with_reducible refine w_lcR1 ?_
  | with_reducible refine w_yes ?_
  | with_reducible refine w_sl ?_
  | with_reducible refine w_noPart ?_
  | with_reducible refine w_part ?_
  | with_reducible refine w_int ?_
  | ((with_reducible refine' w_slL ?vv ?_); (case vv => walk_at "tr"))
  | ((with_reducible refine' w_seqL ?vv ?ww ?_); (case vv => walk_at "tr"); (case ww => rfl))
  | ((with_reducible refine' w_seqT ?vv ?ww ?_); (case vv => walk_at "tr"); (case ww => rfl))
  | with_reducible refine w_gNil ?_
  | with_reducible refine w_gCons ?_
  | with_reducible refine w_forZ ?_
  | with_reducible refine w_forM ?_
  | with_reducible refine w_forE ?_
  | with_reducible refine w_forV ?_
  | with_reducible refine w_lcZ ?_
  | with_reducible refine w_lcE ?_
  | ((with_reducible refine' w_isi (b := true) ?vv ?ww ?_); (case vv => walk_at "ty"); (case ww => decide +kernel))
  | ((with_reducible refine' w_isi (b := false) ?vv ?ww ?_); (case vv => walk_at "ty"); (case ww => decide +kernel))
  | with_reducible refine w_revL ?_
  | with_reducible refine w_pairN ?_
  | with_reducible refine w_pairC ?_
  | with_reducible refine w_dget ?_
  | with_reducible refine w_met ?_
  | ((with_reducible refine' w_metAt ?vv ?ww ?_); (case vv => walk_at "tr"); (case ww => rfl))
  | with_reducible refine w_mkI ?_
  | with_reducible refine w_fld ?_
  | ((with_reducible refine' w_fldAt ?vv ?cc ?nn ?ww ?_); (case vv => walk_at "tr"); (case cc => walk_at "cls"); (case nn => walk_at "na"); (case ww => rfl))
  | with_reducible refine w_sfld ?_
  | ((with_reducible refine' w_sfldAt ?vv ?cc ?nn ?ll ?ee ?_); (case vv => walk_at "tr"); (case cc => walk_at "cls"); (case nn => walk_at "na"); (case ll => simp); (case ee => rfl))
  | ((with_reducible refine' w_tupL ?vv ?_); (case vv => walk_at "tr"))
  | ((with_reducible refine' w_tupT ?vv ?_); (case vv => walk_at "tr"))
  | ((with_reducible refine' w_listL ?vv ?_); (case vv => walk_at "tr"))
  | ((with_reducible refine' w_listT ?vv ?_); (case vv => walk_at "tr"))
  | with_reducible refine w_tyS ?_
  | with_reducible refine w_retN ?_
  | with_reducible refine w_break ?_
  | with_reducible refine w_cont ?_)
local macro_rules | `(tactic| walk_at "w") => `(tactic| first
  | walk_at "v"
  | with_reducible refine w_or ?_
  | with_reducible refine w_and ?_
  | with_reducible refine w_andV ?_
  | with_reducible refine w_orV ?_)
local macro_rules | `(tactic| walk_at "wd") => `(tactic| first
  | walk_at "w"
  | ((with_reducible refine' w_decT ?vv ?_); (case vv => decide +kernel))
  | ((with_reducible refine' w_decF ?vv ?_); (case vv => decide +kernel)))
local macro_rules | `(tactic| walk_at "tz") => `(tactic| (intro S z; (repeat walk_at "w"); exact z))
local macro_rules | `(tactic| walk_at "wf") => `(tactic| first
  | walk_at "wd"
  | ((with_reducible refine' w_decF ?vv ?_); (case vv => with_reducible assumption)))
def spLP (K : PySem.W.Frag) : Sp := fun vs H Q _ => ∃ (v : V) (ss : List SetE), vs = [v] ∧ Dp K H v (setsD ss) ∧ ss.length ≤ 4 ∧ (∀ x ∈ ss, OkS 4 x) ∧ ∀ t l r H', H' t = some (.tup [.ref l, .ref r]) → PL K H' l (proots ss []).2 → PL K H' r (proots ss []).1 → H l = none → H r = none → Same H H' → l ≠ r → Q (.ref t) H'
theorem len_law_parts {K : PySem.W.Frag} {vs H Q E} (h : spLP K vs H Q E) : vs.length = 1 := by obtain ⟨_, _, rfl, _⟩ := h; rfl
theorem set_d' {K : PySem.W.Frag} {H : Hp} {v : V} {ss : List SetE} (h : Dp K H v (setsD ss)) : ∃ p xs, v = .ref p ∧ SqT K H p xs ∧ DpAll K H xs (ss.map SetE.d) := dp_tup h
section
variable {P : Program} {w : World} {K : PySem.W.Frag} {mg : Str → Option Value}
theorem ok_law_parts [c : Facts K mg] (G__law_part : Fn P w K mg "_law_part" 5 ["e", "parts"] ((spPart K 4))) : Fn P w K mg "_law_parts" 6 ["sets"] ((spLP K)) := by
  obtain ⟨fd, F⟩ := c.d_law_parts
  refine Fn.mk' F c.g_law_parts sc_law_parts (k := 5) (fun vs H Q E h => ?_) (fun _ _ _ _ _ _ us hl => match us, hl with | [_], _ => rfl) (fun base cdv A outer s H vs Q E hr h => ?_)
  · exact len_law_parts h
  · have nd := sc_law_parts.nd
    have hu := hu_of hr
    have hr__law_part : Room 5 _ := hr.mono (by omega)
    refine ⟨_, (pss_cons (ps_set (i := 1) nd rfl (Or.inl rfl) (pe_lst pa_nil))
      (pss_cons (ps_set (i := 2) nd rfl (Or.inl rfl) (pe_lst pa_nil))
      (pss_cons (ps_for PassesOwn.never rfl (pi_tup (pv 0)) (pg_name (i := 3) nd rfl (Or.inl rfl)) (pss_one (ps_if (pt_cmpR (op_eqA (K := K) rfl hr.units) (pe_ix (ix_any (K := K) rfl) (pv 3) pe_int (fun _ _ => rfl)) pe_str (nomark _)) (pss_cons (ps_set (i := 4) nd rfl (Or.inl rfl) (pe_fn G__law_part hr__law_part (by rfl) (pa_cons (pe_ix (ix_any (K := K) rfl) (pv 3) pe_int (fun _ _ => rfl)) (pa_cons (pv 1) pa_nil))))
      (pss_one (ps_expr (pe_bm PySem.F.plainAttrs_list PySem.F.slot_list_append PySem.F.type_list_append mt_append (pv 2) (pa_cons (pe_tup (pa_cons (pv 4) (pa_cons (pe_fn G__law_part hr__law_part (by rfl) (pa_cons (pe_ix (ix_any (K := K) rfl) (pv 3) pe_int (fun _ _ => rfl)) (pa_cons (pv 1) pa_nil))) pa_nil))) pa_nil))))) (pss_one (ps_expr (pe_bm PySem.F.plainAttrs_list PySem.F.slot_list_append PySem.F.type_list_append mt_append (pv 2) (pa_cons (pe_tup (pa_cons (pe_fn G__law_part hr__law_part (by rfl) (pa_cons (pe_ix (ix_any (K := K) rfl) (pv 3) pe_int (fun _ _ => rfl)) (pa_cons (pv 1) pa_nil))) pa_nil)) pa_nil)))))))
      (pss_one (ps_ret (pe_tup (pa_cons (pv 1) (pa_cons (pv 2) pa_nil)))))))), ?_⟩
    try dsimp only [cxOf, Cx.nox, Cx.wish]
    obtain ⟨v, ss, rfl, hv, hl, ho, q⟩ := h
    obtain ⟨a, xs, rfl, ha, hxs⟩ := set_d' hv
    have hxl : xs.length = ss.length := by rw [dpa_len hxs, List.length_map]
    repeat walk_at "w"
    refine w_new fun l H2 nl0 s02 fl => ?_
    repeat walk_at "w"
    refine w_new fun r H3 n3 s3 f3 => ?_
    have s03 : Same H H3 := s02.trans s3
    have nr0 : H r = none := s02.free n3
    have nrl : r ≠ l := fun z => by rw [z, fl] at n3; cases n3
    repeat walk_at "w"
    refine fl_tup xs (fun i σ H' => ∃ o f, σ = [some (.ref a), some (.ref l), some (.ref r), o, f] ∧ PL K H' l (proots (ss.take i) []).2 ∧ PL K H' r (proots (ss.take i) []).1 ∧ Same H H') (s03.sqT ha)
      ⟨_, _, rfl, (PL.new fl).same s3, PL.new f3, s03⟩ (fun i σ H' hi hp => ?_) (fun i x σ H' hi hp => ?_) (fun σ H' hp => ?_)
    · obtain ⟨o, f, rfl, _, _, sm⟩ := hp
      exact sm.sqT ha
    · obtain ⟨o, f, rfl, hP, hR, sm⟩ := hp
      have hi' : i < ss.length := by have := (List.getElem?_eq_some_iff.mp hi).1; omega
      obtain ⟨s, hs⟩ : ∃ s, ss[i]? = some s := ⟨_, List.getElem?_eq_getElem hi'⟩
      have os := ho s (List.mem_of_getElem? hs)
      have hx : Dp K H' x s.d := by
        obtain ⟨d, hd1, hd2⟩ := dpa_at' (dpAll_ts (TS.of sm) _ _ (setsD_tup ss) hxs) hi
        rw [List.getElem?_map, hs] at hd1
        cases Option.some.inj hd1
        exact hd2
      obtain ⟨ys, hy, hyd, hyr⟩ := id hR
      have ln := proots_len (ss.take i) [] (fun x hx => ho x (List.mem_of_mem_take hx))
      have lt : (ss.take i).length ≤ 4 := by rw [List.length_take]; omega
      have hyl : ys.length ≤ 4 := by rw [hR.len hy, ln.2]; exact lt
      have lp : (proots (ss.take i) []).2.length ≤ 120 := by have := ln.1; rw [List.length_nil] at this; omega
      rw [take_snoc hs, proots_snoc]
      cases s with
      | cell e1 e2 =>
        have c1 := cnt4 os.1 (Nat.le_refl 4)
        have c2 := cnt4 os.2 (Nat.le_refl 4)
        have i1 := e1.part_ok os.1.2 hP.choose_spec.2.2
        have i2 := e2.part_ok os.2.2 i1.2
        obtain ⟨p, u, u2, rfl, hp, hu', hu2⟩ := exp_2 hx
        repeat walk_at "wf"
        refine ⟨u, l, e1, _, rfl, hu', os.1, hP, by omega, fun v1 H4 hv1 hP4 e4 => ?_⟩
        have t4 := hP.tsB e4
        have hp4 := t4.sqT hp
        have hR4 := hR.but hP nrl e4
        have hy4 := e4 _ _ nrl hy
        repeat walk_at "w"
        refine ⟨u2, l, e2, _, rfl, dp_ts t4 _ _ e2.tup hu2, os.2, hP4, by rw [e1.part_len]; omega, fun v2 H5 hv2 hP5 e5 => ?_⟩
        have t5 := hP4.tsB e5
        have hR5 := hR4.but hP4 nrl e5
        have hy5 := e5 _ _ nrl hy4
        repeat walk_at "w"
        refine w_new fun t6 H6 n6 s6 f6 => ?_
        repeat walk_at "w"
        refine w_chg fun H7 e7 f7 => ?_
        repeat walk_at "w"
        have rw5 : Row (.tuple (J.parts (SetE.cell e1 e2).rests (proots (ss.take i) []).2).1) := ⟨_, rfl, fun x hx => by
          simp only [SetE.rests, J.parts, List.mem_cons, List.mem_nil_iff, or_false] at hx
          rcases hx with rfl | rfl
          · exact i1.1
          · exact i2.1⟩
        have z := PL.snoc (hR5.same s6) (s6 _ _ hy5) e7 f7 (.tup (SqT.of f6) (.cons (i1.1.ts (t5.trans (TS.of s6)) hv1) (.cons (i2.1.ts (TS.of s6) hv2) .nil))) rw5
        exact ⟨_, _, rfl, (hP5.same s6).but (hR5.same s6) nrl.symm e7, z.1, But.new ((But.new sm nl0 (e4.trans e5)).trans s6) nr0 e7⟩
      | sel m k j e1 =>
        have nc : (if m then ("mark" : Str) else "place") ≠ "cell" := by cases m <;> decide +kernel
        have c1 := cnt4 os.2 (Nat.le_refl 4)
        have i1 := e1.part_ok os.2.2 hP.choose_spec.2.2
        obtain ⟨p, u, u2, rfl, hp, hu', hu2⟩ := exp_2 hx
        repeat walk_at "wf"
        refine ⟨u2, l, e1, _, rfl, hu2, os.2, hP, by omega, fun v1 H4 hv1 hP4 e4 => ?_⟩
        have t4 := hP.tsB e4
        have hR4 := hR.but hP nrl e4
        have hy4 := e4 _ _ nrl hy
        repeat walk_at "w"
        refine w_new fun t6 H6 n6 s6 f6 => ?_
        repeat walk_at "w"
        refine w_chg fun H7 e7 f7 => ?_
        repeat walk_at "w"
        have rw5 : Row (.tuple (J.parts (SetE.sel m k j e1).rests (proots (ss.take i) []).2).1) := ⟨_, rfl, fun x hx => by
          simp only [SetE.rests, J.parts, List.mem_cons, List.mem_nil_iff, or_false] at hx
          rw [hx]; exact i1.1⟩
        have z := PL.snoc (hR4.same s6) (s6 _ _ hy4) e7 f7 (.tup (SqT.of f6) (.cons (i1.1.ts (TS.of s6) hv1) .nil)) rw5
        exact ⟨_, _, rfl, (hP4.same s6).but (hR4.same s6) nrl.symm e7, z.1, But.new ((But.new sm nl0 e4).trans s6) nr0 e7⟩
    · obtain ⟨o, f, rfl, hP, hR, sm⟩ := hp
      rw [hxl, List.take_length] at hP hR
      repeat walk_at "w"
      refine w_new fun t H4 n4 s4 f4 => ?_
      exact q t l r H4 f4 (hP.same s4) (hR.same s4) nl0 nr0 (sm.trans s4) nrl.symm
end

end J
namespace J
open PySem PySem.Spec PyProof.Rows L2
local macro_rules | `(tactic| walk_at "cls") => `(tactic| first
  | with_reducible exact Facts.cl_Parts)
local macro_rules | `(tactic| walk_at "na") => `(tactic| first
  | with_reducible exact Facts.na_Parts_rows)
local macro_rules | `(tactic| walk_at "ty") => `(tactic| first
  | with_reducible exact ty_int
  | with_reducible exact ty_bl
  | with_reducible exact ty_str
  | with_reducible exact ty_non
  | ((with_reducible refine' ty_lst ?vv); (case vv => walk_at "tr"))
  | ((with_reducible refine' ty_sqT ?vv); (case vv => walk_at "tr"))
  | ((with_reducible refine' ty_dic ?vv); (case vv => walk_at "tr")))
local macro_rules | `(tactic| walk_at "ix") => `(tactic| first | exact at0 | exact at1 | exact at2 | assumption)
local macro_rules | `(tactic| walk_at "size") => `(tactic| first
  | assumption
  | (show _ < sizeLine; rw [sizeLine_eq]; (try simp only [List.length_cons, List.length_nil, List.length_append, List.length_map]); omega)
  | (show _ ≤ sizeLine; rw [sizeLine_eq]; (try simp only [List.length_cons, List.length_nil, List.length_append, List.length_map]); omega))
local macro_rules | `(tactic| walk_at "side") => `(tactic| first
  | assumption
  | ((with_reducible refine cdw ?_ ?_) <;> omega)
  | omega
  | (exact ⟨by omega, by omega⟩)
  | (exact Or.inl ⟨by omega, by omega⟩)
  | (exact Or.inr ⟨by omega, by omega⟩)
  | decide
  | (simp only [List.length_cons, List.length_nil, List.length_append, List.length_map]; omega)
  | (show _ ≤ _; decide))
local macro_rules | `(tactic| walk_at "as") => `(tactic| with_reducible assumption)
local macro_rules | `(tactic| walk_at "tr") => `(tactic| first
  | with_reducible assumption
  | with_reducible exact upd_same
  | ((with_reducible refine' SqL.of ?hh); (case hh => walk_at "as"))
  | ((with_reducible refine' SqT.of ?hh); (case hh => walk_at "as"))
  | ((with_reducible refine' Same.stm ?ee ?gg); (case ee => walk_at "as"); (case gg => walk_at "tr"))
  | ((with_reducible refine' Same.sqT ?ee ?gg); (case ee => walk_at "as"); (case gg => walk_at "tr"))
  | ((with_reducible refine' Same.sqL ?ee ?gg); (case ee => walk_at "as"); (case gg => walk_at "tr"))
  | ((with_reducible refine' Same.at ?ee ?gg); (case ee => walk_at "as"); (case gg => walk_at "tr"))
  | ((with_reducible refine' But.stm ?ee ?ff ?gg); (case ee => walk_at "as"); (case ff => walk_at "ne"); (case gg => walk_at "tr"))
  | ((with_reducible refine' But.tup ?ee ?ff ?gg); (case ee => walk_at "as"); (case ff => walk_at "tr1"); (case gg => walk_at "tr"))
  | ((with_reducible refine' But.sqT ?ee ?ff ?gg); (case ee => walk_at "as"); (case ff => walk_at "tr1"); (case gg => walk_at "tr"))
  | ((with_reducible refine' But.tupL ?ee ?ff ?gg); (case ee => walk_at "as"); (case ff => walk_at "tr1"); (case gg => walk_at "tr"))
  | ((with_reducible refine' But.sqTL ?ee ?ff ?gg); (case ee => walk_at "as"); (case ff => walk_at "tr1"); (case gg => walk_at "tr"))
  | ((with_reducible refine' But.sqL ?ee ?ff ?gg); (case ee => walk_at "as"); (case ff => walk_at "ne"); (case gg => walk_at "tr"))
  | ((with_reducible refine' But.at ?ee ?ff ?gg); (case ee => walk_at "as"); (case ff => walk_at "ne"); (case gg => walk_at "tr")))
local macro_rules | `(tactic| walk_at "ts") => `(tactic| first
  | with_reducible assumption
  | with_reducible exact TS.refl _
  | ((with_reducible refine' TS.trans ?gg (TS.of ?ee)); (case ee => walk_at "as"); (case gg => walk_at "ts"))
  | ((with_reducible refine' TS.trans ?gg (TS.butS ?ee ?ff)); (case ee => walk_at "as"); (case ff => walk_at "tr1"); (case gg => walk_at "ts"))
  | ((with_reducible refine' TS.trans ?gg (TS.butL ?ee ?ff)); (case ee => walk_at "as"); (case ff => walk_at "tr1"); (case gg => walk_at "ts"))
  | ((with_reducible refine' TS.trans ?gg (TS.butI ?ee ?ff)); (case ee => walk_at "as"); (case ff => walk_at "tr1"); (case gg => walk_at "ts")))
local macro_rules | `(tactic| walk_at "sm") => `(tactic| first
  | with_reducible assumption
  | with_reducible exact Same.refl _
  | ((with_reducible refine' Same.trans ?gg ?ee); (case ee => walk_at "as"); (case gg => walk_at "sm"))
  | ((with_reducible refine' But.new ?gg ?nn ?ee); (case ee => walk_at "as"); (case nn => walk_at "fr"); (case gg => walk_at "sm")))
local macro_rules | `(tactic| walk_at "fr") => `(tactic| first
  | with_reducible assumption
  | ((with_reducible refine' Same.back ?ee ?nn); (case nn => walk_at "as"); (case ee => walk_at "sm"))
  | ((with_reducible refine' But.back ?ee ?ff ?nn); (case nn => walk_at "as"); (case ff => walk_at "ne0"); (case ee => walk_at "bu")))
local macro_rules | `(tactic| walk_at "bu") => `(tactic| first
  | with_reducible assumption
  | with_reducible exact But.refl _ _
  | ((with_reducible refine' But.trans ?gg ?ee); (case ee => walk_at "as"); (case gg => walk_at "bu"))
  | ((with_reducible refine' But.trans ?gg (But.of ?ee)); (case ee => walk_at "as"); (case gg => walk_at "bu"))
  | ((with_reducible refine' But.new2 ?gg ?nn ?ee); (case ee => walk_at "as"); (case nn => walk_at "frB"); (case gg => walk_at "bu")))
local macro_rules | `(tactic| walk_at "frB") => `(tactic| first
  | with_reducible assumption
  | ((with_reducible refine' Same.back ?ee ?nn); (case nn => walk_at "as"); (case ee => walk_at "sm"))
  | ((with_reducible refine' But.back' ?ee ?ff ?nn); (case nn => walk_at "as"); (case ee => walk_at "bu"); (case ff => walk_at "tr1")))
local macro_rules | `(tactic| walk_at "tr1") => `(tactic| first
  | with_reducible assumption
  | ((with_reducible refine' Same.stm ?ee ?gg); (case ee => walk_at "as"); (case gg => walk_at "tr1"))
  | ((with_reducible refine' Same.at ?ee ?gg); (case ee => walk_at "as"); (case gg => walk_at "tr1"))
  | ((with_reducible refine' But.at ?ee ?ff ?gg); (case ee => walk_at "as"); (case ff => walk_at "ne0"); (case gg => walk_at "tr1"))
  | ((with_reducible refine' But.stm ?ee ?ff ?gg); (case ee => walk_at "as"); (case ff => walk_at "ne0"); (case gg => walk_at "tr1")))
local macro_rules | `(tactic| walk_at "ne0") => `(tactic| first
  | with_reducible assumption
  | (with_reducible apply Ne.symm; with_reducible assumption))
local macro_rules | `(tactic| walk_at "ne") => `(tactic| first
  | with_reducible assumption
  | (with_reducible apply Ne.symm; with_reducible assumption)
  | ((with_reducible refine' stm_ne ?hh ?nn); (case nn => walk_at "as"); (case hh => walk_at "tr1"))
  | ((with_reducible refine' ne_of_none ?hh ?nn); (case nn => walk_at "as"); (case hh => walk_at "tr1"))
  | ((with_reducible apply Ne.symm); (with_reducible refine' ne_of_none ?hh ?nn); (case nn => walk_at "as"); (case hh => walk_at "tr1")))
local macro_rules | `(tactic| walk_at "v") => `(tactic| first
  | with_reducible refine w_seq ?_
  | ((with_reducible refine' w_var ?vv ?_); (case vv => exact rfl))
  | with_reducible refine w_c ?_
  | with_reducible refine w_op ?_
  | with_reducible refine w_asg ?_
  | with_reducible refine w_gName ?_
  | with_reducible refine w_ret ?_
  | with_reducible refine w_ifS ?_
  | with_reducible refine w_drop ?_
  | with_reducible refine w_next ?_
  | with_reducible refine w_cons ?_
  | with_reducible refine w_nil ?_
  | with_reducible refine w_call ?_
  | with_reducible refine w_cb ?_
  | with_reducible refine w_rI0 ?_
  | with_reducible refine w_addI ?_
  | with_reducible refine w_eqI ?_
  | with_reducible refine w_neI ?_
  | with_reducible refine w_eqS ?_
  | with_reducible refine w_neS ?_
  | with_reducible refine w_eqB ?_
  | with_reducible refine w_neB ?_
  | with_reducible refine w_chain ?_
  | with_reducible refine w_test ?_
  | with_reducible refine w_tB ?_
  | with_reducible refine w_bl ?_
  | ((with_reducible refine' w_mulI ?vv ?_); (case vv => walk_at "side"))
  | ((with_reducible refine' w_rI ?vv ?_); (case vv => walk_at "side"))
  | with_reducible refine w_int1 ?_
  | with_reducible refine w_int1b ?_
  | with_reducible refine w_tup ?_
  | with_reducible refine w_lst ?_
  | with_reducible refine w_un ?_
  | with_reducible refine w_rU ?_
  | with_reducible refine w_not ?_
  | with_reducible refine w_notV ?_
  | with_reducible refine w_ifE ?_
  | with_reducible refine w_nT ?_
  | with_reducible refine w_nF ?_
  | with_reducible refine iteT ?_
  | with_reducible refine iteF ?_
  | ((with_reducible refine' w_ixT ?vv ?ww ?_); (case vv => walk_at "tr"); (case ww => walk_at "ix"))
  | ((with_reducible refine' w_ixL ?vv ?ww ?_); (case vv => walk_at "tr"); (case ww => walk_at "ix"))
  | with_reducible refine w_gSub ?_
  | ((with_reducible refine' w_setL ?vv ?ww ?_); (case vv => walk_at "tr"); (case ww => first | rfl | decide | assumption))
  | ((with_reducible refine' w_lenL ?vv ?_); (case vv => walk_at "tr"))
  | ((with_reducible refine' w_lenT ?vv ?_); (case vv => walk_at "tr"))
  | with_reducible refine w_max2 ?_
  | with_reducible refine w_max3 ?_
  | with_reducible refine w_din ?_
  | with_reducible refine w_dnotin ?_
  | with_reducible refine w_dput ?_
  | with_reducible refine w_min2 ?_
  | with_reducible refine w_bm ?_
  | with_reducible refine w_bm0 ?_
  | ((with_reducible refine' w_tyL ?vv ?_); (case vv => walk_at "tr"))
  | ((with_reducible refine' w_append ?vv ?ww ?_); (case vv => walk_at "tr"); (case ww => walk_at "size"))
  | ((with_reducible refine' w_size ?vv ?_); (case vv => walk_at "size"))
  | with_reducible refine w_forL ?_
  | with_reducible refine w_forT ?_
  | with_reducible refine w_forR1 ?_
  | with_reducible refine w_forR2 ?_
  | with_reducible refine w_lcL ?_
  | with_reducible refine w_lcT ?_
  | with_reducible refine w_lcR1 ?_
  | with_reducible refine w_yes ?_
  | with_reducible refine w_sl ?_
  | with_reducible refine w_noPart ?_
  | with_reducible refine w_part ?_
  | with_reducible refine w_int ?_
  | ((with_reducible refine' w_slL ?vv ?_); (case vv => walk_at "tr"))
  | ((with_reducible refine' w_seqL ?vv ?ww ?_); (case vv => walk_at "tr"); (case ww => rfl))
  | ((with_reducible refine' w_seqT ?vv ?ww ?_); (case vv => walk_at "tr"); (case ww => rfl))
  | with_reducible refine w_gNil ?_
  | with_reducible refine w_gCons ?_
  | with_reducible refine w_forZ ?_
  | with_reducible refine w_forM ?_
  | with_reducible refine w_forE ?_
  | with_reducible refine w_forV ?_
  | with_reducible refine w_lcZ ?_
  | with_reducible refine w_lcE ?_
  | ((with_reducible refine' w_isi (b := true) ?vv ?ww ?_); (case vv => walk_at "ty"); (case ww => decide +kernel))
  | ((with_reducible refine' w_isi (b := false) ?vv ?ww ?_); (case vv => walk_at "ty"); (case ww => decide +kernel))
  | with_reducible refine w_revL ?_
  | with_reducible refine w_pairN ?_
  | with_reducible refine w_pairC ?_
  | with_reducible refine w_dget ?_
  | with_reducible refine w_met ?_
  | ((with_reducible refine' w_metAt ?vv ?ww ?_); (case vv => walk_at "tr"); (case ww => rfl))
  | with_reducible refine w_mkI ?_
  | with_reducible refine w_fld ?_
  | ((with_reducible refine' w_fldAt ?vv ?cc ?nn ?ww ?_); (case vv => walk_at "tr"); (case cc => walk_at "cls"); (case nn => walk_at "na"); (case ww => rfl))
  | with_reducible refine w_sfld ?_
  | ((with_reducible refine' w_sfldAt ?vv ?cc ?nn ?ll ?ee ?_); (case vv => walk_at "tr"); (case cc => walk_at "cls"); (case nn => walk_at "na"); (case ll => simp); (case ee => rfl))
  | ((with_reducible refine' w_tupL ?vv ?_); (case vv => walk_at "tr"))
  | ((with_reducible refine' w_tupT ?vv ?_); (case vv => walk_at "tr"))
  | ((with_reducible refine' w_listL ?vv ?_); (case vv => walk_at "tr"))
  | ((with_reducible refine' w_listT ?vv ?_); (case vv => walk_at "tr"))
  | with_reducible refine w_tyS ?_
  | with_reducible refine w_retN ?_
  | with_reducible refine w_break ?_
  | with_reducible refine w_cont ?_)
local macro_rules | `(tactic| walk_at "w") => `(tactic| first
  | walk_at "v"
  | with_reducible refine w_or ?_
  | with_reducible refine w_and ?_
  | with_reducible refine w_andV ?_
  | with_reducible refine w_orV ?_)
local macro_rules | `(tactic| walk_at "wd") => `(tactic| first
  | walk_at "w"
  | ((with_reducible refine' w_decT ?vv ?_); (case vv => decide +kernel))
  | ((with_reducible refine' w_decF ?vv ?_); (case vv => decide +kernel)))
local macro_rules | `(tactic| walk_at "tz") => `(tactic| (intro S z; (repeat walk_at "w"); exact z))
local macro_rules | `(tactic| walk_at "wf") => `(tactic| first
  | walk_at "wd"
  | ((with_reducible refine' w_decF ?vv ?_); (case vv => with_reducible assumption)))
/-! ### own parts, orders, needs: the program's -/
def PRow (d : PyData) : Prop := ∃ s items, d = .tuple (.str s :: items) ∧ PyData.strOk s = true ∧ (∀ x ∈ items, Item x) ∧ 1 ≤ items.length ∧ items.length ≤ 2 ∧ ((s = "get" ∨ s = "ask") → intsD items = [])
theorem PRow.own {s : Str} {items : List PyData} : ownD (.tuple (.str s :: items)) = intsD items := rfl
theorem opS_no {o : Str} (h : OpS o) : ¬ (o = "get" ∨ o = "ask") := by
  rcases h with rfl | rfl | rfl | rfl | rfl | rfl | rfl | rfl | rfl <;> decide +kernel
theorem Exp.part_prow : ∀ (e : Exp) {ps : List PyData}, e.good → Rows ps → (∀ d ∈ ps, PRow d) → ∀ d ∈ (e.part ps).2, PRow d
  | .num _, _, _, _, h => h
  | .fld _, _, _, _, h => h
  | .plc k n, ps, g, _, h => fun d hd => by
    rcases List.mem_append.mp hd with q | q
    · exact h d q
    · rw [List.mem_singleton.mp q]
      exact ⟨"get", [selD k n], rfl, by decide +kernel, fun x hx => by rw [List.mem_singleton.mp hx]; exact .pair g.ok n, by simp, by simp, fun _ => rfl⟩
  | .mrk k n, ps, g, _, h => fun d hd => by
    rcases List.mem_append.mp hd with q | q
    · exact h d q
    · rw [List.mem_singleton.mp q]
      exact ⟨"ask", [selD k n], rfl, by decide +kernel, fun x hx => by rw [List.mem_singleton.mp hx]; exact .pair g.ok n, by simp, by simp, fun _ => rfl⟩
  | .cell a, ps, g, r, h => fun d hd => by
    have ih := Exp.part_prow a (ps := ps) g r h
    rcases List.mem_append.mp hd with q | q
    · exact ih d q
    · rw [List.mem_singleton.mp q]
      exact ⟨"cell", _, rfl, by decide +kernel, fun x hx => by rw [List.mem_singleton.mp hx]; exact (a.part_ok g r).1, by simp, by simp, fun z => absurd z (by decide +kernel)⟩
  | .two o a b, ps, g, r, h => fun d hd => by
    have r1 := (a.part_ok g.2.1 r)
    have r2 := (b.part_ok g.2.2 r1.2)
    have ih := Exp.part_prow b (ps := (a.part ps).2) g.2.2 r1.2 (Exp.part_prow a g.2.1 r h)
    rcases List.mem_append.mp hd with q | q
    · exact ih d q
    · rw [List.mem_singleton.mp q]
      exact ⟨o, _, rfl, g.1.ok, fun x hx => by
        simp only [List.mem_cons, List.mem_nil_iff, or_false] at hx
        rcases hx with rfl | rfl
        · exact r1.1
        · exact r2.1, by simp, by simp, fun z => (opS_no g.1 z).elim⟩
theorem parts_prow : ∀ (es : List Exp) {ps : List PyData}, (∀ e ∈ es, e.good) → Rows ps → (∀ d ∈ ps, PRow d) → ∀ d ∈ (parts es ps).2, PRow d
  | [], _, _, _, h => h
  | e :: es, ps, g, r, h => by
    have ge := g e List.mem_cons_self
    exact parts_prow es (ps := (e.part ps).2) (fun x hx => g x (List.mem_cons_of_mem _ hx)) (e.part_ok ge r).2 (e.part_prow ge r h)
theorem proots_prow : ∀ (ss : List SetE) {n : Nat} {ps : List PyData}, (∀ s ∈ ss, OkS n s) → Rows ps → (∀ d ∈ ps, PRow d) → ∀ d ∈ (proots ss ps).2, PRow d
  | [], _, _, _, _, h => h
  | s :: ss, n, ps, g, r, h => by
    have gs : ∀ e ∈ s.rests, e.good := fun e he => (okS_rests (g s List.mem_cons_self) e he).2
    exact proots_prow ss (ps := (parts s.rests ps).2) (fun x hx => g x (List.mem_cons_of_mem _ hx)) (parts_ok s.rests gs r).2 (parts_prow s.rests gs r h)
def spOwnP (K : PySem.W.Frag) : Sp := fun vs H Q _ => ∃ v d, vs = [v] ∧ Dp K H v d ∧ PRow d ∧ ∀ p H', H' p = some (.lst ((ownD d).map V.int)) → Same H H' → H p = none → Q (.ref p) H'
theorem len_own_parts {K : PySem.W.Frag} {vs H Q E} (h : spOwnP K vs H Q E) : vs.length = 1 := by obtain ⟨_, _, rfl, _⟩ := h; rfl
theorem len_law_own {K : PySem.W.Frag} {vs H Q E} (h : spOwnP K vs H Q E) : vs.length = 1 := by obtain ⟨_, _, rfl, _⟩ := h; rfl
theorem intsD_snoc (xs : List PyData) (d : PyData) : intsD (xs ++ [d]) = intsD xs ++ (intD d).toList := by
  unfold intsD
  rw [List.filterMap_append]
  cases h : intD d <;> simp [h]
/-- [one for one in part[1:] if isinstance(one, int)] -/
theorem lc_own {K : PySem.W.Frag} {σ : L2.St} {H : Hp} {Q : VK} {te : TE} {tt : TT} {j : Nat} {p : Addr} {us : List V} {items : List PyData} (ht : SqT K H p us) (hus : DpAll K H us items) (hi : ∀ x ∈ items, Item x) (hl : items.length ≤ 2)
    (hs : ∀ (v : V) (d : PyData) H' (R : Bool → Hp → Prop), Item d → Dp K H' v d → R (intD d).isSome H' → tt ((wipe σ [j]).set j (some v)) H' R)
    (he : ∀ (v : V) H' (R : VK), R v H' → te ((wipe σ [j]).set j (some v)) H' R)
    (q : ∀ D H', H' D = some (.lst ((intsD items).map V.int)) → Same H H' → H D = none → Q (.ref D) H') :
    ∃ b, V.ref p = .ref b ∧ (∃ xs, SqT K H b xs) ∧ ∀ D, H D = none → WLc (Itt K b) (gName j) tt te [j] σ D H Q := by
  have hul : us.length = items.length := dpa_len hus
  refine lc_T us (fun D i ys H' => Same H H' ∧ ys = (intsD (items.take i)).map V.int) ht (fun D H' hD e f => ⟨e, rfl⟩) (fun D hD i ys H' hi hy hp => hp.1.sqT ht) (fun D hD i x ys H' hx hl2 hy hp => ?_) (fun D hD ys H' hl2 hy hp => ?_)
  · obtain ⟨e, rfl⟩ := hp
    obtain ⟨d, hd, hdp⟩ := dpa_at' hus hx
    have it := hi d (List.mem_of_getElem? hd)
    have hi2 : i < items.length := (List.getElem?_eq_some_iff.mp hd).1
    refine hs x d H' _ it (it.ts (TS.of e) hdp) ?_
    have tk := intsD_snoc (items.take i) d
    rw [← take_snoc hd] at tk
    refine ite2 (fun h => ?_) (fun h => ?_)
    · refine he x H' _ ?_
      refine lc_end hy hl2 (by rw [sizeLine_eq]; omega) fun H'' e2 f2 => ⟨But.new e hD e2, ?_⟩
      cases it with
      | int n => cases dp_int hdp; rw [tk, List.map_append]; rfl
      | str _ => cases h
      | pair _ _ => cases h
    · refine lc_skip hy hl2 ⟨e, ?_⟩
      cases it with
      | int n => exact (h rfl).elim
      | str _ => rw [tk, show intD (.str _) = none from rfl]; simp
      | pair _ _ => rw [tk, show intD (.tuple _) = none from rfl]; simp
  · obtain ⟨e, rfl⟩ := hp
    rw [hul, List.take_length] at hy
    exact q D H' hy e hD
section
variable {P : Program} {w : World} {K : PySem.W.Frag} {mg : Str → Option Value}
theorem ok_own_parts [c : Facts K mg] : Fn P w K mg "own_parts" 1 ["part"] ((spOwnP K)) := by
  obtain ⟨fd, F⟩ := c.d_own_parts
  refine Fn.mk' F c.g_own_parts sc_own_parts (k := 0) (fun vs H Q E h => ?_) (fun _ _ _ _ _ _ us hl => match us, hl with | [_], _ => rfl) (fun base cdv A outer s H vs Q E hr h => ?_)
  · exact len_own_parts h
  · have nd := sc_own_parts.nd
    have hu := hu_of hr
    refine ⟨_, (pss_cons (ps_if (PW.pt (pw_or (pt_cmpR (op_eqA (K := K) rfl hr.units) (pe_ix (ix_any (K := K) rfl) (pv 0) pe_int (fun _ _ => rfl)) pe_str (nomark _)) (pw_or1 (pt_cmpR (op_eqA (K := K) rfl hr.units) (pe_ix (ix_any (K := K) rfl) (pv 0) pe_int (fun _ _ => rfl)) pe_str (nomark _))))) (pss_one (ps_ret (pe_lst pa_nil))) pss_nil)
      (pss_one (ps_ret (pe_lc (own := [("one", 1)]) rfl nd (pi_tup (pe_slice (sl_any (K := K) rfl) (pv 0) (po_some pe_int) po_none)) (blkOk_by (N := N_own_parts) (sc := defScope s_own_parts) (by decide +kernel)) (fun _ _ _ _ _ => (pg_name (i := 1) nd rfl (Or.inl rfl))) (fun _ _ _ _ _ => pts_one (pt_val (pe_callB (call_isiA (K := K) rfl) (by rfl) c.f_isinstance boot_isinstance (pa_cons (pv 1) (pa_cons (pe_bltn (v := .ty "int") (by rfl) c.f_int boot_int rfl) pa_nil))))) (fun _ _ _ _ _ => (pv 1)))))), ?_⟩
    try dsimp only [cxOf, Cx.nox, Cx.wish]
    obtain ⟨v, d, rfl, hv, ⟨s, items, rfl, so, hi, l1, l2, hg⟩, q⟩ := h
    obtain ⟨p, us, rfl, hp, hus⟩ := exp_n hv
    have hul : us.length = items.length := dpa_len hus
    have no : (s = "get" ∨ s = "ask") → intsD items = [] := hg
    have fin : (s = "get" ∨ s = "ask") → ∀ (R : Prop), (NewO (.lst []) H Q → R) → R := fun g R k => k (by
      refine fun a ha => q a _ ?_ (Same.one ha) ha
      rw [PRow.own, no g]; exact upd_same)
    repeat walk_at "w"
    refine ite2 (fun h1 => ?_) (fun h1 => ?_)
    · rw [decide_eq_true_eq] at h1
      repeat walk_at "w"
      exact fin (.inl h1) _ id
    · repeat walk_at "w"
      refine ite2 (fun h2 => ?_) (fun h2 => ?_)
      · rw [decide_eq_true_eq] at h2
        repeat walk_at "w"
        exact fin (.inr h2) _ id
      · repeat walk_at "w"
        refine w_slT1 (σ := []) hp ?_
        refine w_new fun p1 H1 n1 s1 f1 => ?_
        have hus1 := dpAll_ts (TS.of s1) _ _ (items_all hi).1 hus
        refine lc_own (SqT.of f1) hus1 hi l2 (fun v d H' R it hd k => ?_) (fun v H' R k => ?_) (fun D H' hD e nD => q D H' hD (s1.trans e) (s1.free nD))
        · repeat walk_at "w"
          cases it with
          | int n =>
            cases dp_int hd
            repeat walk_at "w"
            exact k
          | str _ =>
            cases dp_str hd
            repeat walk_at "w"
            exact k
          | pair _ _ =>
            obtain ⟨a, xs, rfl, ha, _⟩ := dp_tup hd
            repeat walk_at "w"
            exact k
        · repeat walk_at "w"
          exact k
end

end J
namespace J
open PySem PySem.Spec PyProof.Rows L2
local macro_rules | `(tactic| walk_at "cls") => `(tactic| first
  | with_reducible exact Facts.cl_Parts)
local macro_rules | `(tactic| walk_at "na") => `(tactic| first
  | with_reducible exact Facts.na_Parts_rows)
local macro_rules | `(tactic| walk_at "ty") => `(tactic| first
  | with_reducible exact ty_int
  | with_reducible exact ty_bl
  | with_reducible exact ty_str
  | with_reducible exact ty_non
  | ((with_reducible refine' ty_lst ?vv); (case vv => walk_at "tr"))
  | ((with_reducible refine' ty_sqT ?vv); (case vv => walk_at "tr"))
  | ((with_reducible refine' ty_dic ?vv); (case vv => walk_at "tr")))
local macro_rules | `(tactic| walk_at "ix") => `(tactic| first | exact at0 | exact at1 | exact at2 | assumption)
local macro_rules | `(tactic| walk_at "size") => `(tactic| first
  | assumption
  | (show _ < sizeLine; rw [sizeLine_eq]; (try simp only [List.length_cons, List.length_nil, List.length_append, List.length_map]); omega)
  | (show _ ≤ sizeLine; rw [sizeLine_eq]; (try simp only [List.length_cons, List.length_nil, List.length_append, List.length_map]); omega))
local macro_rules | `(tactic| walk_at "side") => `(tactic| first
  | assumption
  | ((with_reducible refine cdw ?_ ?_) <;> omega)
  | omega
  | (exact ⟨by omega, by omega⟩)
  | (exact Or.inl ⟨by omega, by omega⟩)
  | (exact Or.inr ⟨by omega, by omega⟩)
  | decide
  | (simp only [List.length_cons, List.length_nil, List.length_append, List.length_map]; omega)
  | (show _ ≤ _; decide))
local macro_rules | `(tactic| walk_at "as") => `(tactic| with_reducible assumption)
local macro_rules | `(tactic| walk_at "tr") => `(tactic| first
  | with_reducible assumption
  | with_reducible exact upd_same
  | ((with_reducible refine' SqL.of ?hh); (case hh => walk_at "as"))
  | ((with_reducible refine' SqT.of ?hh); (case hh => walk_at "as"))
  | ((with_reducible refine' Same.stm ?ee ?gg); (case ee => walk_at "as"); (case gg => walk_at "tr"))
  | ((with_reducible refine' Same.sqT ?ee ?gg); (case ee => walk_at "as"); (case gg => walk_at "tr"))
  | ((with_reducible refine' Same.sqL ?ee ?gg); (case ee => walk_at "as"); (case gg => walk_at "tr"))
  | ((with_reducible refine' Same.at ?ee ?gg); (case ee => walk_at "as"); (case gg => walk_at "tr"))
  | ((with_reducible refine' But.stm ?ee ?ff ?gg); (case ee => walk_at "as"); (case ff => walk_at "ne"); (case gg => walk_at "tr"))
  | ((with_reducible refine' But.tup ?ee ?ff ?gg); (case ee => walk_at "as"); (case ff => walk_at "tr1"); (case gg => walk_at "tr"))
  | ((with_reducible refine' But.sqT ?ee ?ff ?gg); (case ee => walk_at "as"); (case ff => walk_at "tr1"); (case gg => walk_at "tr"))
  | ((with_reducible refine' But.tupL ?ee ?ff ?gg); (case ee => walk_at "as"); (case ff => walk_at "tr1"); (case gg => walk_at "tr"))
  | ((with_reducible refine' But.sqTL ?ee ?ff ?gg); (case ee => walk_at "as"); (case ff => walk_at "tr1"); (case gg => walk_at "tr"))
  | ((with_reducible refine' But.sqL ?ee ?ff ?gg); (case ee => walk_at "as"); (case ff => walk_at "ne"); (case gg => walk_at "tr"))
  | ((with_reducible refine' But.at ?ee ?ff ?gg); (case ee => walk_at "as"); (case ff => walk_at "ne"); (case gg => walk_at "tr")))
local macro_rules | `(tactic| walk_at "ts") => `(tactic| first
  | with_reducible assumption
  | with_reducible exact TS.refl _
  | ((with_reducible refine' TS.trans ?gg (TS.of ?ee)); (case ee => walk_at "as"); (case gg => walk_at "ts"))
  | ((with_reducible refine' TS.trans ?gg (TS.butS ?ee ?ff)); (case ee => walk_at "as"); (case ff => walk_at "tr1"); (case gg => walk_at "ts"))
  | ((with_reducible refine' TS.trans ?gg (TS.butL ?ee ?ff)); (case ee => walk_at "as"); (case ff => walk_at "tr1"); (case gg => walk_at "ts"))
  | ((with_reducible refine' TS.trans ?gg (TS.butI ?ee ?ff)); (case ee => walk_at "as"); (case ff => walk_at "tr1"); (case gg => walk_at "ts")))
local macro_rules | `(tactic| walk_at "sm") => `(tactic| first
  | with_reducible assumption
  | with_reducible exact Same.refl _
  | ((with_reducible refine' Same.trans ?gg ?ee); (case ee => walk_at "as"); (case gg => walk_at "sm"))
  | ((with_reducible refine' But.new ?gg ?nn ?ee); (case ee => walk_at "as"); (case nn => walk_at "fr"); (case gg => walk_at "sm")))
local macro_rules | `(tactic| walk_at "fr") => `(tactic| first
  | with_reducible assumption
  | ((with_reducible refine' Same.back ?ee ?nn); (case nn => walk_at "as"); (case ee => walk_at "sm"))
  | ((with_reducible refine' But.back ?ee ?ff ?nn); (case nn => walk_at "as"); (case ff => walk_at "ne0"); (case ee => walk_at "bu")))
local macro_rules | `(tactic| walk_at "bu") => `(tactic| first
  | with_reducible assumption
  | with_reducible exact But.refl _ _
  | ((with_reducible refine' But.trans ?gg ?ee); (case ee => walk_at "as"); (case gg => walk_at "bu"))
  | ((with_reducible refine' But.trans ?gg (But.of ?ee)); (case ee => walk_at "as"); (case gg => walk_at "bu"))
  | ((with_reducible refine' But.new2 ?gg ?nn ?ee); (case ee => walk_at "as"); (case nn => walk_at "frB"); (case gg => walk_at "bu")))
local macro_rules | `(tactic| walk_at "frB") => `(tactic| first
  | with_reducible assumption
  | ((with_reducible refine' Same.back ?ee ?nn); (case nn => walk_at "as"); (case ee => walk_at "sm"))
  | ((with_reducible refine' But.back' ?ee ?ff ?nn); (case nn => walk_at "as"); (case ee => walk_at "bu"); (case ff => walk_at "tr1")))
local macro_rules | `(tactic| walk_at "tr1") => `(tactic| first
  | with_reducible assumption
  | ((with_reducible refine' Same.stm ?ee ?gg); (case ee => walk_at "as"); (case gg => walk_at "tr1"))
  | ((with_reducible refine' Same.at ?ee ?gg); (case ee => walk_at "as"); (case gg => walk_at "tr1"))
  | ((with_reducible refine' But.at ?ee ?ff ?gg); (case ee => walk_at "as"); (case ff => walk_at "ne0"); (case gg => walk_at "tr1"))
  | ((with_reducible refine' But.stm ?ee ?ff ?gg); (case ee => walk_at "as"); (case ff => walk_at "ne0"); (case gg => walk_at "tr1")))
local macro_rules | `(tactic| walk_at "ne0") => `(tactic| first
  | with_reducible assumption
  | (with_reducible apply Ne.symm; with_reducible assumption))
local macro_rules | `(tactic| walk_at "ne") => `(tactic| first
  | with_reducible assumption
  | (with_reducible apply Ne.symm; with_reducible assumption)
  | ((with_reducible refine' stm_ne ?hh ?nn); (case nn => walk_at "as"); (case hh => walk_at "tr1"))
  | ((with_reducible refine' ne_of_none ?hh ?nn); (case nn => walk_at "as"); (case hh => walk_at "tr1"))
  | ((with_reducible apply Ne.symm); (with_reducible refine' ne_of_none ?hh ?nn); (case nn => walk_at "as"); (case hh => walk_at "tr1")))
local macro_rules | `(tactic| walk_at "v") => `(tactic| first
  | with_reducible refine w_seq ?_
  | ((with_reducible refine' w_var ?vv ?_); (case vv => exact rfl))
  | with_reducible refine w_c ?_
  | with_reducible refine w_op ?_
  | with_reducible refine w_asg ?_
  | with_reducible refine w_gName ?_
  | with_reducible refine w_ret ?_
  | with_reducible refine w_ifS ?_
  | with_reducible refine w_drop ?_
  | with_reducible refine w_next ?_
  | with_reducible refine w_cons ?_
  | with_reducible refine w_nil ?_
  | with_reducible refine w_call ?_
  | with_reducible refine w_cb ?_
  | with_reducible refine w_rI0 ?_
  | with_reducible refine w_addI ?_
  | with_reducible refine w_eqI ?_
  | with_reducible refine w_neI ?_
  | with_reducible refine w_eqS ?_
  | with_reducible refine w_neS ?_
  | with_reducible refine w_eqB ?_
  | with_reducible refine w_neB ?_
  | with_reducible refine w_chain ?_
  | with_reducible refine w_test ?_
  | with_reducible refine w_tB ?_
  | with_reducible refine w_bl ?_
  | ((with_reducible refine' w_mulI ?vv ?_); (case vv => walk_at "side"))
  | ((with_reducible refine' w_rI ?vv ?_); (case vv => walk_at "side"))
  | with_reducible refine w_int1 ?_
  | with_reducible refine w_int1b ?_
  | with_reducible refine w_tup ?_
  | with_reducible refine w_lst ?_
  | with_reducible refine w_un ?_
  | with_reducible refine w_rU ?_
  | with_reducible refine w_not ?_
  | with_reducible refine w_notV ?_
  | with_reducible refine w_ifE ?_
  | with_reducible refine w_nT ?_
  | with_reducible refine w_nF ?_
  | with_reducible refine iteT ?_
  | with_reducible refine iteF ?_
  | ((with_reducible refine' w_ixT ?vv ?ww ?_); (case vv => walk_at "tr"); (case ww => walk_at "ix"))
  | ((with_reducible refine' w_ixL ?vv ?ww ?_); (case vv => walk_at "tr"); (case ww => walk_at "ix"))
  | with_reducible refine w_gSub ?_
  | ((with_reducible refine' w_setL ?vv ?ww ?_); (case vv => walk_at "tr"); (case ww => first | rfl | decide | assumption))
  | ((with_reducible refine' w_lenL ?vv ?_); (case vv => walk_at "tr"))
  | ((with_reducible refine' w_lenT ?vv ?_); (case vv => walk_at "tr"))
  | with_reducible refine w_max2 ?_
  | with_reducible refine w_max3 ?_
  | with_reducible refine w_din ?_
  | with_reducible refine w_dnotin ?_
  | with_reducible refine w_dput ?_
  | with_reducible refine w_min2 ?_
  | with_reducible refine w_bm ?_
  | with_reducible refine w_bm0 ?_
  | ((with_reducible refine' w_tyL ?vv ?_); (case vv => walk_at "tr"))
  | ((with_reducible refine' w_append ?vv ?ww ?_); (case vv => walk_at "tr"); (case ww => walk_at "size"))
  | ((with_reducible refine' w_size ?vv ?_); (case vv => walk_at "size"))
  | with_reducible refine w_forL ?_
  | with_reducible refine w_forT ?_
  | with_reducible refine w_forR1 ?_
  | with_reducible refine w_forR2 ?_
  | with_reducible refine w_lcL ?_
  | with_reducible refine w_lcT ?_
  | with_reducible refine w_lcR1 ?_
  | with_reducible refine w_yes ?_
  | with_reducible refine w_sl ?_
  | with_reducible refine w_noPart ?_
  | with_reducible refine w_part ?_
  | with_reducible refine w_int ?_
  | ((with_reducible refine' w_slL ?vv ?_); (case vv => walk_at "tr"))
  | ((with_reducible refine' w_seqL ?vv ?ww ?_); (case vv => walk_at "tr"); (case ww => rfl))
  | ((with_reducible refine' w_seqT ?vv ?ww ?_); (case vv => walk_at "tr"); (case ww => rfl))
  | with_reducible refine w_gNil ?_
  | with_reducible refine w_gCons ?_
  | with_reducible refine w_forZ ?_
  | with_reducible refine w_forM ?_
  | with_reducible refine w_forE ?_
  | with_reducible refine w_forV ?_
  | with_reducible refine w_lcZ ?_
  | with_reducible refine w_lcE ?_
  | ((with_reducible refine' w_isi (b := true) ?vv ?ww ?_); (case vv => walk_at "ty"); (case ww => decide +kernel))
  | ((with_reducible refine' w_isi (b := false) ?vv ?ww ?_); (case vv => walk_at "ty"); (case ww => decide +kernel))
  | with_reducible refine w_revL ?_
  | with_reducible refine w_pairN ?_
  | with_reducible refine w_pairC ?_
  | with_reducible refine w_dget ?_
  | with_reducible refine w_met ?_
  | ((with_reducible refine' w_metAt ?vv ?ww ?_); (case vv => walk_at "tr"); (case ww => rfl))
  | with_reducible refine w_mkI ?_
  | with_reducible refine w_fld ?_
  | ((with_reducible refine' w_fldAt ?vv ?cc ?nn ?ww ?_); (case vv => walk_at "tr"); (case cc => walk_at "cls"); (case nn => walk_at "na"); (case ww => rfl))
  | with_reducible refine w_sfld ?_
  | ((with_reducible refine' w_sfldAt ?vv ?cc ?nn ?ll ?ee ?_); (case vv => walk_at "tr"); (case cc => walk_at "cls"); (case nn => walk_at "na"); (case ll => simp); (case ee => rfl))
  | ((with_reducible refine' w_tupL ?vv ?_); (case vv => walk_at "tr"))
  | ((with_reducible refine' w_tupT ?vv ?_); (case vv => walk_at "tr"))
  | ((with_reducible refine' w_listL ?vv ?_); (case vv => walk_at "tr"))
  | ((with_reducible refine' w_listT ?vv ?_); (case vv => walk_at "tr"))
  | with_reducible refine w_tyS ?_
  | with_reducible refine w_retN ?_
  | with_reducible refine w_break ?_
  | with_reducible refine w_cont ?_)
local macro_rules | `(tactic| walk_at "w") => `(tactic| first
  | walk_at "v"
  | with_reducible refine w_or ?_
  | with_reducible refine w_and ?_
  | with_reducible refine w_andV ?_
  | with_reducible refine w_orV ?_)
local macro_rules | `(tactic| walk_at "wd") => `(tactic| first
  | walk_at "w"
  | ((with_reducible refine' w_decT ?vv ?_); (case vv => decide +kernel))
  | ((with_reducible refine' w_decF ?vv ?_); (case vv => decide +kernel)))
local macro_rules | `(tactic| walk_at "tz") => `(tactic| (intro S z; (repeat walk_at "w"); exact z))
local macro_rules | `(tactic| walk_at "wf") => `(tactic| first
  | walk_at "wd"
  | ((with_reducible refine' w_decF ?vv ?_); (case vv => with_reducible assumption)))
theorem w_dnew {σ : L2.St} {H : Hp} {Q : VK} (k : NewO (.dK []) H Q) : tDNewK σ H Q := k
def NL (t : String) : Prop := t = "NoneType" ∨ t = "tuple" ∨ t = "str" ∨ t = "dict"
/-- the items of a thing that is a list -/
def Ths (K : PySem.W.Frag) (H : Hp) : List V → List (Option Int) → Prop
  | [], [] => True
  | v :: vs, w :: ws => Th K H v w ∧ Ths K H vs ws
  | _, _ => False
theorem Ths.len {K : PySem.W.Frag} {H : Hp} : ∀ {vs : List V} {ws : List (Option Int)}, Ths K H vs ws → vs.length = ws.length
  | [], [], _ => rfl
  | _ :: _, _ :: _, h => congrArg (· + 1) (Ths.len h.2)
  | [], _ :: _, h => h.elim
  | _ :: _, [], h => h.elim
theorem Ths.at {K : PySem.W.Frag} {H : Hp} : ∀ {vs : List V} {ws : List (Option Int)} {i : Nat} {v : V}, Ths K H vs ws → vs[i]? = some v → ∃ w, ws[i]? = some w ∧ Th K H v w
  | [], [], _, _, _, h => by simp at h
  | _ :: _, [], _, _, h, _ => h.elim
  | [], _ :: _, _, _, h, _ => h.elim
  | v :: vs, w :: ws, 0, x, h, e => ⟨w, rfl, by cases Option.some.inj e; exact h.1⟩
  | v :: vs, w :: ws, i + 1, x, h, e => by
    obtain ⟨y, a, b⟩ := Ths.at (i := i) h.2 (by simpa using e)
    exact ⟨y, by simpa using a, b⟩
theorem Ths.sm {K : PySem.W.Frag} {H H' : Hp} (e : Same H H') : ∀ {vs : List V} {ws : List (Option Int)}, Ths K H vs ws → Ths K H' vs ws
  | [], [], _ => trivial
  | _ :: _, _ :: _, h => ⟨h.1.sm e, Ths.sm e h.2⟩
  | [], _ :: _, h => h.elim
  | _ :: _, [], h => h.elim
theorem Ths.app {K : PySem.W.Frag} {H : Hp} : ∀ {vs us : List V} {ws xs : List (Option Int)}, Ths K H vs ws → Ths K H us xs → Ths K H (vs ++ us) (ws ++ xs)
  | [], _, [], _, _, g => g
  | _ :: _, _, _ :: _, _, h, g => ⟨h.1, Ths.app h.2 g⟩
  | [], _, _ :: _, _, h, _ => h.elim
  | _ :: _, _, [], _, h, _ => h.elim
theorem ths_ints {K : PySem.W.Frag} {H : Hp} : ∀ ns : List Int, Ths K H (ns.map V.int) (ns.map some)
  | [] => trivial
  | n :: ns => ⟨rfl, ths_ints ns⟩
/-- all parts, and what own parts they have -/
structure PK (K : PySem.W.Frag) (H : Hp) (l : Addr) (ss : List SetE) : Prop where
  pl : PL K H l (proots ss []).2
  ok : ∀ s ∈ ss, OkS 4 s
  few : ss.length ≤ 4
def nOf (ss : List SetE) : Int := (cnts (restsL ss) : Nat)
theorem PK.sm {K : PySem.W.Frag} {H H' : Hp} {l : Addr} {ss : List SetE} (h : PK K H l ss) (e : Same H H') : PK K H' l ss := ⟨h.pl.same e, h.ok, h.few⟩
theorem PK.at {K : PySem.W.Frag} {H : Hp} {l : Addr} {ss : List SetE} {x : Int} (h : PK K H l ss) (h0 : 0 ≤ x) (h1 : x < nOf ss) : ∃ xs v d, H l = some (.lst xs) ∧ atI xs x = some v ∧ Dp K H v d ∧ PRow d ∧ ownD d = ownF ss x := by
  obtain ⟨xs, hx, hd, hr⟩ := id h.pl
  have hl : xs.length = (proots ss []).2.length := h.pl.len hx
  rw [proots_cnt] at hl
  unfold nOf at h1
  obtain ⟨v, e1, _, e3⟩ := atI_some (xs := xs) h0 (by omega)
  obtain ⟨d, hd1, hd2⟩ := dpa_at' hd e3
  refine ⟨xs, v, d, hx, e1, hd2, proots_prow ss h.ok rows_nil (fun _ q => (List.not_mem_nil q).elim) d (List.mem_of_getElem? hd1), ?_⟩
  have := ownF_at hd1
  rw [← this, Int.toNat_of_nonneg h0]
theorem PK.len {K : PySem.W.Frag} {H : Hp} {l : Addr} {ss : List SetE} (h : PK K H l ss) : ∃ xs, H l = some (.lst xs) ∧ ((xs.length : Nat) : Int) = nOf ss ∧ xs.length ≤ 120 := by
  obtain ⟨xs, hx, _⟩ := id h.pl
  have hl : xs.length = (proots ss []).2.length := h.pl.len hx
  have := (proots_len ss [] h.ok).1
  have := h.few
  rw [List.length_nil] at *
  refine ⟨xs, hx, ?_, by omega⟩
  unfold nOf
  rw [hl, proots_cnt]
def spIsOrd (K : PySem.W.Frag) : Sp := fun vs H Q _ => ∃ l ss v, vs = [.ref l, v] ∧ PK K H l ss ∧
  ((∃ t, NL t ∧ TyX K H v (.type t) ∧ Q (.bl false) H) ∨ ∃ p xs ws, v = .ref p ∧ H p = some (.lst xs) ∧ Ths K H xs ws ∧ xs.length ≤ 1000 ∧ ∀ H', Same H H' → Q (.bl (isOrdB (ownF ss) (nOf ss) ws)) H')
theorem len_is_order {K : PySem.W.Frag} {vs H Q E} (h : spIsOrd K vs H Q E) : vs.length = 2 := by obtain ⟨_, _, _, rfl, _⟩ := h; rfl
section
variable {P : Program} {w : World} {K : PySem.W.Frag} {mg : Str → Option Value}
theorem ok_is_order [c : Facts K mg] (G_is_within : Fn P w K mg "is_within" 2 ["thing", "low", "high"] ((spWithin K))) (G_own_parts : Fn P w K mg "own_parts" 1 ["part"] ((spOwnP K))) : Fn P w K mg "is_order" 3 ["parts", "order"] ((spIsOrd K)) := by
  obtain ⟨fd, F⟩ := c.d_is_order
  refine Fn.mk' F c.g_is_order sc_is_order (k := 2) (fun vs H Q E h => ?_) (fun _ _ _ _ _ _ us hl => match us, hl with | [_, _], _ => rfl) (fun base cdv A outer s H vs Q E hr h => ?_)
  · exact len_is_order h
  · have nd := sc_is_order.nd
    have hu := hu_of hr
    have hr_is_within : Room 2 _ := hr.mono (by omega)
    have hr_own_parts : Room 1 _ := hr.mono (by omega)
    refine ⟨_, (pss_cons (ps_if (PW.pt (pw_or (pt_not (pt_val (pe_callB (call_isiA (K := K) rfl) (by rfl) c.f_isinstance boot_isinstance (pa_cons (pv 1) (pa_cons (pe_bltn (v := .ty "list") (by rfl) c.f_list boot_list rfl) pa_nil))))) (pw_or1 (pt_cmpR (op_neA (K := K) rfl hr.units) (pe_callB (call_lenA (K := K) rfl) (by rfl) c.f_len boot_len (pa_cons (pv 1) pa_nil)) (pe_callB (call_lenA (K := K) rfl) (by rfl) c.f_len boot_len (pa_cons (pv 0) pa_nil)) (nomark _))))) (pss_one (ps_ret pe_bl)) pss_nil)
      (pss_cons (ps_set (i := 2) nd rfl (Or.inl rfl) pe_dnewK)
      (pss_cons (ps_for PassesOwn.never rfl (pi_list (pv 1)) (pg_name (i := 3) nd rfl (Or.inl rfl)) (pss_cons (ps_if (PW.pt (pw_or (pt_not (pt_val (pe_fn G_is_within hr_is_within (by rfl) (pa_cons (pv 3) (pa_cons pe_int (pa_cons (pe_op op_sub (pe_callB (call_lenA (K := K) rfl) (by rfl) c.f_len boot_len (pa_cons (pv 0) pa_nil)) pe_int) pa_nil)))))) (pw_or1 (pt_cmp (pc_din hu (pv 3) (pv 2)) (by rfl))))) (pss_one (ps_ret pe_bl)) pss_nil)
      (pss_cons (ps_for PassesOwn.never rfl (pi_list (pe_fn G_own_parts hr_own_parts (by rfl) (pa_cons (pe_ix (ix_any (K := K) rfl) (pv 0) (pv 3) (fun _ _ => rfl)) pa_nil))) (pg_name (i := 4) nd rfl (Or.inl rfl)) (pss_one (ps_if (pt_cmp (pc_dnotin hu (pv 4) (pv 2)) (by rfl)) (pss_one (ps_ret pe_bl)) pss_nil)))
      (pss_one (ps_dput hu (pv 2) (pv 3) pe_bl rfl)))))
      (pss_one (ps_ret pe_bl))))), ?_⟩
    try dsimp only [cxOf, Cx.nox, Cx.wish]
    obtain ⟨l, ss, v, rfl, hP, hv⟩ := h
    rcases hv with ⟨t, ht, ty, q⟩ | ⟨p, xs, ws, rfl, hp, hth, hl, q⟩
    · rcases ht with rfl | rfl | rfl | rfl
      all_goals
        repeat walk_at "w"
        refine w_isi (b := false) ty (by decide +kernel) ?_
        repeat walk_at "w"
        exact q
    · obtain ⟨us, hus, hun, hul⟩ := hP.len
      repeat walk_at "w"
      have hwl := hth.len
      refine ite2 (fun h1 => ?_) (fun h1 => ?_)
      · rw [Bool.not_eq_true', decide_eq_false_iff_not] at h1
        repeat walk_at "w"
        rw [bad_len (by omega)] at q
        exact q _ (Same.refl _)
      · have hn : (ws.length : Int) = nOf ss := by simp at h1; omega
        repeat walk_at "w"
        refine w_dnew ?_
        refine w_new fun da H1 n1 s1 f1 => ?_
        have npd : p ≠ da := ne_of_none hp n1
        have nld : l ≠ da := ne_of_none hus n1
        repeat walk_at "w"
        refine fl_list xs (fun i σ H' => ∃ o1 o2 kvs seen, σ = [some (.ref l), some (.ref p), some (.ref da), o1, o2] ∧ Same H H' ∧ H' da = some (.dK kvs) ∧ kvs.length ≤ i ∧ (∀ y, (valV kvs (.inl y)).isSome = decide (y ∈ seen)) ∧
            ordB (ownF ss) (nOf ss) ws [] = ordB (ownF ss) (nOf ss) (ws.drop i) seen) (SqL.of (s1 _ _ hp))
          ⟨_, _, [], [], rfl, s1, f1, Nat.le_refl _, fun y => by simp [valV], by rw [List.drop_zero]⟩ (fun i σ H' hi hp' => ?_) (fun i x σ H' hx hp' => ?_) (fun σ H' hp' => ?_)
        · obtain ⟨_, _, _, _, _, e, _⟩ := hp'
          exact SqL.of (e _ _ hp)
        · obtain ⟨o1, o2, kvs, seen, rfl, e, hd, hk, hs, ho⟩ := hp'
          obtain ⟨wx, hw, hthx⟩ := hth.at hx
          have hil := (List.getElem?_eq_some_iff.mp hx).1
          have dr : ws.drop i = wx :: ws.drop (i + 1) := by
            obtain ⟨a, rfl⟩ := List.getElem?_eq_some_iff.mp hw
            exact List.drop_eq_getElem_cons a
          rw [dr] at ho
          have hfin : ordB (ownF ss) (nOf ss) ws [] = false → ∀ H2, Same H H2 → Q (.bl false) H2 := fun z H2 e2 => by
            have := q H2 e2
            rw [show isOrdB (ownF ss) (nOf ss) ws = false by unfold isOrdB; rw [z, Bool.and_false]] at this
            exact this
          have husE := e _ _ hus
          repeat walk_at "v"
          refine w_or ?_
          repeat walk_at "w"
          refine ⟨x, wx, 0, _, rfl, hthx.sm e, ?_⟩
          repeat walk_at "w"
          refine ite2 (fun h2 => ?_) (fun h2 => ?_)
          · have hf : inB wx 0 (us.length - 1) = false := by simpa using h2
            repeat walk_at "w"
            refine hfin ?_ _ e
            rw [ho]
            cases wx with
            | none => rfl
            | some y =>
              unfold ordB
              unfold inB at hf
              rw [decide_eq_false_iff_not] at hf
              rw [decide_eq_false (by omega)]; rfl
          · have ht : inB wx 0 (us.length - 1) = true := by simpa using h2
            cases wx with
            | none => cases ht
            | some y =>
              unfold inB at ht
              rw [decide_eq_true_eq] at ht
              cases (hthx : x = .int y)
              repeat walk_at "w"
              refine ⟨da, _, rfl, DGet.k (k := .inl y) hd, ?_⟩
              repeat walk_at "w"
              rw [hs y]
              rw [ordB_some] at ho
              refine ite2 (fun h3 => ?_) (fun h3 => ?_)
              · repeat walk_at "w"
                refine hfin ?_ _ e
                rw [ho, h3]; simp
              · repeat walk_at "w"
                obtain ⟨xs2, v2, d2, hx2, ha2, hd2, hr2, ho2⟩ := (hP.sm e).at ht.1 (by omega : y < nOf ss)
                refine w_ixL (SqL.of hx2) ha2 ?_
                repeat walk_at "w"
                refine ⟨v2, d2, rfl, hd2, hr2, fun po H3 fo e3 no => ?_⟩
                rw [ho2] at fo
                have hd3 := e3 _ _ hd
                have sm3 := e.trans e3
                refine fl_list ((ownF ss y).map V.int) (fun j σ H' => ∃ o2, H' = H3 ∧ σ = [some (.ref l), some (.ref p), some (.ref da), some (.int y), o2] ∧ ∀ z ∈ (ownF ss y).take j, z ∈ seen) (SqL.of fo) ⟨_, rfl, rfl, fun z hz => by simp at hz⟩ (fun j σ H' hj hp' => ?_) (fun j z σ H' hz hp' => ?_) (fun σ H' hp' => ?_)
                · obtain ⟨_, rfl, _⟩ := hp'
                  exact SqL.of fo
                · obtain ⟨o3, rfl, rfl, hall⟩ := hp'
                  rw [List.getElem?_map] at hz
                  obtain ⟨z', hz', rfl⟩ := Option.map_eq_some_iff.mp hz
                  repeat walk_at "w"
                  refine ⟨da, _, rfl, DGet.k (k := .inl z') hd3, ?_⟩
                  repeat walk_at "w"
                  rw [hs z']
                  refine ite2 (fun h4 => ?_) (fun h4 => ?_)
                  · repeat walk_at "w"
                    refine hfin ?_ _ sm3
                    rw [ho]
                    have : (ownF ss y).all (fun y => decide (y ∈ seen)) = false := by
                      rw [List.all_eq_false]
                      exact ⟨z', List.mem_of_getElem? hz', by simpa using h4⟩
                    rw [this]; simp
                  · repeat walk_at "w"
                    refine ⟨_, rfl, rfl, fun t ht' => ?_⟩
                    rw [take_snoc hz'] at ht'
                    rcases List.mem_append.mp ht' with g | g
                    · exact hall t g
                    · rw [List.mem_singleton.mp g]; simpa using h4
                · obtain ⟨o3, rfl, rfl, hall⟩ := hp'
                  rw [List.length_map, List.take_length] at hall
                  repeat walk_at "w"
                  refine ⟨da, _, rfl, DPut.k (k := .inl y) hd3 (by rw [sizeLine_eq]; omega), ?_⟩
                  repeat walk_at "w"
                  refine ⟨_, _, _, y :: seen, rfl, But.new sm3 n1 (But.upd _ _ _), upd_same, ?_, fun t => ?_, ?_⟩
                  · have := length_putK kvs (.inl y : Key) (V.bl true)
                    omega
                  · rw [valV_put]
                    by_cases z : t = y
                    · subst z; simp
                    · rw [if_neg (fun g => z (by cases g; rfl)), hs t]
                      simp [z]
                  · rw [ho, decide_eq_true (by omega), show (ownF ss y).all (fun y => decide (y ∈ seen)) = true by rw [List.all_eq_true]; intro t h; exact decide_eq_true (hall t h)]
                    have : decide (y ∈ seen) = false := by simpa using h3
                    rw [this]; rfl
        · obtain ⟨o1, o2, kvs, seen, rfl, e, hd, hk, hs, ho⟩ := hp'
          rw [hwl, List.drop_length] at ho
          repeat walk_at "w"
          have := q H' e
          rw [show isOrdB (ownF ss) (nOf ss) ws = true by unfold isOrdB; rw [ho, decide_eq_true hn]; rfl] at this
          exact this
end

end J
namespace J
open PySem PySem.Spec PyProof.Rows L2
local macro_rules | `(tactic| walk_at "cls") => `(tactic| first
  | with_reducible exact Facts.cl_Parts)
local macro_rules | `(tactic| walk_at "na") => `(tactic| first
  | with_reducible exact Facts.na_Parts_rows)
local macro_rules | `(tactic| walk_at "ty") => `(tactic| first
  | with_reducible exact ty_int
  | with_reducible exact ty_bl
  | with_reducible exact ty_str
  | with_reducible exact ty_non
  | ((with_reducible refine' ty_lst ?vv); (case vv => walk_at "tr"))
  | ((with_reducible refine' ty_sqT ?vv); (case vv => walk_at "tr"))
  | ((with_reducible refine' ty_dic ?vv); (case vv => walk_at "tr")))
local macro_rules | `(tactic| walk_at "ix") => `(tactic| first | exact at0 | exact at1 | exact at2 | assumption)
local macro_rules | `(tactic| walk_at "size") => `(tactic| first
  | assumption
  | (show _ < sizeLine; rw [sizeLine_eq]; (try simp only [List.length_cons, List.length_nil, List.length_append, List.length_map]); omega)
  | (show _ ≤ sizeLine; rw [sizeLine_eq]; (try simp only [List.length_cons, List.length_nil, List.length_append, List.length_map]); omega))
local macro_rules | `(tactic| walk_at "side") => `(tactic| first
  | assumption
  | ((with_reducible refine cdw ?_ ?_) <;> omega)
  | omega
  | (exact ⟨by omega, by omega⟩)
  | (exact Or.inl ⟨by omega, by omega⟩)
  | (exact Or.inr ⟨by omega, by omega⟩)
  | decide
  | (simp only [List.length_cons, List.length_nil, List.length_append, List.length_map]; omega)
  | (show _ ≤ _; decide))
local macro_rules | `(tactic| walk_at "as") => `(tactic| with_reducible assumption)
local macro_rules | `(tactic| walk_at "tr") => `(tactic| first
  | with_reducible assumption
  | with_reducible exact upd_same
  | ((with_reducible refine' SqL.of ?hh); (case hh => walk_at "as"))
  | ((with_reducible refine' SqT.of ?hh); (case hh => walk_at "as"))
  | ((with_reducible refine' Same.stm ?ee ?gg); (case ee => walk_at "as"); (case gg => walk_at "tr"))
  | ((with_reducible refine' Same.sqT ?ee ?gg); (case ee => walk_at "as"); (case gg => walk_at "tr"))
  | ((with_reducible refine' Same.sqL ?ee ?gg); (case ee => walk_at "as"); (case gg => walk_at "tr"))
  | ((with_reducible refine' Same.at ?ee ?gg); (case ee => walk_at "as"); (case gg => walk_at "tr"))
  | ((with_reducible refine' But.stm ?ee ?ff ?gg); (case ee => walk_at "as"); (case ff => walk_at "ne"); (case gg => walk_at "tr"))
  | ((with_reducible refine' But.tup ?ee ?ff ?gg); (case ee => walk_at "as"); (case ff => walk_at "tr1"); (case gg => walk_at "tr"))
  | ((with_reducible refine' But.sqT ?ee ?ff ?gg); (case ee => walk_at "as"); (case ff => walk_at "tr1"); (case gg => walk_at "tr"))
  | ((with_reducible refine' But.tupL ?ee ?ff ?gg); (case ee => walk_at "as"); (case ff => walk_at "tr1"); (case gg => walk_at "tr"))
  | ((with_reducible refine' But.sqTL ?ee ?ff ?gg); (case ee => walk_at "as"); (case ff => walk_at "tr1"); (case gg => walk_at "tr"))
  | ((with_reducible refine' But.sqL ?ee ?ff ?gg); (case ee => walk_at "as"); (case ff => walk_at "ne"); (case gg => walk_at "tr"))
  | ((with_reducible refine' But.at ?ee ?ff ?gg); (case ee => walk_at "as"); (case ff => walk_at "ne"); (case gg => walk_at "tr")))
local macro_rules | `(tactic| walk_at "ts") => `(tactic| first
  | with_reducible assumption
  | with_reducible exact TS.refl _
  | ((with_reducible refine' TS.trans ?gg (TS.of ?ee)); (case ee => walk_at "as"); (case gg => walk_at "ts"))
  | ((with_reducible refine' TS.trans ?gg (TS.butS ?ee ?ff)); (case ee => walk_at "as"); (case ff => walk_at "tr1"); (case gg => walk_at "ts"))
  | ((with_reducible refine' TS.trans ?gg (TS.butL ?ee ?ff)); (case ee => walk_at "as"); (case ff => walk_at "tr1"); (case gg => walk_at "ts"))
  | ((with_reducible refine' TS.trans ?gg (TS.butI ?ee ?ff)); (case ee => walk_at "as"); (case ff => walk_at "tr1"); (case gg => walk_at "ts")))
local macro_rules | `(tactic| walk_at "sm") => `(tactic| first
  | with_reducible assumption
  | with_reducible exact Same.refl _
  | ((with_reducible refine' Same.trans ?gg ?ee); (case ee => walk_at "as"); (case gg => walk_at "sm"))
  | ((with_reducible refine' But.new ?gg ?nn ?ee); (case ee => walk_at "as"); (case nn => walk_at "fr"); (case gg => walk_at "sm")))
local macro_rules | `(tactic| walk_at "fr") => `(tactic| first
  | with_reducible assumption
  | ((with_reducible refine' Same.back ?ee ?nn); (case nn => walk_at "as"); (case ee => walk_at "sm"))
  | ((with_reducible refine' But.back ?ee ?ff ?nn); (case nn => walk_at "as"); (case ff => walk_at "ne0"); (case ee => walk_at "bu")))
local macro_rules | `(tactic| walk_at "bu") => `(tactic| first
  | with_reducible assumption
  | with_reducible exact But.refl _ _
  | ((with_reducible refine' But.trans ?gg ?ee); (case ee => walk_at "as"); (case gg => walk_at "bu"))
  | ((with_reducible refine' But.trans ?gg (But.of ?ee)); (case ee => walk_at "as"); (case gg => walk_at "bu"))
  | ((with_reducible refine' But.new2 ?gg ?nn ?ee); (case ee => walk_at "as"); (case nn => walk_at "frB"); (case gg => walk_at "bu")))
local macro_rules | `(tactic| walk_at "frB") => `(tactic| first
  | with_reducible assumption
  | ((with_reducible refine' Same.back ?ee ?nn); (case nn => walk_at "as"); (case ee => walk_at "sm"))
  | ((with_reducible refine' But.back' ?ee ?ff ?nn); (case nn => walk_at "as"); (case ee => walk_at "bu"); (case ff => walk_at "tr1")))
local macro_rules | `(tactic| walk_at "tr1") => `(tactic| first
  | with_reducible assumption
  | ((with_reducible refine' Same.stm ?ee ?gg); (case ee => walk_at "as"); (case gg => walk_at "tr1"))
  | ((with_reducible refine' Same.at ?ee ?gg); (case ee => walk_at "as"); (case gg => walk_at "tr1"))
  | ((with_reducible refine' But.at ?ee ?ff ?gg); (case ee => walk_at "as"); (case ff => walk_at "ne0"); (case gg => walk_at "tr1"))
  | ((with_reducible refine' But.stm ?ee ?ff ?gg); (case ee => walk_at "as"); (case ff => walk_at "ne0"); (case gg => walk_at "tr1")))
local macro_rules | `(tactic| walk_at "ne0") => `(tactic| first
  | with_reducible assumption
  | (with_reducible apply Ne.symm; with_reducible assumption))
local macro_rules | `(tactic| walk_at "ne") => `(tactic| first
  | with_reducible assumption
  | (with_reducible apply Ne.symm; with_reducible assumption)
  | ((with_reducible refine' stm_ne ?hh ?nn); (case nn => walk_at "as"); (case hh => walk_at "tr1"))
  | ((with_reducible refine' ne_of_none ?hh ?nn); (case nn => walk_at "as"); (case hh => walk_at "tr1"))
  | ((with_reducible apply Ne.symm); (with_reducible refine' ne_of_none ?hh ?nn); (case nn => walk_at "as"); (case hh => walk_at "tr1")))
local macro_rules | `(tactic| walk_at "v") => `(tactic| first
  | with_reducible refine w_seq ?_
  | ((with_reducible refine' w_var ?vv ?_); (case vv => exact rfl))
  | with_reducible refine w_c ?_
  | with_reducible refine w_op ?_
  | with_reducible refine w_asg ?_
  | with_reducible refine w_gName ?_
  | with_reducible refine w_ret ?_
  | with_reducible refine w_ifS ?_
  | with_reducible refine w_drop ?_
  | with_reducible refine w_next ?_
  | with_reducible refine w_cons ?_
  | with_reducible refine w_nil ?_
  | with_reducible refine w_call ?_
  | with_reducible refine w_cb ?_
  | with_reducible refine w_rI0 ?_
  | with_reducible refine w_addI ?_
  | with_reducible refine w_eqI ?_
  | with_reducible refine w_neI ?_
  | with_reducible refine w_eqS ?_
  | with_reducible refine w_neS ?_
  | with_reducible refine w_eqB ?_
  | with_reducible refine w_neB ?_
  | with_reducible refine w_chain ?_
  | with_reducible refine w_test ?_
  | with_reducible refine w_tB ?_
  | with_reducible refine w_bl ?_
  | ((with_reducible refine' w_mulI ?vv ?_); (case vv => walk_at "side"))
  | ((with_reducible refine' w_rI ?vv ?_); (case vv => walk_at "side"))
  | with_reducible refine w_int1 ?_
  | with_reducible refine w_int1b ?_
  | with_reducible refine w_tup ?_
  | with_reducible refine w_lst ?_
  | with_reducible refine w_un ?_
  | with_reducible refine w_rU ?_
  | with_reducible refine w_not ?_
  | with_reducible refine w_notV ?_
  | with_reducible refine w_ifE ?_
  | with_reducible refine w_nT ?_
  | with_reducible refine w_nF ?_
  | with_reducible refine iteT ?_
  | with_reducible refine iteF ?_
  | ((with_reducible refine' w_ixT ?vv ?ww ?_); (case vv => walk_at "tr"); (case ww => walk_at "ix"))
  | ((with_reducible refine' w_ixL ?vv ?ww ?_); (case vv => walk_at "tr"); (case ww => walk_at "ix"))
  | with_reducible refine w_gSub ?_
  | ((with_reducible refine' w_setL ?vv ?ww ?_); (case vv => walk_at "tr"); (case ww => first | rfl | decide | assumption))
  | ((with_reducible refine' w_lenL ?vv ?_); (case vv => walk_at "tr"))
  | ((with_reducible refine' w_lenT ?vv ?_); (case vv => walk_at "tr"))
  | with_reducible refine w_max2 ?_
  | with_reducible refine w_max3 ?_
  | with_reducible refine w_din ?_
  | with_reducible refine w_dnotin ?_
  | with_reducible refine w_dput ?_
  | with_reducible refine w_min2 ?_
  | with_reducible refine w_bm ?_
  | with_reducible refine w_bm0 ?_
  | ((with_reducible refine' w_tyL ?vv ?_); (case vv => walk_at "tr"))
  | ((with_reducible refine' w_append ?vv ?ww ?_); (case vv => walk_at "tr"); (case ww => walk_at "size"))
  | ((with_reducible refine' w_size ?vv ?_); (case vv => walk_at "size"))
  | with_reducible refine w_forL ?_
  | with_reducible refine w_forT ?_
  | with_reducible refine w_forR1 ?_
  | with_reducible refine w_forR2 ?_
  | with_reducible refine w_lcL ?_
  | with_reducible refine w_lcT ?_
  | with_reducible refine w_lcR1 ?_
  | with_reducible refine w_yes ?_
  | with_reducible refine w_sl ?_
  | with_reducible refine w_noPart ?_
  | with_reducible refine w_part ?_
  | with_reducible refine w_int ?_
  | ((with_reducible refine' w_slL ?vv ?_); (case vv => walk_at "tr"))
  | ((with_reducible refine' w_seqL ?vv ?ww ?_); (case vv => walk_at "tr"); (case ww => rfl))
  | ((with_reducible refine' w_seqT ?vv ?ww ?_); (case vv => walk_at "tr"); (case ww => rfl))
  | with_reducible refine w_gNil ?_
  | with_reducible refine w_gCons ?_
  | with_reducible refine w_forZ ?_
  | with_reducible refine w_forM ?_
  | with_reducible refine w_forE ?_
  | with_reducible refine w_forV ?_
  | with_reducible refine w_lcZ ?_
  | with_reducible refine w_lcE ?_
  | ((with_reducible refine' w_isi (b := true) ?vv ?ww ?_); (case vv => walk_at "ty"); (case ww => decide +kernel))
  | ((with_reducible refine' w_isi (b := false) ?vv ?ww ?_); (case vv => walk_at "ty"); (case ww => decide +kernel))
  | with_reducible refine w_revL ?_
  | with_reducible refine w_pairN ?_
  | with_reducible refine w_pairC ?_
  | with_reducible refine w_dget ?_
  | with_reducible refine w_met ?_
  | ((with_reducible refine' w_metAt ?vv ?ww ?_); (case vv => walk_at "tr"); (case ww => rfl))
  | with_reducible refine w_mkI ?_
  | with_reducible refine w_fld ?_
  | ((with_reducible refine' w_fldAt ?vv ?cc ?nn ?ww ?_); (case vv => walk_at "tr"); (case cc => walk_at "cls"); (case nn => walk_at "na"); (case ww => rfl))
  | with_reducible refine w_sfld ?_
  | ((with_reducible refine' w_sfldAt ?vv ?cc ?nn ?ll ?ee ?_); (case vv => walk_at "tr"); (case cc => walk_at "cls"); (case nn => walk_at "na"); (case ll => simp); (case ee => rfl))
  | ((with_reducible refine' w_tupL ?vv ?_); (case vv => walk_at "tr"))
  | ((with_reducible refine' w_tupT ?vv ?_); (case vv => walk_at "tr"))
  | ((with_reducible refine' w_listL ?vv ?_); (case vv => walk_at "tr"))
  | ((with_reducible refine' w_listT ?vv ?_); (case vv => walk_at "tr"))
  | with_reducible refine w_tyS ?_
  | with_reducible refine w_retN ?_
  | with_reducible refine w_break ?_
  | with_reducible refine w_cont ?_)
local macro_rules | `(tactic| walk_at "w") => `(tactic| first
  | walk_at "v"
  | with_reducible refine w_or ?_
  | with_reducible refine w_and ?_
  | with_reducible refine w_andV ?_
  | with_reducible refine w_orV ?_)
local macro_rules | `(tactic| walk_at "wd") => `(tactic| first
  | walk_at "w"
  | ((with_reducible refine' w_decT ?vv ?_); (case vv => decide +kernel))
  | ((with_reducible refine' w_decF ?vv ?_); (case vv => decide +kernel)))
local macro_rules | `(tactic| walk_at "tz") => `(tactic| (intro S z; (repeat walk_at "w"); exact z))
local macro_rules | `(tactic| walk_at "wf") => `(tactic| first
  | walk_at "wd"
  | ((with_reducible refine' w_decF ?vv ?_); (case vv => with_reducible assumption)))
def BadV (K : PySem.W.Frag) (H : Hp) (ss : List SetE) (w : V) : Prop := (∃ t, NL t ∧ TyX K H w (.type t)) ∨ ∃ p xs ws, w = .ref p ∧ H p = some (.lst xs) ∧ Ths K H xs ws ∧ xs.length ≤ 1000 ∧ isOrdB (ownF ss) (nOf ss) ws = false
theorem BadV.sm {K : PySem.W.Frag} {H H' : Hp} {ss : List SetE} {w : V} (h : BadV K H ss w) (e : Same H H') : BadV K H' ss w := by
  rcases h with ⟨t, a, b⟩ | ⟨p, xs, ws, a, b, c, d, f⟩
  · exact .inl ⟨t, a, tyx_sm e b⟩
  · exact .inr ⟨p, xs, ws, a, e _ _ b, c.sm e, d, f⟩
def spHeldBy (K : PySem.W.Frag) : Sp := fun vs H Q _ => ∃ v ss w, vs = [v, w] ∧ Dp K H v (setsD ss) ∧ ss.length ≤ 4 ∧ (∀ x ∈ ss, OkS 4 x) ∧
  ((BadV K H ss w ∧ ∀ H', Same H H' → Q .non H') ∨ ∃ p o, w = .ref p ∧ H p = some (.lst (o.map V.int)) ∧ Full (ownF ss) (nOf ss) o ∧ ∀ q H', H' q = some (.lst ((heldL (ownF ss) o).map V.int)) → Same H H' → H q = none → Q (.ref q) H')
theorem len_held_by {K : PySem.W.Frag} {vs H Q E} (h : spHeldBy K vs H Q E) : vs.length = 2 := by obtain ⟨_, _, _, rfl, _⟩ := h; rfl
theorem setsD_t (ss : List SetE) : tupD (setsD ss) = true := by unfold setsD; rw [tupD]; exact setsD_tup ss
theorem nOf_le {ss : List SetE} (h : ∀ s ∈ ss, OkS 4 s) (hl : ss.length ≤ 4) : nOf ss ≤ 120 := by
  have := (proots_len ss [] h).1
  rw [proots_cnt, List.length_nil] at this
  unfold nOf; omega
theorem Full.suf {own : Int → List Int} {n : Int} {o : List Int} (h : Full own n o) (i : Nat) : Val own (o.take i).reverse := by
  have : o.reverse = (o.drop i).reverse ++ (o.take i).reverse := by rw [← List.reverse_append, List.take_append_drop]
  have v := h.val
  rw [this] at v
  exact val_app v
theorem Full.cnt {ss : List SetE} {o : List Int} (h : Full (ownF ss) (nOf ss) o) {i : Nat} {x : Int} (hx : o[i]? = some x) :
    cnts' (ownF ss) o i = ((held (ownF ss) (o.take i).reverse).length : Int) + 1 - ((ownF ss x).length : Int) := by
  have v := h.suf (i + 1)
  unfold cnts'
  rw [rev_snoc hx] at v ⊢
  exact held_cnt (ownF_ok ss) v fun y hy => by
    refine (h.mem y).mp ?_
    rcases List.mem_cons.mp hy with rfl | hy
    · exact List.mem_of_getElem? hx
    · exact List.mem_of_mem_take (List.mem_reverse.mp hy)
section
variable {P : Program} {w : World} {K : PySem.W.Frag} {mg : Str → Option Value}
theorem ok_held_by [c : Facts K mg] (G_is_order : Fn P w K mg "is_order" 3 ["parts", "order"] ((spIsOrd K))) (G_own_parts : Fn P w K mg "own_parts" 1 ["part"] ((spOwnP K))) (G_parts_of : Fn P w K mg "parts_of" 7 ["sets"] ((spPof K))) : Fn P w K mg "held_by" 8 ["sets", "order"] ((spHeldBy K)) := by
  obtain ⟨fd, F⟩ := c.d_held_by
  refine Fn.mk' F c.g_held_by sc_held_by (k := 7) (fun vs H Q E h => ?_) (fun _ _ _ _ _ _ us hl => match us, hl with | [_, _], _ => rfl) (fun base cdv A outer s H vs Q E hr h => ?_)
  · exact len_held_by h
  · have nd := sc_held_by.nd
    have hu := hu_of hr
    have hr_is_order : Room 3 _ := hr.mono (by omega)
    have hr_own_parts : Room 1 _ := hr.mono (by omega)
    have hr_parts_of : Room 7 _ := hr.mono (by omega)
    refine ⟨_, (pss_cons (ps_set (i := 2) nd rfl (Or.inl rfl) (pe_fn G_parts_of hr_parts_of (by rfl) (pa_cons (pv 0) pa_nil)))
      (pss_cons (ps_if (pt_not (pt_val (pe_fn G_is_order hr_is_order (by rfl) (pa_cons (pv 2) (pa_cons (pv 1) pa_nil))))) (pss_one (ps_ret pe_non)) pss_nil)
      (pss_cons (ps_set (i := 3) nd rfl (Or.inl rfl) (pe_lst pa_nil))
      (pss_cons (ps_set (i := 4) nd rfl (Or.inl rfl) pe_int)
      (pss_cons (ps_for PassesOwn.never rfl (pi_list (pv 1)) (pg_name (i := 5) nd rfl (Or.inl rfl)) (pss_cons (ps_set (i := 4) nd rfl (Or.inl rfl) (pe_op op_sub (pe_op (op_addA (K := K) rfl) (pv 4) pe_int) (pe_callB (call_lenA (K := K) rfl) (by rfl) c.f_len boot_len (pa_cons (pe_fn G_own_parts hr_own_parts (by rfl) (pa_cons (pe_ix (ix_any (K := K) rfl) (pv 2) (pv 5) (fun _ _ => rfl)) pa_nil)) pa_nil))))
      (pss_one (ps_expr (pe_bm PySem.F.plainAttrs_list PySem.F.slot_list_append PySem.F.type_list_append mt_append (pv 3) (pa_cons (pv 4) pa_nil))))))
      (pss_one (ps_ret (pv 3)))))))), ?_⟩
    try dsimp only [cxOf, Cx.nox, Cx.wish]
    obtain ⟨v, ss, w2, rfl, hv, hl, ho, hw⟩ := h
    repeat walk_at "w"
    refine ⟨v, ss, rfl, hv, hl, ho, fun l H1 hP nl s1 => ?_⟩
    have pk : PK K H1 l ss := ⟨hP, ho, hl⟩
    repeat walk_at "w"
    rcases hw with ⟨hb, q⟩ | ⟨p, o, rfl, hp, hf, q⟩
    · refine ⟨l, ss, w2, rfl, pk, ?_⟩
      rcases hb.sm s1 with ⟨t, a, b⟩ | ⟨p, xs, ws, rfl, hp, hth, hl2, hbad⟩
      · refine .inl ⟨t, a, b, ?_⟩
        repeat walk_at "w"
        exact q _ s1
      · refine .inr ⟨p, xs, ws, rfl, hp, hth, hl2, fun H2 s2 => ?_⟩
        rw [hbad]
        repeat walk_at "w"
        exact q _ (s1.trans s2)
    · have hol : o.length ≤ 120 := by have := hf.len; have := nOf_le ho hl; omega
      refine ⟨l, ss, .ref p, rfl, pk, .inr ⟨p, o.map V.int, o.map some, rfl, s1 _ _ hp, ths_ints o, by rw [List.length_map]; omega, fun H2 s2 => ?_⟩⟩
      rw [hf.ord]
      repeat walk_at "w"
      refine w_new fun f H3 n3 s3 f3 => ?_
      have s03 := s1.trans (s2.trans s3)
      have pk3 := pk.sm (s2.trans s3)
      repeat walk_at "w"
      refine fl_list (o.map V.int) (fun i σ H' => ∃ o1, σ = [some v, some (.ref p), some (.ref l), some (.ref f), some (.int ((held (ownF ss) (o.take i).reverse).length : Int)), o1] ∧ Same H H' ∧ PK K H' l ss ∧ H' f = some (.lst (((heldL (ownF ss) o).take i).map V.int))) (SqL.of (s03 _ _ hp))
        ⟨_, rfl, s03, pk3, f3⟩ (fun i σ H' hi hp' => ?_) (fun i x σ H' hx hp' => ?_) (fun σ H' hp' => ?_)
      · obtain ⟨_, _, e, _⟩ := hp'
        exact SqL.of (e _ _ hp)
      · obtain ⟨o1, rfl, e, pk', hfd⟩ := hp'
        rw [List.getElem?_map] at hx
        obtain ⟨y, hy, rfl⟩ := Option.map_eq_some_iff.mp hx
        have hil := (List.getElem?_eq_some_iff.mp hy).1
        have by' := (hf.mem y).mp (List.mem_of_getElem? hy)
        obtain ⟨xs2, v2, d2, hx2, ha2, hd2, hr2, ho2⟩ := pk'.at by'.1 by'.2
        repeat walk_at "w"
        refine ⟨v2, d2, rfl, hd2, hr2, fun po H4 fo s4 no => ?_⟩
        rw [ho2] at fo
        repeat walk_at "w"
        have e5 := hf.cnt hy
        rw [List.length_map, show ((held (ownF ss) (o.take i).reverse).length : Int) + 1 - ((ownF ss y).length : Int) = cnts' (ownF ss) o i from e5.symm]
        repeat walk_at "w"
        refine w_append (s4 _ _ hfd) (by rw [sizeLine_eq, List.length_map, List.length_take]; omega) ?_
        refine w_chg fun H5 e5 f5 => ?_
        repeat walk_at "w"
        have nfl : l ≠ f := by
          obtain ⟨us, hus, _⟩ := pk.len
          exact ne_of_none (s2 _ _ hus) n3
        have nfH : H f = none := (s1.trans s2).free n3
        refine ⟨_, rfl, But.new (e.trans s4) nfH e5, ?_, ?_⟩
        · have p4 := pk'.sm s4
          exact ⟨p4.pl.ts (TS.butL e5 (s4 _ _ hfd)) fun _ g => e5 _ _ nfl g, p4.ok, p4.few⟩
        · rw [heldL_take _ _ hil, List.map_append]; exact f5
      · obtain ⟨o1, rfl, e, pk', hfd⟩ := hp'
        rw [List.length_map, List.take_of_length_le (by rw [heldL_len]; exact Nat.le_refl _)] at hfd
        repeat walk_at "w"
        exact q f H' hfd e ((s1.trans s2).free n3)
end
/-! ### needs -/
def spNeed (K : PySem.W.Frag) (n : Nat) : Sp := fun vs H Q _ => ∃ v e, vs = [v] ∧ Dp K H v (Exp.d e) ∧ OkE n e ∧ Q (.int (e.need : Nat)) H
theorem len_needs_of {K : PySem.W.Frag} {n : Nat} {vs H Q E} (h : spNeed K n vs H Q E) : vs.length = 1 := by obtain ⟨_, _, rfl, _⟩ := h; rfl
theorem no_needs_of {K : PySem.W.Frag} {vs H Q E} (h : spNeed K 0 vs H Q E) : False := by obtain ⟨_, _, _, _, h, _⟩ := h; exact okE_0 h
section
variable {P : Program} {w : World} {K : PySem.W.Frag} {mg : Str → Option Value}
theorem ok_needs_of [c : Facts K mg] : ∀ n : Nat, Fn P w K mg "needs_of" (n + 1) ["e"] ((spNeed K n))
  | 0 => by
    obtain ⟨fd, F⟩ := c.d_needs_of
    exact Fn.mk' (k := 0) F c.g_needs_of sc_needs_of (fun vs H Q E h => (no_needs_of h).elim) (fun _ _ _ _ _ _ us hl => match us, hl with | [_], _ => rfl) (fun base cdv A outer s H vs Q E hr h => (no_needs_of h).elim)
  | n + 1 => by
    have G_needs_of := ok_needs_of n
    obtain ⟨fd, F⟩ := c.d_needs_of
    refine Fn.mk' F c.g_needs_of sc_needs_of (k := n + 1) (fun vs H Q E h => ?_) (fun _ _ _ _ _ _ us hl => match us, hl with | [_], _ => rfl) (fun base cdv A outer s H vs Q E hr h => ?_)
    · exact len_needs_of h
    · have nd := sc_needs_of.nd
      have hu := hu_of hr
      have hr_needs_of : Room (n + 1) _ := hr.mono (by omega)
      refine ⟨_, (pss_cons (ps_if (PW.pt (pw_or (pt_cmpR (op_eqA (K := K) rfl hr.units) (pe_ix (ix_any (K := K) rfl) (pv 0) pe_int (fun _ _ => rfl)) pe_str (nomark _)) (pw_or1 (pt_cmpR (op_eqA (K := K) rfl hr.units) (pe_ix (ix_any (K := K) rfl) (pv 0) pe_int (fun _ _ => rfl)) pe_str (nomark _))))) (pss_one (ps_ret pe_int)) pss_nil)
      (pss_cons (ps_if (PW.pt (pw_or (pt_cmpR (op_eqA (K := K) rfl hr.units) (pe_ix (ix_any (K := K) rfl) (pv 0) pe_int (fun _ _ => rfl)) pe_str (nomark _)) (pw_or1 (pt_cmpR (op_eqA (K := K) rfl hr.units) (pe_ix (ix_any (K := K) rfl) (pv 0) pe_int (fun _ _ => rfl)) pe_str (nomark _))))) (pss_one (ps_ret pe_int)) pss_nil)
      (pss_cons (ps_if (pt_cmpR (op_eqA (K := K) rfl hr.units) (pe_ix (ix_any (K := K) rfl) (pv 0) pe_int (fun _ _ => rfl)) pe_str (nomark _)) (pss_one (ps_ret (pe_callB (call_max2A rfl) (by rfl) c.f_max boot_max (pa_cons pe_int (pa_cons (pe_fn G_needs_of hr_needs_of (by rfl) (pa_cons (pe_ix (ix_any (K := K) rfl) (pv 0) pe_int (fun _ _ => rfl)) pa_nil)) pa_nil))))) pss_nil)
      (pss_cons (ps_set (i := 1) nd rfl (Or.inl rfl) (pe_fn G_needs_of hr_needs_of (by rfl) (pa_cons (pe_ix (ix_any (K := K) rfl) (pv 0) pe_int (fun _ _ => rfl)) pa_nil)))
      (pss_cons (ps_set (i := 2) nd rfl (Or.inl rfl) (pe_fn G_needs_of hr_needs_of (by rfl) (pa_cons (pe_ix (ix_any (K := K) rfl) (pv 0) pe_int (fun _ _ => rfl)) pa_nil)))
      (pss_cons (ps_if (PW.pt (pw_and (pt_cmpR (op_eqA (K := K) rfl hr.units) (pv 1) (pv 2) (nomark _)) (pw_and1 (pt_cmpR op_gt (pv 1) pe_int (nomark _))))) (pss_one (ps_ret (pe_op (op_addA (K := K) rfl) (pv 1) pe_int))) pss_nil)
      (pss_one (ps_ret (pe_callB (call_max3A rfl) (by rfl) c.f_max boot_max (pa_cons pe_int (pa_cons (pv 1) (pa_cons (pv 2) pa_nil)))))))))))), ?_⟩
      try dsimp only [cxOf, Cx.nox, Cx.wish]
      obtain ⟨v, e, rfl, hv, oe, q⟩ := h
      cases e with
      | num j =>
        obtain ⟨p, u, rfl, hp, hu'⟩ := exp_1 hv
        repeat walk_at "wf"
        exact q
      | fld j =>
        obtain ⟨p, u, rfl, hp, hu'⟩ := exp_1 hv
        repeat walk_at "wf"
        exact q
      | plc k j =>
        obtain ⟨p, u, rfl, hp, hu'⟩ := exp_1 hv
        repeat walk_at "wf"
        exact q
      | mrk k j =>
        obtain ⟨p, u, rfl, hp, hu'⟩ := exp_1 hv
        repeat walk_at "wf"
        exact q
      | cell a =>
        obtain ⟨p, u, rfl, hp, hu'⟩ := exp_1 hv
        repeat walk_at "wf"
        refine ⟨u, a, rfl, hu', okE_cell oe, ?_⟩
        repeat walk_at "w"
        rw [show max (1 : Int) (a.need : Nat) = (((Exp.cell a).need : Nat) : Int) by simp only [Exp.need]; omega]
        exact q
      | two o a b =>
        obtain ⟨p, u, u2, rfl, hp, hu', hu2⟩ := exp_2 hv
        obtain ⟨oo, oa, ob⟩ := okE_two oe
        obtain ⟨n1, n2, n3, n4, n5⟩ := oo.ne
        repeat walk_at "wf"
        refine ⟨u, a, rfl, hu', oa, ?_⟩
        repeat walk_at "w"
        refine ⟨u2, b, rfl, hu2, ob, ?_⟩
        repeat walk_at "v"
        refine w_andP ((a.need : Int) = b.need) ((0 : Int) < a.need) (by walk_at "tz") (by walk_at "tz") (fun c hc => ?_)
        refine ite2 (fun h1 => ?_) (fun h1 => ?_)
        · have g := hc.mp h1
          repeat walk_at "w"
          rw [show (a.need : Int) + 1 = (((Exp.two o a b).need : Nat) : Int) by simp only [Exp.need]; rw [if_pos (by omega)]; omega]
          exact q
        · have g : ¬ ((a.need : Int) = b.need ∧ (0 : Int) < a.need) := fun z => h1 (hc.mpr z)
          repeat walk_at "w"
          rw [show max (max (1 : Int) (a.need : Nat)) (b.need : Nat) = (((Exp.two o a b).need : Nat) : Int) by simp only [Exp.need]; rw [if_neg (by omega)]; omega]
          exact q
end
/-! ### what the sets rest on, by their needs -/
def pos (es : List Exp) (b : Int) : List (Exp × Int) := (offs es b).filter fun p => decide (0 < p.1.need)
theorem offs_app : ∀ (es fs : List Exp) (b : Int), offs (es ++ fs) b = offs es b ++ offs fs (b + cnts es)
  | [], fs, b => by simp [offs, cnts]
  | e :: es, fs, b => by
    rw [List.cons_append, offs, offs_app es, offs, cnts, List.cons_append]
    congr 3; omega
theorem pos_app (es fs : List Exp) (b : Int) : pos (es ++ fs) b = pos es b ++ pos fs (b + cnts es) := by unfold pos; rw [offs_app, List.filter_append]
theorem cnts_app : ∀ (es fs : List Exp), cnts (es ++ fs) = cnts es + cnts fs
  | [], fs => by simp [cnts]
  | e :: es, fs => by rw [List.cons_append, cnts, cnts_app es, cnts]; omega
def entI (p : (Exp × Int) × Nat) : List Int := [0 - (p.1.1.need : Nat), (p.2 : Nat), p.1.2 + p.1.1.cnt - 1]
def TupH (H : Hp) (x : V) (ns : List Int) : Prop := ∃ t, x = .ref t ∧ H t = some (.tup (ns.map V.int))
/-- the entries found so far -/
structure Ent (H : Hp) (f : Addr) (L : List (Exp × Int)) (Z : List (V × ((Exp × Int) × Nat))) : Prop where
  at_ : H f = some (.lst (Z.map Prod.fst))
  what : Z.map Prod.snd = L.zipIdx
  tup : ∀ z ∈ Z, TupH H z.1 (entI z.2)
theorem Ent.sm {H H' : Hp} {f : Addr} {L : List (Exp × Int)} {Z : List (V × ((Exp × Int) × Nat))} (h : Ent H f L Z) (e : Same H H') : Ent H' f L Z := ⟨e _ _ h.at_, h.what, fun z hz => by
  obtain ⟨t, a, b⟩ := h.tup z hz
  exact ⟨t, a, e _ _ b⟩⟩
theorem Ent.snoc {H H' : Hp} {f t : Addr} {L : List (Exp × Int)} {Z : List (V × ((Exp × Int) × Nat))} {p : Exp × Int} (h : Ent H f L Z) (ht : H t = some (.tup ((entI (p, L.length)).map V.int))) (e : But f H H') (g : H' f = some (.lst (Z.map Prod.fst ++ [.ref t]))) :
    Ent H' f (L ++ [p]) (Z ++ [(.ref t, (p, L.length))]) := by
  have ne : ∀ t' xs, H t' = some (.tup xs) → t' ≠ f := fun t' xs q z => by rw [z, h.at_] at q; cases q
  refine ⟨by rw [List.map_append]; exact g, by rw [List.map_append, h.what, List.zipIdx_append]; simp, fun z hz => ?_⟩
  rcases List.mem_append.mp hz with q | q
  · obtain ⟨t', a, b⟩ := h.tup z q
    exact ⟨t', a, e _ _ (ne _ _ b) b⟩
  · rw [List.mem_singleton.mp q]
    exact ⟨t, rfl, e _ _ (ne _ _ ht) ht⟩
theorem Ent.len {H : Hp} {f : Addr} {L : List (Exp × Int)} {Z : List (V × ((Exp × Int) × Nat))} (h : Ent H f L Z) : (Z.map Prod.fst).length = L.length := by
  have := congrArg List.length h.what
  rw [List.length_map, List.length_zipIdx] at this
  rw [List.length_map, this]
theorem perm_map_inv {α β : Type} {f : α → β} {ys zs : List β} (h : ys.Perm zs) : ∀ Z : List α, Z.map f = zs → ∃ Z' : List α, Z'.Perm Z ∧ Z'.map f = ys := by
  induction h with
  | nil => intro Z e; exact ⟨Z, List.Perm.refl _, e⟩
  | cons x p ih =>
    intro Z e
    cases Z with
    | nil => cases e
    | cons z Z =>
      rw [List.map_cons] at e
      obtain ⟨e1, e2⟩ := List.cons.inj e
      obtain ⟨Z', a, b⟩ := ih Z e2
      exact ⟨z :: Z', a.cons z, by rw [List.map_cons, b, e1]⟩
  | swap x y l =>
    intro Z e
    match Z, e with
    | z1 :: z2 :: Z, e =>
      simp only [List.map_cons] at e
      obtain ⟨e1, e2⟩ := List.cons.inj e
      obtain ⟨e3, e4⟩ := List.cons.inj e2
      exact ⟨z2 :: z1 :: Z, List.Perm.swap _ _ _, by simp only [List.map_cons]; rw [e1, e3, e4]⟩
  | trans p q ih1 ih2 =>
    intro Z e
    obtain ⟨Z1, a, b⟩ := ih2 Z e
    obtain ⟨Z2, c, d⟩ := ih1 Z1 b
    exact ⟨Z2, c.trans a, d⟩
theorem parts_at : ∀ (es : List Exp) (ps : List PyData) {j : Nat} {e : Exp}, es[j]? = some e → (parts es ps).1[j]? = some (e.part (parts (es.take j) ps).2).1
  | [], _, _, _, h => by simp at h
  | x :: es, ps, 0, e, h => by cases Option.some.inj h; rfl
  | x :: es, ps, j + 1, e, h => by
    have := parts_at es (x.part ps).2 (j := j) (by simpa using h)
    simpa [parts] using this
theorem proots_at : ∀ (ss : List SetE) (ps : List PyData) {j : Nat} {s : SetE}, ss[j]? = some s → (proots ss ps).1[j]? = some (.tuple (parts s.rests (proots (ss.take j) ps).2).1)
  | [], _, _, _, h => by simp at h
  | x :: ss, ps, 0, s, h => by cases Option.some.inj h; rfl
  | x :: ss, ps, j + 1, s, h => by
    have := proots_at ss (parts x.rests ps).2 (j := j) (by simpa using h)
    simpa [proots] using this
def spFall (K : PySem.W.Frag) : Sp := fun vs H Q _ => ∃ v ss, vs = [v] ∧ Dp K H v (setsD ss) ∧ ss.length ≤ 4 ∧ (∀ x ∈ ss, OkS 4 x) ∧
  ∀ q H' (Z : List (V × ((Exp × Int) × Nat))), H' q = some (.lst (Z.map Prod.fst)) → (Z.map Prod.snd).Perm (pos (restsL ss) 0).zipIdx → Z.Pairwise (fun a b => lexI (entI b.2) (entI a.2) = false) → (∀ z ∈ Z, TupH H' z.1 (entI z.2)) → Same H H' → H q = none → Q (.ref q) H'
theorem len_falling {K : PySem.W.Frag} {vs H Q E} (h : spFall K vs H Q E) : vs.length = 1 := by obtain ⟨_, _, rfl, _⟩ := h; rfl
def intV : V → Int
  | .int n => n
  | _ => 0
def kOf (H : Hp) (x : V) : List Int := match x with
  | .ref t => match H t with
    | some (.tup vs) => vs.map intV
    | _ => []
  | _ => []
theorem kOf_tup {H : Hp} {x : V} {ns : List Int} (h : TupH H x ns) : kOf H x = ns := by
  obtain ⟨t, rfl, ht⟩ := h
  unfold kOf
  simp only [ht, List.map_map]
  have : (intV ∘ V.int) = id := by funext n; rfl
  rw [this, List.map_id]
theorem pos_one (e : Exp) (b : Int) : pos [e] b = if 0 < e.need then [(e, b)] else [] := by
  unfold pos offs offs
  by_cases h : 0 < e.need
  · rw [if_pos h, List.filter_cons, if_pos (by simpa using h)]; rfl
  · rw [if_neg h, List.filter_cons, if_neg (by simpa using h)]; rfl
theorem restsL_snoc {ss : List SetE} {i : Nat} {s : SetE} (h : ss[i]? = some s) : restsL (ss.take (i + 1)) = restsL (ss.take i) ++ s.rests := by
  unfold restsL
  rw [take_snoc h, List.flatMap_append]
  simp
section
variable {P : Program} {w : World} {K : PySem.W.Frag} {mg : Str → Option Value}
theorem ok_falling [c : Facts K mg] (G_needs_of : Fn P w K mg "needs_of" 5 ["e"] ((spNeed K 4))) (G_rests_of : Fn P w K mg "rests_of" 1 ["one"] ((spRests K))) (G_roots_of : Fn P w K mg "roots_of" 7 ["sets"] ((spRof K))) : Fn P w K mg "falling" 8 ["sets"] ((spFall K)) := by
  obtain ⟨fd, F⟩ := c.d_falling
  refine Fn.mk' F c.g_falling sc_falling (k := 7) (fun vs H Q E h => ?_) (fun _ _ _ _ _ _ us hl => match us, hl with | [_], _ => rfl) (fun base cdv A outer s H vs Q E hr h => ?_)
  · exact len_falling h
  · have nd := sc_falling.nd
    have hu := hu_of hr
    have hr_needs_of : Room 5 _ := hr.mono (by omega)
    have hr_rests_of : Room 1 _ := hr.mono (by omega)
    have hr_roots_of : Room 7 _ := hr.mono (by omega)
    refine ⟨_, (pss_cons (ps_set (i := 1) nd rfl (Or.inl rfl) (pe_fn G_roots_of hr_roots_of (by rfl) (pa_cons (pv 0) pa_nil)))
      (pss_cons (ps_set (i := 2) nd rfl (Or.inl rfl) (pe_lst pa_nil))
      (pss_cons (ps_for PassesOwn.never rfl (pi_zipM (K := K) true false rfl (by rfl) c.f_zip (pa_cons (pv 0) (pa_cons (pv 1) pa_nil))) (pg_seq 2 (K := K) rfl rfl (pgs_cons (pg_name (i := 3) nd rfl (Or.inl rfl)) (pgs_cons (pg_name (i := 4) nd rfl (Or.inl rfl)) pgs_nil))) (pss_one (ps_for PassesOwn.never rfl (pi_zipM (K := K) false true rfl (by rfl) c.f_zip (pa_cons (pe_fn G_rests_of hr_rests_of (by rfl) (pa_cons (pv 3) pa_nil)) (pa_cons (pv 4) pa_nil))) (pg_seq 2 (K := K) rfl rfl (pgs_cons (pg_name (i := 5) nd rfl (Or.inl rfl)) (pgs_cons (pg_name (i := 6) nd rfl (Or.inl rfl)) pgs_nil))) (pss_one (ps_if (pt_cmpR op_gt (pe_fn G_needs_of hr_needs_of (by rfl) (pa_cons (pv 5) pa_nil)) pe_int (nomark _)) (pss_one (ps_expr (pe_bm PySem.F.plainAttrs_list PySem.F.slot_list_append PySem.F.type_list_append mt_append (pv 2) (pa_cons (pe_tup (pa_cons (pe_op op_sub pe_int (pe_fn G_needs_of hr_needs_of (by rfl) (pa_cons (pv 5) pa_nil))) (pa_cons (pe_callB (call_lenA (K := K) rfl) (by rfl) c.f_len boot_len (pa_cons (pv 2) pa_nil)) (pa_cons (pv 6) pa_nil)))) pa_nil)))) pss_nil)))))
      (pss_one (ps_ret (pe_callB (call_sortedL (K := K) rfl) (by rfl) c.f_sorted boot_sorted (pa_cons (pv 2) pa_nil))))))), ?_⟩
    try dsimp only [cxOf, Cx.nox, Cx.wish]
    obtain ⟨v, ss, rfl, hv, hl, ho, q⟩ := h
    obtain ⟨a, xs, rfl, ha, hxs⟩ := set_d hv
    have hxl : xs.length = ss.length := by rw [dpa_len hxs, List.length_map]
    repeat walk_at "w"
    refine ⟨.ref a, ss, rfl, hv, hl, ho, fun r H1 hR nr s1 => ?_⟩
    repeat walk_at "w"
    refine w_new fun f H2 nf s2 f2 => ?_
    repeat walk_at "w"
    obtain ⟨ys, hy, hyd, hyr⟩ := id hR
    have hyl : ys.length = ss.length := by rw [hR.len hy, (proots_len ss [] ho).2]
    have nr2 : r ≠ f := fun z => by rw [z, nf] at hy; cases hy
    refine fl_zipM (xs := xs) (ys := ys) (fun i σ H' => ∃ Z o3 o4 o5 o6, σ = [some (.ref a), some (.ref r), some (.ref f), o3, o4, o5, o6] ∧ Same H1 H' ∧ Ent H' f (pos (restsL (ss.take i)) 0) Z) ((s1.trans s2).sqT ha) (SqL.of (s2 _ _ hy))
      ⟨[], _, _, _, _, rfl, s2, ⟨f2, rfl, fun z hz => (List.not_mem_nil hz).elim⟩⟩ (fun i σ H' hi hp => ?_) (fun i x y T σ H' H3 hx hy' hp nT s3 hT => ?_) (fun σ H' hp => ?_)
    · obtain ⟨Z, _, _, _, _, _, e, _⟩ := hp
      exact ⟨(s1.trans e).sqT ha, SqL.of (e _ _ hy)⟩
    · obtain ⟨Z, o3, o4, o5, o6, rfl, e, hE⟩ := hp
      have hi' : i < ss.length := by have := (List.getElem?_eq_some_iff.mp hx).1; omega
      obtain ⟨s, hs⟩ : ∃ s, ss[i]? = some s := ⟨_, List.getElem?_eq_getElem hi'⟩
      have os := ho s (List.mem_of_getElem? hs)
      have e3 : Same H1 H3 := e.trans s3
      have hxd : Dp K H3 x s.d := by
        obtain ⟨d, hd1, hd2⟩ := dpa_at' (dpAll_ts (TS.of (s1.trans e3)) _ _ (setsD_tup ss) hxs) hx
        rw [List.getElem?_map, hs] at hd1
        cases Option.some.inj hd1
        exact hd2
      have hyd2 : Dp K H3 y (.tuple (J.parts s.rests (proots (ss.take i) []).2).1) := by
        obtain ⟨d, hd1, hd2⟩ := dpa_at' (dpAll_ts (TS.of e3) _ _ (rows_all hyr).1 hyd) hy'
        rw [proots_at ss [] hs] at hd1
        cases Option.some.inj hd1
        exact hd2
      obtain ⟨ry, vs, rfl, hry, hvs⟩ := dp_tup hyd2
      repeat walk_at "w"
      refine ⟨x, s, rfl, hxd, fun p us H4 hp4 hus s4 n4 => ?_⟩
      have e4 := e3.trans s4
      have hul : us.length = s.rests.length := by rw [dpa_len hus, List.length_map]
      have hE4 := (hE.sm s3).sm s4
      have npf : p ≠ f := fun z => by rw [z, (hE.sm s3).at_] at n4; cases n4
      have hvl : vs.length = s.rests.length := by
        rw [dpa_len hvs]
        have : ∀ (es : List Exp) (ps : List PyData), (J.parts es ps).1.length = es.length := by
          intro es
          induction es with
          | nil => intro ps; rfl
          | cons e es ih => intro ps; rw [J.parts, List.length_cons, List.length_cons, ih]
        exact this _ _
      have pg : Rows (proots (ss.take i) []).2 := (proots_ok (ss.take i) (fun z hz => ho z (List.mem_of_mem_take hz)) rows_nil).2
      have ii := parts_ok s.rests (ps := (proots (ss.take i) []).2) (fun y hy => (okS_rests os y hy).2) pg
      have rl : s.rests.length ≤ 2 := by cases s <;> simp [SetE.rests]
      repeat walk_at "w"
      refine fl_zipM (xs := us) (ys := vs) (fun j σ H' => ∃ Z o5 o6, σ = [some (.ref a), some (.ref r), some (.ref f), some x, some (.ref ry), o5, o6] ∧ But f H4 H' ∧ Ent H' f (pos (restsL (ss.take i)) 0 ++ pos (s.rests.take j) (cnts (restsL (ss.take i)) : Nat)) Z) (SqL.of hp4) (s4.sqT hry)
        ⟨Z, _, _, rfl, But.refl _ _, by rw [List.take_zero, show pos [] ((cnts (restsL (ss.take i)) : Nat) : Int) = [] from rfl, List.append_nil]; exact hE4⟩ (fun j σ H' hj hp => ?_) (fun j ve vn T2 σ H' H5 hve hvn hp nT2 s5 hT2 => ?_) (fun σ H' hp => ?_)
      · obtain ⟨Z, _, _, _, b, _⟩ := hp
        have t4 : TS H4 H' := TS.butL b hE4.at_
        exact ⟨SqL.of (b _ _ npf hp4), t4.sqT (s4.sqT hry)⟩
      · obtain ⟨Z, o5, o6, rfl, b, hE'⟩ := hp
        have hj' : j < s.rests.length := by have := (List.getElem?_eq_some_iff.mp hve).1; omega
        obtain ⟨e, he⟩ : ∃ e, s.rests[j]? = some e := ⟨_, List.getElem?_eq_getElem hj'⟩
        have oe := okS_rests os e (List.mem_of_getElem? he)
        have t4 : TS H4 H' := TS.butL b hE4.at_
        have t5 : TS H4 H5 := t4.trans (TS.of s5)
        have hve5 : Dp K H5 ve e.d := by
          obtain ⟨d, hd1, hd2⟩ := dpa_at' (dpAll_ts t5 _ _ (exps_tup _) hus) hve
          rw [List.getElem?_map, he] at hd1
          cases Option.some.inj hd1
          exact hd2
        have hvn5 : Dp K H5 vn (e.part (J.parts (s.rests.take j) (proots (ss.take i) []).2).2).1 := by
          obtain ⟨d, hd1, hd2⟩ := dpa_at' (dpAll_ts ((TS.of s4).trans t5) _ _ (items_all ii.1).1 hvs) hvn
          rw [parts_at s.rests _ he] at hd1
          cases Option.some.inj hd1
          exact hd2
        have hE5 := hE'.sm s5
        repeat walk_at "w"
        refine ⟨ve, e, rfl, hve5, oe, ?_⟩
        repeat walk_at "w"
        refine ite2 (fun h1 => ?_) (fun h1 => ?_)
        · have h1' : 0 < e.need := by rw [decide_eq_true_eq] at h1; omega
          have hc := (need_cnt e).mp h1'
          rw [part_rt hc, parts_len, proots_cnt] at hvn5
          cases dp_int hvn5
          have z5 := hE5.len
          have fz := hE5.at_
          have z6 : (pos (restsL (ss.take i)) 0 ++ pos (s.rests.take j) (cnts (restsL (ss.take i)) : Nat)).length ≤ 1000 := by
            have : ∀ (es : List Exp) (b : Int), (pos es b).length ≤ es.length := fun es b => by
              unfold pos
              refine Nat.le_trans (List.length_filter_le _ _) ?_
              induction es generalizing b with
              | nil => exact Nat.le_refl _
              | cons e es ih => rw [offs, List.length_cons, List.length_cons]; have := ih (b + e.cnt); omega
            have a1 := this (restsL (ss.take i)) 0
            have a2 := this (s.rests.take j) (cnts (restsL (ss.take i)) : Nat)
            have a3 : (restsL (ss.take i)).length ≤ 2 * (ss.take i).length := by
              unfold restsL
              generalize ss.take i = l
              induction l with
              | nil => exact Nat.le_refl _
              | cons z l ih =>
                rw [List.flatMap_cons, List.length_append, List.length_cons]
                have : z.rests.length ≤ 2 := by cases z <;> simp [SetE.rests]
                omega
            rw [List.length_take] at a3
            have a4 : (s.rests.take j).length ≤ 2 := by rw [List.length_take]; omega
            rw [List.length_append]; omega
          repeat walk_at "w"
          refine ⟨ve, e, rfl, hve5, oe, ?_⟩
          repeat walk_at "w"
          rw [z5]
          refine w_new fun t H6 n6 s6 f6 => ?_
          repeat walk_at "w"
          refine w_append (s6 _ _ fz) (by rw [sizeLine_eq]; omega) ?_
          refine w_chg fun H7 e7 f7 => ?_
          repeat walk_at "w"
          refine ⟨Z ++ [(V.ref t, ((e, ((cnts (restsL (ss.take i)) : Nat) : Int) + (cnts (s.rests.take j) : Nat)), (pos (restsL (ss.take i)) 0 ++ pos (s.rests.take j) (cnts (restsL (ss.take i)) : Nat)).length))], _, _, rfl, (b.trans (But.of (s5.trans s6))).trans e7, ?_⟩
          rw [take_snoc he, pos_app, pos_one, if_pos h1', ← List.append_assoc]
          refine Ent.snoc (hE5.sm s6) ?_ e7 f7
          rw [f6]
          unfold entI
          simp only [List.map_cons, List.map_nil]
          congr 4
        · have h1' : ¬ 0 < e.need := by rw [decide_eq_true_eq] at h1; omega
          repeat walk_at "w"
          refine ⟨Z, _, _, rfl, b.trans (But.of s5), ?_⟩
          rw [take_snoc he, pos_app, pos_one, if_neg h1', List.append_nil]
          exact hE5
      · obtain ⟨Z, o5, o6, rfl, b, hE'⟩ := hp
        refine ⟨Z, _, _, _, _, rfl, But.new e4 nf b, ?_⟩
        rw [restsL_snoc hs, pos_app, Int.zero_add]
        rw [hul, hvl, Nat.min_self, List.take_length] at hE'
        exact hE'
    · obtain ⟨Z, o3, o4, o5, o6, rfl, e, hE⟩ := hp
      rw [hxl, hyl, Nat.min_self, List.take_length] at hE
      repeat walk_at "w"
      refine ⟨f, Z.map Prod.fst, kOf H', 3, rfl, SqL.of hE.at_, by decide, fun x hx => ?_, fun zs hp hw => ?_⟩
      · obtain ⟨z, hz, rfl⟩ := List.mem_map.mp hx
        have := hE.tup z hz
        rw [kOf_tup this]
        obtain ⟨t, e1, e2⟩ := this
        exact ⟨⟨t, e1, SqT.of e2⟩, rfl⟩
      · refine w_new fun g H5 n5 s5 f5 => ?_
        obtain ⟨Z', hZ, rfl⟩ := perm_map_inv hp Z rfl
        refine q g H5 Z' f5 ?_ ?_ (fun z hz => ?_) (s1.trans (e.trans s5)) (s1.free (e.free n5))
        · rw [← hE.what]; exact hZ.map _
        · rw [List.pairwise_map] at hw
          refine hw.imp_of_mem fun {x y} hx hy hh => ?_
          rw [kOf_tup (hE.tup x (hZ.mem_iff.mp hx)), kOf_tup (hE.tup y (hZ.mem_iff.mp hy))] at hh
          exact hh
        · obtain ⟨t, a1, a2⟩ := hE.tup z (hZ.mem_iff.mp hz)
          exact ⟨t, a1, s5 _ _ a2⟩
end

end J
namespace J
open PySem PySem.Spec PyProof.Rows L2
local macro_rules | `(tactic| walk_at "cls") => `(tactic| first
  | with_reducible exact Facts.cl_Parts)
local macro_rules | `(tactic| walk_at "na") => `(tactic| first
  | with_reducible exact Facts.na_Parts_rows)
local macro_rules | `(tactic| walk_at "ty") => `(tactic| first
  | with_reducible exact ty_int
  | with_reducible exact ty_bl
  | with_reducible exact ty_str
  | with_reducible exact ty_non
  | ((with_reducible refine' ty_lst ?vv); (case vv => walk_at "tr"))
  | ((with_reducible refine' ty_sqT ?vv); (case vv => walk_at "tr"))
  | ((with_reducible refine' ty_dic ?vv); (case vv => walk_at "tr")))
local macro_rules | `(tactic| walk_at "ix") => `(tactic| first | exact at0 | exact at1 | exact at2 | assumption)
local macro_rules | `(tactic| walk_at "size") => `(tactic| first
  | assumption
  | (show _ < sizeLine; rw [sizeLine_eq]; (try simp only [List.length_cons, List.length_nil, List.length_append, List.length_map]); omega)
  | (show _ ≤ sizeLine; rw [sizeLine_eq]; (try simp only [List.length_cons, List.length_nil, List.length_append, List.length_map]); omega))
local macro_rules | `(tactic| walk_at "side") => `(tactic| first
  | assumption
  | ((with_reducible refine cdw ?_ ?_) <;> omega)
  | omega
  | (exact ⟨by omega, by omega⟩)
  | (exact Or.inl ⟨by omega, by omega⟩)
  | (exact Or.inr ⟨by omega, by omega⟩)
  | decide
  | (simp only [List.length_cons, List.length_nil, List.length_append, List.length_map]; omega)
  | (show _ ≤ _; decide))
local macro_rules | `(tactic| walk_at "as") => `(tactic| with_reducible assumption)
local macro_rules | `(tactic| walk_at "tr") => `(tactic| first
  | with_reducible assumption
  | with_reducible exact upd_same
  | ((with_reducible refine' SqL.of ?hh); (case hh => walk_at "as"))
  | ((with_reducible refine' SqT.of ?hh); (case hh => walk_at "as"))
  | ((with_reducible refine' Same.stm ?ee ?gg); (case ee => walk_at "as"); (case gg => walk_at "tr"))
  | ((with_reducible refine' Same.sqT ?ee ?gg); (case ee => walk_at "as"); (case gg => walk_at "tr"))
  | ((with_reducible refine' Same.sqL ?ee ?gg); (case ee => walk_at "as"); (case gg => walk_at "tr"))
  | ((with_reducible refine' Same.at ?ee ?gg); (case ee => walk_at "as"); (case gg => walk_at "tr"))
  | ((with_reducible refine' But.stm ?ee ?ff ?gg); (case ee => walk_at "as"); (case ff => walk_at "ne"); (case gg => walk_at "tr"))
  | ((with_reducible refine' But.tup ?ee ?ff ?gg); (case ee => walk_at "as"); (case ff => walk_at "tr1"); (case gg => walk_at "tr"))
  | ((with_reducible refine' But.sqT ?ee ?ff ?gg); (case ee => walk_at "as"); (case ff => walk_at "tr1"); (case gg => walk_at "tr"))
  | ((with_reducible refine' But.tupL ?ee ?ff ?gg); (case ee => walk_at "as"); (case ff => walk_at "tr1"); (case gg => walk_at "tr"))
  | ((with_reducible refine' But.sqTL ?ee ?ff ?gg); (case ee => walk_at "as"); (case ff => walk_at "tr1"); (case gg => walk_at "tr"))
  | ((with_reducible refine' But.sqL ?ee ?ff ?gg); (case ee => walk_at "as"); (case ff => walk_at "ne"); (case gg => walk_at "tr"))
  | ((with_reducible refine' But.at ?ee ?ff ?gg); (case ee => walk_at "as"); (case ff => walk_at "ne"); (case gg => walk_at "tr")))
local macro_rules | `(tactic| walk_at "ts") => `(tactic| first
  | with_reducible assumption
  | with_reducible exact TS.refl _
  | ((with_reducible refine' TS.trans ?gg (TS.of ?ee)); (case ee => walk_at "as"); (case gg => walk_at "ts"))
  | ((with_reducible refine' TS.trans ?gg (TS.butS ?ee ?ff)); (case ee => walk_at "as"); (case ff => walk_at "tr1"); (case gg => walk_at "ts"))
  | ((with_reducible refine' TS.trans ?gg (TS.butL ?ee ?ff)); (case ee => walk_at "as"); (case ff => walk_at "tr1"); (case gg => walk_at "ts"))
  | ((with_reducible refine' TS.trans ?gg (TS.butI ?ee ?ff)); (case ee => walk_at "as"); (case ff => walk_at "tr1"); (case gg => walk_at "ts")))
local macro_rules | `(tactic| walk_at "sm") => `(tactic| first
  | with_reducible assumption
  | with_reducible exact Same.refl _
  | ((with_reducible refine' Same.trans ?gg ?ee); (case ee => walk_at "as"); (case gg => walk_at "sm"))
  | ((with_reducible refine' But.new ?gg ?nn ?ee); (case ee => walk_at "as"); (case nn => walk_at "fr"); (case gg => walk_at "sm")))
local macro_rules | `(tactic| walk_at "fr") => `(tactic| first
  | with_reducible assumption
  | ((with_reducible refine' Same.back ?ee ?nn); (case nn => walk_at "as"); (case ee => walk_at "sm"))
  | ((with_reducible refine' But.back ?ee ?ff ?nn); (case nn => walk_at "as"); (case ff => walk_at "ne0"); (case ee => walk_at "bu")))
local macro_rules | `(tactic| walk_at "bu") => `(tactic| first
  | with_reducible assumption
  | with_reducible exact But.refl _ _
  | ((with_reducible refine' But.trans ?gg ?ee); (case ee => walk_at "as"); (case gg => walk_at "bu"))
  | ((with_reducible refine' But.trans ?gg (But.of ?ee)); (case ee => walk_at "as"); (case gg => walk_at "bu"))
  | ((with_reducible refine' But.new2 ?gg ?nn ?ee); (case ee => walk_at "as"); (case nn => walk_at "frB"); (case gg => walk_at "bu")))
local macro_rules | `(tactic| walk_at "frB") => `(tactic| first
  | with_reducible assumption
  | ((with_reducible refine' Same.back ?ee ?nn); (case nn => walk_at "as"); (case ee => walk_at "sm"))
  | ((with_reducible refine' But.back' ?ee ?ff ?nn); (case nn => walk_at "as"); (case ee => walk_at "bu"); (case ff => walk_at "tr1")))
local macro_rules | `(tactic| walk_at "tr1") => `(tactic| first
  | with_reducible assumption
  | ((with_reducible refine' Same.stm ?ee ?gg); (case ee => walk_at "as"); (case gg => walk_at "tr1"))
  | ((with_reducible refine' Same.at ?ee ?gg); (case ee => walk_at "as"); (case gg => walk_at "tr1"))
  | ((with_reducible refine' But.at ?ee ?ff ?gg); (case ee => walk_at "as"); (case ff => walk_at "ne0"); (case gg => walk_at "tr1"))
  | ((with_reducible refine' But.stm ?ee ?ff ?gg); (case ee => walk_at "as"); (case ff => walk_at "ne0"); (case gg => walk_at "tr1")))
local macro_rules | `(tactic| walk_at "ne0") => `(tactic| first
  | with_reducible assumption
  | (with_reducible apply Ne.symm; with_reducible assumption))
local macro_rules | `(tactic| walk_at "ne") => `(tactic| first
  | with_reducible assumption
  | (with_reducible apply Ne.symm; with_reducible assumption)
  | ((with_reducible refine' stm_ne ?hh ?nn); (case nn => walk_at "as"); (case hh => walk_at "tr1"))
  | ((with_reducible refine' ne_of_none ?hh ?nn); (case nn => walk_at "as"); (case hh => walk_at "tr1"))
  | ((with_reducible apply Ne.symm); (with_reducible refine' ne_of_none ?hh ?nn); (case nn => walk_at "as"); (case hh => walk_at "tr1")))
local macro_rules | `(tactic| walk_at "v") => `(tactic| first
  | with_reducible refine w_seq ?_
  | ((with_reducible refine' w_var ?vv ?_); (case vv => exact rfl))
  | with_reducible refine w_c ?_
  | with_reducible refine w_op ?_
  | with_reducible refine w_asg ?_
  | with_reducible refine w_gName ?_
  | with_reducible refine w_ret ?_
  | with_reducible refine w_ifS ?_
  | with_reducible refine w_drop ?_
  | with_reducible refine w_next ?_
  | with_reducible refine w_cons ?_
  | with_reducible refine w_nil ?_
  | with_reducible refine w_call ?_
  | with_reducible refine w_cb ?_
  | with_reducible refine w_rI0 ?_
  | with_reducible refine w_addI ?_
  | with_reducible refine w_eqI ?_
  | with_reducible refine w_neI ?_
  | with_reducible refine w_eqS ?_
  | with_reducible refine w_neS ?_
  | with_reducible refine w_eqB ?_
  | with_reducible refine w_neB ?_
  | with_reducible refine w_chain ?_
  | with_reducible refine w_test ?_
  | with_reducible refine w_tB ?_
  | with_reducible refine w_bl ?_
  | ((with_reducible refine' w_mulI ?vv ?_); (case vv => walk_at "side"))
  | ((with_reducible refine' w_rI ?vv ?_); (case vv => walk_at "side"))
  | with_reducible refine w_int1 ?_
  | with_reducible refine w_int1b ?_
  | with_reducible refine w_tup ?_
  | with_reducible refine w_lst ?_
  | with_reducible refine w_un ?_
  | with_reducible refine w_rU ?_
  | with_reducible refine w_not ?_
  | with_reducible refine w_notV ?_
  | with_reducible refine w_ifE ?_
  | with_reducible refine w_nT ?_
  | with_reducible refine w_nF ?_
  | with_reducible refine iteT ?_
  | with_reducible refine iteF ?_
  | ((with_reducible refine' w_ixT ?vv ?ww ?_); (case vv => walk_at "tr"); (case ww => walk_at "ix"))
  | ((with_reducible refine' w_ixL ?vv ?ww ?_); (case vv => walk_at "tr"); (case ww => walk_at "ix"))
  | with_reducible refine w_gSub ?_
  | ((with_reducible refine' w_setL ?vv ?ww ?_); (case vv => walk_at "tr"); (case ww => first | rfl | decide | assumption))
  | ((with_reducible refine' w_lenL ?vv ?_); (case vv => walk_at "tr"))
  | ((with_reducible refine' w_lenT ?vv ?_); (case vv => walk_at "tr"))
  | with_reducible refine w_max2 ?_
  | with_reducible refine w_max3 ?_
  | with_reducible refine w_din ?_
  | with_reducible refine w_dnotin ?_
  | with_reducible refine w_dput ?_
  | with_reducible refine w_min2 ?_
  | with_reducible refine w_bm ?_
  | with_reducible refine w_bm0 ?_
  | ((with_reducible refine' w_tyL ?vv ?_); (case vv => walk_at "tr"))
  | ((with_reducible refine' w_append ?vv ?ww ?_); (case vv => walk_at "tr"); (case ww => walk_at "size"))
  | ((with_reducible refine' w_size ?vv ?_); (case vv => walk_at "size"))
  | with_reducible refine w_forL ?_
  | with_reducible refine w_forT ?_
  | with_reducible refine w_forR1 ?_
  | with_reducible refine w_forR2 ?_
  | with_reducible refine w_lcL ?_
  | with_reducible refine w_lcT ?_
  | with_reducible refine w_lcR1 ?_
  | with_reducible refine w_yes ?_
  | with_reducible refine w_sl ?_
  | with_reducible refine w_noPart ?_
  | with_reducible refine w_part ?_
  | with_reducible refine w_int ?_
  | ((with_reducible refine' w_slL ?vv ?_); (case vv => walk_at "tr"))
  | ((with_reducible refine' w_seqL ?vv ?ww ?_); (case vv => walk_at "tr"); (case ww => rfl))
  | ((with_reducible refine' w_seqT ?vv ?ww ?_); (case vv => walk_at "tr"); (case ww => rfl))
  | with_reducible refine w_gNil ?_
  | with_reducible refine w_gCons ?_
  | with_reducible refine w_forZ ?_
  | with_reducible refine w_forM ?_
  | with_reducible refine w_forE ?_
  | with_reducible refine w_forV ?_
  | with_reducible refine w_lcZ ?_
  | with_reducible refine w_lcE ?_
  | ((with_reducible refine' w_isi (b := true) ?vv ?ww ?_); (case vv => walk_at "ty"); (case ww => decide +kernel))
  | ((with_reducible refine' w_isi (b := false) ?vv ?ww ?_); (case vv => walk_at "ty"); (case ww => decide +kernel))
  | with_reducible refine w_revL ?_
  | with_reducible refine w_pairN ?_
  | with_reducible refine w_pairC ?_
  | with_reducible refine w_dget ?_
  | with_reducible refine w_met ?_
  | ((with_reducible refine' w_metAt ?vv ?ww ?_); (case vv => walk_at "tr"); (case ww => rfl))
  | with_reducible refine w_mkI ?_
  | with_reducible refine w_fld ?_
  | ((with_reducible refine' w_fldAt ?vv ?cc ?nn ?ww ?_); (case vv => walk_at "tr"); (case cc => walk_at "cls"); (case nn => walk_at "na"); (case ww => rfl))
  | with_reducible refine w_sfld ?_
  | ((with_reducible refine' w_sfldAt ?vv ?cc ?nn ?ll ?ee ?_); (case vv => walk_at "tr"); (case cc => walk_at "cls"); (case nn => walk_at "na"); (case ll => simp); (case ee => rfl))
  | ((with_reducible refine' w_tupL ?vv ?_); (case vv => walk_at "tr"))
  | ((with_reducible refine' w_tupT ?vv ?_); (case vv => walk_at "tr"))
  | ((with_reducible refine' w_listL ?vv ?_); (case vv => walk_at "tr"))
  | ((with_reducible refine' w_listT ?vv ?_); (case vv => walk_at "tr"))
  | with_reducible refine w_tyS ?_
  | with_reducible refine w_retN ?_
  | with_reducible refine w_break ?_
  | with_reducible refine w_cont ?_)
local macro_rules | `(tactic| walk_at "w") => `(tactic| first
  | walk_at "v"
  | with_reducible refine w_or ?_
  | with_reducible refine w_and ?_
  | with_reducible refine w_andV ?_
  | with_reducible refine w_orV ?_)
local macro_rules | `(tactic| walk_at "wd") => `(tactic| first
  | walk_at "w"
  | ((with_reducible refine' w_decT ?vv ?_); (case vv => decide +kernel))
  | ((with_reducible refine' w_decF ?vv ?_); (case vv => decide +kernel)))
local macro_rules | `(tactic| walk_at "tz") => `(tactic| (intro S z; (repeat walk_at "w"); exact z))
local macro_rules | `(tactic| walk_at "wf") => `(tactic| first
  | walk_at "wd"
  | ((with_reducible refine' w_decF ?vv ?_); (case vv => with_reducible assumption)))
def needAt (L : List ((Exp × Int) × Nat)) (k : Nat) : Int := match L[k]? with
  | some p => ((p.1.1.need : Nat) : Int)
  | none => 0
def topN (L : List ((Exp × Int) × Nat)) : Nat → Int
  | 0 => 0
  | k + 1 => max (topN L k) ((k : Int) + needAt L k)
theorem topN_att (L : List ((Exp × Int) × Nat)) : ∀ k, k ≤ L.length → topN L k = 0 ∨ ∃ j p, j < k ∧ L[j]? = some p ∧ topN L k = (j : Int) + (p.1.1.need : Nat)
  | 0, _ => .inl rfl
  | k + 1, h => by
    have ih := topN_att L k (by omega)
    obtain ⟨p, hp⟩ : ∃ p, L[k]? = some p := ⟨_, List.getElem?_eq_getElem h⟩
    have e : needAt L k = (p.1.1.need : Nat) := by unfold needAt; rw [hp]
    rw [topN, e]
    by_cases z : topN L k ≤ (k : Int) + (p.1.1.need : Nat)
    · exact .inr ⟨k, p, by omega, hp, by omega⟩
    · rcases ih with g | ⟨j, p', h1, h2, h3⟩
      · omega
      · exact .inr ⟨j, p', by omega, h2, by omega⟩
theorem lex_need {a b : (Exp × Int) × Nat} (h : lexI (entI b) (entI a) = false) : b.1.1.need ≤ a.1.1.need := by
  unfold entI lexI at h
  by_cases z : (0 : Int) - (b.1.1.need : Nat) = 0 - (a.1.1.need : Nat)
  · omega
  · rw [if_neg z, decide_eq_false_iff_not] at h
    omega
theorem mem_of_mem_offs {es : List Exp} {b : Int} {p : Exp × Int} (h : p ∈ pos es b) : p ∈ offs es b ∧ 0 < p.1.need := by
  unfold pos at h
  have := List.mem_filter.mp h
  exact ⟨this.1, by simpa using this.2⟩
theorem apart_of {L : List (Exp × Int)} {p r : Exp × Int} (hp : L.Pairwise Apart) (h1 : p ∈ L) (h2 : r ∈ L) (ne : p ≠ r) : Apart p r := by
  induction L with
  | nil => exact (List.not_mem_nil h1).elim
  | cons q L ih =>
    obtain ⟨a, b⟩ := List.pairwise_cons.mp hp
    rcases List.mem_cons.mp h1 with e1 | h1
    · rcases List.mem_cons.mp h2 with e2 | h2
      · exact (ne (e1.trans e2.symm)).elim
      · rw [e1]; exact a _ h2
    · rcases List.mem_cons.mp h2 with e2 | h2
      · rw [e2]; exact (a _ h1).symm
      · exact ih b h1 h2
theorem low_top {ss : List SetE} {o : List Int} (hf : Full (ownF ss) (nOf ss) o) {L : List ((Exp × Int) × Nat)} (hL : L.Perm (pos (restsL ss) 0).zipIdx) (hw : L.Pairwise fun a b => lexI (entI b) (entI a) = false) :
    ∃ S, S <:+ o.reverse ∧ topN L L.length ≤ ((held (ownF ss) S).length : Int) := by
  rcases topN_att L L.length (Nat.le_refl _) with h | ⟨j, p, hj, hp, h⟩
  · exact ⟨[], List.nil_suffix, by rw [h]; omega⟩
  · have key := low_all (own := ownF ss) hf.val p.1.1.need
    have sub : ∀ q ∈ L, q.1 ∈ pos (restsL ss) 0 := fun q hq => by
      have := hL.mem_iff.mp hq
      exact List.fst_mem_of_mem_zipIdx (x := q) this
    have hm : 1 ≤ p.1.1.need := (mem_of_mem_offs (sub p (List.mem_of_getElem? hp))).2
    have ap : ((L.take (j + 1)).map Prod.fst).Pairwise Apart := by
      have h1 : (pos (restsL ss) 0).Pairwise Apart := offs_apart.sublist List.filter_sublist
      have h2 : (L.map Prod.fst).Perm (pos (restsL ss) 0) := by
        have := hL.map Prod.fst
        rw [List.zipIdx_map_fst] at this
        exact this
      have h3 : (L.map Prod.fst).Pairwise Apart := (h2.pairwise_iff (fun {x y} h => Apart.symm h)).mpr h1
      exact h3.sublist ((List.take_sublist _ _).map _)
    obtain ⟨S, s, l⟩ := key hm ((L.take (j + 1)).map Prod.fst) (by
      intro z
      have := congrArg List.length z
      rw [List.length_map, List.length_take, List.length_nil] at this
      omega) ap (fun q hq => by
      obtain ⟨t, ht, rfl⟩ := List.mem_map.mp hq
      have htL := List.mem_of_mem_take ht
      have hq0 := mem_of_mem_offs (sub t htL)
      have tr := ownF_tr ss _ hq0.1
      have ge := offs_ge hq0.1
      refine ⟨?_, tr, fun x hx => List.mem_reverse.mpr ((hf.mem x).mpr ?_), ?_⟩
      · -- those ahead need as many
        obtain ⟨i, hi, e⟩ := List.getElem_of_mem ht
        rw [List.length_take] at hi
        rw [List.getElem_take] at e
        by_cases z : i = j
        · subst z
          obtain ⟨_, e2⟩ := List.getElem?_eq_some_iff.mp hp
          rw [e2] at e; rw [e]; exact Nat.le_refl _
        · obtain ⟨h5, e2⟩ := List.getElem?_eq_some_iff.mp hp
          have := List.pairwise_iff_getElem.mp hw i j (by omega) h5 (by omega)
          rw [e, e2] at this
          exact lex_need this
      · unfold nOf
        omega
      · have cl : ∀ x ∈ o.reverse, inT t.1.2 t.1.1.cnt x = true → ∀ y ∈ ownF ss x, inT t.1.2 t.1.1.cnt y = true := fun x _ hT y hy => by
          have := inT_iff.mp hT
          have := own_sub t.1.1 t.1.2 tr x this.1 this.2 y hy
          exact inT_iff.mpr (by omega)
        refine ⟨cl, fun x hx hT y hy => ?_⟩
        have bx := (hf.mem x).mp (List.mem_reverse.mp hx)
        obtain ⟨r, hr, q1, q2⟩ := offs_in (es := restsL ss) (b := 0) bx.1 (by have := bx.2; unfold nOf at this; omega)
        have ne : t.1 ≠ r := fun z => by
          rw [← z] at q1 q2
          exact inT_no.mp hT ⟨q1, q2⟩
        have := own_sub r.1 r.2 (ownF_tr ss r hr) x q1 q2 y hy
        refine inT_no.mpr ?_
        rcases apart_of offs_apart hq0.1 hr ne with z | z <;> omega)
    refine ⟨S, s, ?_⟩
    rw [List.length_map, List.length_take] at l
    rw [h]
    omega
def spNeedS (K : PySem.W.Frag) : Sp := fun vs H Q _ => ∃ v ss, vs = [v] ∧ Dp K H v (setsD ss) ∧ ss.length ≤ 4 ∧ (∀ x ∈ ss, OkS 4 x) ∧
  ∀ (L : List ((Exp × Int) × Nat)) H', L.Perm (pos (restsL ss) 0).zipIdx → L.Pairwise (fun a b => lexI (entI b) (entI a) = false) → Same H H' → Q (.int (topN L L.length)) H'
theorem len_needs_of_sets {K : PySem.W.Frag} {vs H Q E} (h : spNeedS K vs H Q E) : vs.length = 1 := by obtain ⟨_, _, rfl, _⟩ := h; rfl
section
variable {P : Program} {w : World} {K : PySem.W.Frag} {mg : Str → Option Value}
theorem ok_needs_of_sets [c : Facts K mg] (G_falling : Fn P w K mg "falling" 8 ["sets"] ((spFall K))) : Fn P w K mg "needs_of_sets" 9 ["sets"] ((spNeedS K)) := by
  obtain ⟨fd, F⟩ := c.d_needs_of_sets
  refine Fn.mk' F c.g_needs_of_sets sc_needs_of_sets (k := 8) (fun vs H Q E h => ?_) (fun _ _ _ _ _ _ us hl => match us, hl with | [_], _ => rfl) (fun base cdv A outer s H vs Q E hr h => ?_)
  · exact len_needs_of_sets h
  · have nd := sc_needs_of_sets.nd
    have hu := hu_of hr
    have hr_falling : Room 8 _ := hr.mono (by omega)
    refine ⟨_, (pss_cons (ps_set (i := 1) nd rfl (Or.inl rfl) pe_int)
      (pss_cons (ps_for PassesOwn.never rfl (pi_enum (by rfl) c.f_enumerate (pa_cons (pe_fn G_falling hr_falling (by rfl) (pa_cons (pv 0) pa_nil)) pa_nil)) (pg_seq 2 (K := K) rfl rfl (pgs_cons (pg_name (i := 2) nd rfl (Or.inl rfl)) (pgs_cons (pg_seq 3 (K := K) rfl rfl (pgs_cons (pg_name (i := 3) nd rfl (Or.inl rfl)) (pgs_cons (pg_name (i := 4) nd rfl (Or.inl rfl)) (pgs_cons (pg_name (i := 5) nd rfl (Or.inl rfl)) pgs_nil)))) pgs_nil))) (pss_one (ps_set (i := 1) nd rfl (Or.inl rfl) (pe_callB (call_max2A rfl) (by rfl) c.f_max boot_max (pa_cons (pv 1) (pa_cons (pe_op op_sub (pv 2) (pv 3)) pa_nil))))))
      (pss_one (ps_ret (pv 1))))), ?_⟩
    try dsimp only [cxOf, Cx.nox, Cx.wish]
    obtain ⟨v, ss, rfl, hv, hl, ho, q⟩ := h
    repeat walk_at "w"
    refine ⟨v, ss, rfl, hv, hl, ho, fun f H1 Z hf hZ hw ht s1 nf => ?_⟩
    repeat walk_at "w"
    have hat : ∀ {i : Nat} {x : V}, (Z.map Prod.fst)[i]? = some x → ∃ z, (Z.map Prod.snd)[i]? = some z ∧ TupH H1 x (entI z) := fun {i x} hx => by
      rw [List.getElem?_map] at hx
      obtain ⟨z, hz, rfl⟩ := Option.map_eq_some_iff.mp hx
      exact ⟨z.2, by rw [List.getElem?_map, hz]; rfl, ht z (List.mem_of_getElem? hz)⟩
    refine fl_enum (xs := Z.map Prod.fst) (fun i σ H' => ∃ o2 o3 o4 o5, σ = [some v, some (.int (topN (Z.map Prod.snd) i)), o2, o3, o4, o5] ∧ Same H1 H') (SqL.of hf) ⟨_, _, _, _, rfl, Same.refl _⟩ (fun i σ H' hi hp => ?_) (fun i x T σ H' H2 hx hp nT s2 hT => ?_) (fun σ H' hp => ?_)
    · obtain ⟨_, _, _, _, _, e⟩ := hp
      exact SqL.of (e _ _ hf)
    · obtain ⟨o2, o3, o4, o5, rfl, e⟩ := hp
      obtain ⟨z, hz, t, rfl, ht2⟩ := hat hx
      have ht3 := (e.trans s2) _ _ ht2
      repeat walk_at "w"
      rw [show List.map V.int (entI z) = [.int (0 - (z.1.1.need : Nat)), .int ((z.2 : Nat) : Int), .int (z.1.2 + z.1.1.cnt - 1)] from rfl]
      repeat walk_at "w"
      have en : needAt (Z.map Prod.snd) i = ((z.1.1.need : Nat) : Int) := by unfold needAt; rw [hz]
      have et : topN (Z.map Prod.snd) (i + 1) = max (topN (Z.map Prod.snd) i) (((i : Nat) : Int) - (0 - ((z.1.1.need : Nat) : Int))) := by
        rw [topN, en, show ((i : Nat) : Int) - (0 - ((z.1.1.need : Nat) : Int)) = (i : Int) + ((z.1.1.need : Nat) : Int) by omega]
      rw [et]
      exact ⟨_, _, _, _, rfl, e.trans s2⟩
    · obtain ⟨o2, o3, o4, o5, rfl, e⟩ := hp
      repeat walk_at "w"
      rw [List.length_map] at *
      have := q (Z.map Prod.snd) H' hZ (by rw [List.pairwise_map]; exact hw) (s1.trans e)
      rw [List.length_map] at this
      exact this
end

end J
namespace J
open PySem PySem.Spec PyProof.Rows L2
local macro_rules | `(tactic| walk_at "cls") => `(tactic| first
  | with_reducible exact Facts.cl_Parts)
local macro_rules | `(tactic| walk_at "na") => `(tactic| first
  | with_reducible exact Facts.na_Parts_rows)
local macro_rules | `(tactic| walk_at "ty") => `(tactic| first
  | with_reducible exact ty_int
  | with_reducible exact ty_bl
  | with_reducible exact ty_str
  | with_reducible exact ty_non
  | ((with_reducible refine' ty_lst ?vv); (case vv => walk_at "tr"))
  | ((with_reducible refine' ty_sqT ?vv); (case vv => walk_at "tr"))
  | ((with_reducible refine' ty_dic ?vv); (case vv => walk_at "tr")))
local macro_rules | `(tactic| walk_at "ix") => `(tactic| first | exact at0 | exact at1 | exact at2 | assumption)
local macro_rules | `(tactic| walk_at "size") => `(tactic| first
  | assumption
  | (show _ < sizeLine; rw [sizeLine_eq]; (try simp only [List.length_cons, List.length_nil, List.length_append, List.length_map]); omega)
  | (show _ ≤ sizeLine; rw [sizeLine_eq]; (try simp only [List.length_cons, List.length_nil, List.length_append, List.length_map]); omega))
local macro_rules | `(tactic| walk_at "side") => `(tactic| first
  | assumption
  | ((with_reducible refine cdw ?_ ?_) <;> omega)
  | omega
  | (exact ⟨by omega, by omega⟩)
  | (exact Or.inl ⟨by omega, by omega⟩)
  | (exact Or.inr ⟨by omega, by omega⟩)
  | decide
  | (simp only [List.length_cons, List.length_nil, List.length_append, List.length_map]; omega)
  | (show _ ≤ _; decide))
local macro_rules | `(tactic| walk_at "as") => `(tactic| with_reducible assumption)
local macro_rules | `(tactic| walk_at "tr") => `(tactic| first
  | with_reducible assumption
  | with_reducible exact upd_same
  | ((with_reducible refine' SqL.of ?hh); (case hh => walk_at "as"))
  | ((with_reducible refine' SqT.of ?hh); (case hh => walk_at "as"))
  | ((with_reducible refine' Same.stm ?ee ?gg); (case ee => walk_at "as"); (case gg => walk_at "tr"))
  | ((with_reducible refine' Same.sqT ?ee ?gg); (case ee => walk_at "as"); (case gg => walk_at "tr"))
  | ((with_reducible refine' Same.sqL ?ee ?gg); (case ee => walk_at "as"); (case gg => walk_at "tr"))
  | ((with_reducible refine' Same.at ?ee ?gg); (case ee => walk_at "as"); (case gg => walk_at "tr"))
  | ((with_reducible refine' But.stm ?ee ?ff ?gg); (case ee => walk_at "as"); (case ff => walk_at "ne"); (case gg => walk_at "tr"))
  | ((with_reducible refine' But.tup ?ee ?ff ?gg); (case ee => walk_at "as"); (case ff => walk_at "tr1"); (case gg => walk_at "tr"))
  | ((with_reducible refine' But.sqT ?ee ?ff ?gg); (case ee => walk_at "as"); (case ff => walk_at "tr1"); (case gg => walk_at "tr"))
  | ((with_reducible refine' But.tupL ?ee ?ff ?gg); (case ee => walk_at "as"); (case ff => walk_at "tr1"); (case gg => walk_at "tr"))
  | ((with_reducible refine' But.sqTL ?ee ?ff ?gg); (case ee => walk_at "as"); (case ff => walk_at "tr1"); (case gg => walk_at "tr"))
  | ((with_reducible refine' But.sqL ?ee ?ff ?gg); (case ee => walk_at "as"); (case ff => walk_at "ne"); (case gg => walk_at "tr"))
  | ((with_reducible refine' But.at ?ee ?ff ?gg); (case ee => walk_at "as"); (case ff => walk_at "ne"); (case gg => walk_at "tr")))
local macro_rules | `(tactic| walk_at "ts") => `(tactic| first
  | with_reducible assumption
  | with_reducible exact TS.refl _
  | ((with_reducible refine' TS.trans ?gg (TS.of ?ee)); (case ee => walk_at "as"); (case gg => walk_at "ts"))
  | ((with_reducible refine' TS.trans ?gg (TS.butS ?ee ?ff)); (case ee => walk_at "as"); (case ff => walk_at "tr1"); (case gg => walk_at "ts"))
  | ((with_reducible refine' TS.trans ?gg (TS.butL ?ee ?ff)); (case ee => walk_at "as"); (case ff => walk_at "tr1"); (case gg => walk_at "ts"))
  | ((with_reducible refine' TS.trans ?gg (TS.butI ?ee ?ff)); (case ee => walk_at "as"); (case ff => walk_at "tr1"); (case gg => walk_at "ts")))
local macro_rules | `(tactic| walk_at "sm") => `(tactic| first
  | with_reducible assumption
  | with_reducible exact Same.refl _
  | ((with_reducible refine' Same.trans ?gg ?ee); (case ee => walk_at "as"); (case gg => walk_at "sm"))
  | ((with_reducible refine' But.new ?gg ?nn ?ee); (case ee => walk_at "as"); (case nn => walk_at "fr"); (case gg => walk_at "sm")))
local macro_rules | `(tactic| walk_at "fr") => `(tactic| first
  | with_reducible assumption
  | ((with_reducible refine' Same.back ?ee ?nn); (case nn => walk_at "as"); (case ee => walk_at "sm"))
  | ((with_reducible refine' But.back ?ee ?ff ?nn); (case nn => walk_at "as"); (case ff => walk_at "ne0"); (case ee => walk_at "bu")))
local macro_rules | `(tactic| walk_at "bu") => `(tactic| first
  | with_reducible assumption
  | with_reducible exact But.refl _ _
  | ((with_reducible refine' But.trans ?gg ?ee); (case ee => walk_at "as"); (case gg => walk_at "bu"))
  | ((with_reducible refine' But.trans ?gg (But.of ?ee)); (case ee => walk_at "as"); (case gg => walk_at "bu"))
  | ((with_reducible refine' But.new2 ?gg ?nn ?ee); (case ee => walk_at "as"); (case nn => walk_at "frB"); (case gg => walk_at "bu")))
local macro_rules | `(tactic| walk_at "frB") => `(tactic| first
  | with_reducible assumption
  | ((with_reducible refine' Same.back ?ee ?nn); (case nn => walk_at "as"); (case ee => walk_at "sm"))
  | ((with_reducible refine' But.back' ?ee ?ff ?nn); (case nn => walk_at "as"); (case ee => walk_at "bu"); (case ff => walk_at "tr1")))
local macro_rules | `(tactic| walk_at "tr1") => `(tactic| first
  | with_reducible assumption
  | ((with_reducible refine' Same.stm ?ee ?gg); (case ee => walk_at "as"); (case gg => walk_at "tr1"))
  | ((with_reducible refine' Same.at ?ee ?gg); (case ee => walk_at "as"); (case gg => walk_at "tr1"))
  | ((with_reducible refine' But.at ?ee ?ff ?gg); (case ee => walk_at "as"); (case ff => walk_at "ne0"); (case gg => walk_at "tr1"))
  | ((with_reducible refine' But.stm ?ee ?ff ?gg); (case ee => walk_at "as"); (case ff => walk_at "ne0"); (case gg => walk_at "tr1")))
local macro_rules | `(tactic| walk_at "ne0") => `(tactic| first
  | with_reducible assumption
  | (with_reducible apply Ne.symm; with_reducible assumption))
local macro_rules | `(tactic| walk_at "ne") => `(tactic| first
  | with_reducible assumption
  | (with_reducible apply Ne.symm; with_reducible assumption)
  | ((with_reducible refine' stm_ne ?hh ?nn); (case nn => walk_at "as"); (case hh => walk_at "tr1"))
  | ((with_reducible refine' ne_of_none ?hh ?nn); (case nn => walk_at "as"); (case hh => walk_at "tr1"))
  | ((with_reducible apply Ne.symm); (with_reducible refine' ne_of_none ?hh ?nn); (case nn => walk_at "as"); (case hh => walk_at "tr1")))
local macro_rules | `(tactic| walk_at "v") => `(tactic| first
  | with_reducible refine w_seq ?_
  | ((with_reducible refine' w_var ?vv ?_); (case vv => exact rfl))
  | with_reducible refine w_c ?_
  | with_reducible refine w_op ?_
  | with_reducible refine w_asg ?_
  | with_reducible refine w_gName ?_
  | with_reducible refine w_ret ?_
  | with_reducible refine w_ifS ?_
  | with_reducible refine w_drop ?_
  | with_reducible refine w_next ?_
  | with_reducible refine w_cons ?_
  | with_reducible refine w_nil ?_
  | with_reducible refine w_call ?_
  | with_reducible refine w_cb ?_
  | with_reducible refine w_rI0 ?_
  | with_reducible refine w_addI ?_
  | with_reducible refine w_eqI ?_
  | with_reducible refine w_neI ?_
  | with_reducible refine w_eqS ?_
  | with_reducible refine w_neS ?_
  | with_reducible refine w_eqB ?_
  | with_reducible refine w_neB ?_
  | with_reducible refine w_chain ?_
  | with_reducible refine w_test ?_
  | with_reducible refine w_tB ?_
  | with_reducible refine w_bl ?_
  | ((with_reducible refine' w_mulI ?vv ?_); (case vv => walk_at "side"))
  | ((with_reducible refine' w_rI ?vv ?_); (case vv => walk_at "side"))
  | with_reducible refine w_int1 ?_
  | with_reducible refine w_int1b ?_
  | with_reducible refine w_tup ?_
  | with_reducible refine w_lst ?_
  | with_reducible refine w_un ?_
  | with_reducible refine w_rU ?_
  | with_reducible refine w_not ?_
  | with_reducible refine w_notV ?_
  | with_reducible refine w_ifE ?_
  | with_reducible refine w_nT ?_
  | with_reducible refine w_nF ?_
  | with_reducible refine iteT ?_
  | with_reducible refine iteF ?_
  | ((with_reducible refine' w_ixT ?vv ?ww ?_); (case vv => walk_at "tr"); (case ww => walk_at "ix"))
  | ((with_reducible refine' w_ixL ?vv ?ww ?_); (case vv => walk_at "tr"); (case ww => walk_at "ix"))
  | with_reducible refine w_gSub ?_
  | ((with_reducible refine' w_setL ?vv ?ww ?_); (case vv => walk_at "tr"); (case ww => first | rfl | decide | assumption))
  | ((with_reducible refine' w_lenL ?vv ?_); (case vv => walk_at "tr"))
  | ((with_reducible refine' w_lenT ?vv ?_); (case vv => walk_at "tr"))
  | with_reducible refine w_max2 ?_
  | with_reducible refine w_max3 ?_
  | with_reducible refine w_din ?_
  | with_reducible refine w_dnotin ?_
  | with_reducible refine w_dput ?_
  | with_reducible refine w_min2 ?_
  | with_reducible refine w_bm ?_
  | with_reducible refine w_bm0 ?_
  | ((with_reducible refine' w_tyL ?vv ?_); (case vv => walk_at "tr"))
  | ((with_reducible refine' w_append ?vv ?ww ?_); (case vv => walk_at "tr"); (case ww => walk_at "size"))
  | ((with_reducible refine' w_size ?vv ?_); (case vv => walk_at "size"))
  | with_reducible refine w_forL ?_
  | with_reducible refine w_forT ?_
  | with_reducible refine w_forR1 ?_
  | with_reducible refine w_forR2 ?_
  | with_reducible refine w_lcL ?_
  | with_reducible refine w_lcT ?_
  | with_reducible refine w_lcR1 ?_
  | with_reducible refine w_yes ?_
  | with_reducible refine w_sl ?_
  | with_reducible refine w_noPart ?_
  | with_reducible refine w_part ?_
  | with_reducible refine w_int ?_
  | ((with_reducible refine' w_slL ?vv ?_); (case vv => walk_at "tr"))
  | ((with_reducible refine' w_seqL ?vv ?ww ?_); (case vv => walk_at "tr"); (case ww => rfl))
  | ((with_reducible refine' w_seqT ?vv ?ww ?_); (case vv => walk_at "tr"); (case ww => rfl))
  | with_reducible refine w_gNil ?_
  | with_reducible refine w_gCons ?_
  | with_reducible refine w_forZ ?_
  | with_reducible refine w_forM ?_
  | with_reducible refine w_forE ?_
  | with_reducible refine w_forV ?_
  | with_reducible refine w_lcZ ?_
  | with_reducible refine w_lcE ?_
  | ((with_reducible refine' w_isi (b := true) ?vv ?ww ?_); (case vv => walk_at "ty"); (case ww => decide +kernel))
  | ((with_reducible refine' w_isi (b := false) ?vv ?ww ?_); (case vv => walk_at "ty"); (case ww => decide +kernel))
  | with_reducible refine w_revL ?_
  | with_reducible refine w_pairN ?_
  | with_reducible refine w_pairC ?_
  | with_reducible refine w_dget ?_
  | with_reducible refine w_met ?_
  | ((with_reducible refine' w_metAt ?vv ?ww ?_); (case vv => walk_at "tr"); (case ww => rfl))
  | with_reducible refine w_mkI ?_
  | with_reducible refine w_fld ?_
  | ((with_reducible refine' w_fldAt ?vv ?cc ?nn ?ww ?_); (case vv => walk_at "tr"); (case cc => walk_at "cls"); (case nn => walk_at "na"); (case ww => rfl))
  | with_reducible refine w_sfld ?_
  | ((with_reducible refine' w_sfldAt ?vv ?cc ?nn ?ll ?ee ?_); (case vv => walk_at "tr"); (case cc => walk_at "cls"); (case nn => walk_at "na"); (case ll => simp); (case ee => rfl))
  | ((with_reducible refine' w_tupL ?vv ?_); (case vv => walk_at "tr"))
  | ((with_reducible refine' w_tupT ?vv ?_); (case vv => walk_at "tr"))
  | ((with_reducible refine' w_listL ?vv ?_); (case vv => walk_at "tr"))
  | ((with_reducible refine' w_listT ?vv ?_); (case vv => walk_at "tr"))
  | with_reducible refine w_tyS ?_
  | with_reducible refine w_retN ?_
  | with_reducible refine w_break ?_
  | with_reducible refine w_cont ?_)
local macro_rules | `(tactic| walk_at "w") => `(tactic| first
  | walk_at "v"
  | with_reducible refine w_or ?_
  | with_reducible refine w_and ?_
  | with_reducible refine w_andV ?_
  | with_reducible refine w_orV ?_)
local macro_rules | `(tactic| walk_at "wd") => `(tactic| first
  | walk_at "w"
  | ((with_reducible refine' w_decT ?vv ?_); (case vv => decide +kernel))
  | ((with_reducible refine' w_decF ?vv ?_); (case vv => decide +kernel)))
local macro_rules | `(tactic| walk_at "tz") => `(tactic| (intro S z; (repeat walk_at "w"); exact z))
local macro_rules | `(tactic| walk_at "wf") => `(tactic| first
  | walk_at "wd"
  | ((with_reducible refine' w_decF ?vv ?_); (case vv => with_reducible assumption)))
theorem pi_listA {X : Cx} {K : PySem.W.Frag} {tg l : Expr} {tl : TE} (hK : X.K = K) (hl : PE X l tl) : PI X tg l (iList K tl) := by subst hK; exact pi_list hl
theorem pi_tupA {X : Cx} {K : PySem.W.Frag} {tg l : Expr} {tl : TE} (hK : X.K = K) (hl : PE X l tl) : PI X tg l (iTup K tl) := by subst hK; exact pi_tup hl
section
variable {K : PySem.W.Frag} {σ : L2.St} {H : Hp} {Q : VK} {nx : L2.St → Hp → Prop} {rt : VK} {bk ct : L2.St → Hp → Prop} {tt : TT} {t : L2.TS}
theorem w_while2 (Pv : Nat → L2.St → Hp → Prop) (m : Nat) (h0 : Pv m σ H) (hs : ∀ m σ H, Pv m σ H → tt σ H fun b H1 => if b = true then ∃ N : L2.St → Hp → Prop, (∀ σ' H', N σ' H' → ∃ m', m' < m ∧ Pv m' σ' H') ∧ t ⟨N, rt, nx, N⟩ σ H1 else nx σ H1) :
    tWhile tt t ⟨nx, rt, bk, ct⟩ σ H := ⟨Pv, ⟨m, h0⟩, hs⟩
theorem w_whB2 {m : Nat} {Pv : Nat → L2.St → Hp → Prop} (k : t ⟨fun σ' H' => ∃ m', m' < m ∧ Pv m' σ' H', rt, nx, fun σ' H' => ∃ m', m' < m ∧ Pv m' σ' H'⟩ σ H) : ∃ N : L2.St → Hp → Prop, (∀ σ' H', N σ' H' → ∃ m', m' < m ∧ Pv m' σ' H') ∧ t ⟨N, rt, nx, N⟩ σ H :=
  ⟨_, fun _ _ z => z, k⟩
theorem flat_ints (ns : List Int) : (ns.map V.int).all flatV = true := by
  rw [List.all_eq_true]
  intro x hx
  obtain ⟨_, _, rfl⟩ := List.mem_map.mp hx
  rfl
theorem in_ints (x : Int) (ns : List Int) : inV (.int x) (ns.map V.int) = decide (x ∈ ns) := by
  induction ns with
  | nil => rfl
  | cons n ns ih =>
    have e : inV (.int x) ((n :: ns).map V.int) = (eqV (.int n) (.int x) || inV (.int x) (ns.map V.int)) := rfl
    rw [e, ih]
    by_cases h : n = x
    · subst h; simp [eqV]
    · have : x ≠ n := fun z => h z.symm
      simp [eqV, h, this]
theorem w_inIL {p : Addr} {x : Int} {ns : List Int} (h : SqL K H p (ns.map V.int)) (k : Q (.bl (decide (x ∈ ns))) H) : rInA K false (.int x) (.ref p) H Q := w_inL h rfl (flat_ints ns) (by rw [in_ints]; exact k)
theorem w_niIL {p : Addr} {x : Int} {ns : List Int} (h : SqL K H p (ns.map V.int)) (k : Q (.bl (!decide (x ∈ ns))) H) : rInA K true (.int x) (.ref p) H Q := w_niL h rfl (flat_ints ns) (by rw [in_ints]; exact k)
end
/-- methods within comprehensions -/
theorem pe_bmA {X : Cx} {K : PySem.W.Frag} {T id : String} {name : Str} {r : V → List V → Hp → VK → Prop} {o e : Expr} {es : List Expr} {to : TE} {t : TA} {apos cpos : Pos} (hK : X.K = K) (pa : PlainAttrs T) (slot : Slot T name id) (hty : typeOf (.builtin id) = pure (.type "method_descriptor")) (hm : MtR X id r) (ho : PE X o to) (ha : PA X (e :: es) t)
    (hbase : attributeBase o name X.env (eval o X.env) = eval o X.env := by rfl)
    (hfew : ((backTo cpos (starEach (e :: es) X.env)).all (fun x => !x.1) && (backToKw cpos (keywordEach [] X.env)).all (fun x => x.1.isSome)
      && decide ((e :: es).length + ([] : List Keyword).length + (if ([] : List Keyword).isEmpty then 0 else 1) < 30)) = true := by rfl)
    (hline : (apos.endLine == cpos.line) = true := by rfl) (hs : starEach (e :: es) X.env = (false, eval e X.env) :: starEach es X.env := by rfl) (hplain : (backTo cpos (starEach es X.env)).any (·.1) = false := by rfl) :
    PE X (.Call (.Attribute o name apos) (e :: es) [] cpos) (tBM K T r to t) := by
  subst hK
  exact pe_bm pa slot hty hm ho ha hbase hfew hline hs hplain
theorem pe_bm0A {X : Cx} {K : PySem.W.Frag} {T id : String} {name : Str} {r : V → List V → Hp → VK → Prop} {o : Expr} {to : TE} {apos cpos : Pos} (hK : X.K = K) (pa : PlainAttrs T) (slot : Slot T name id) (hty : typeOf (.builtin id) = pure (.type "method_descriptor")) (hm : MtR X id r) (ho : PE X o to)
    (hbase : attributeBase o name X.env (eval o X.env) = eval o X.env := by rfl) (hline : (apos.endLine == cpos.line) = true := by rfl) : PE X (.Call (.Attribute o name apos) [] [] cpos) (tBM0 K T r to) := by
  subst hK
  exact pe_bm0 pa slot hty hm ho hbase hline

end J
namespace J
open PySem PySem.Spec PyProof.Rows L2
local macro_rules | `(tactic| walk_at "cls") => `(tactic| first
  | with_reducible exact Facts.cl_Parts)
local macro_rules | `(tactic| walk_at "na") => `(tactic| first
  | with_reducible exact Facts.na_Parts_rows)
local macro_rules | `(tactic| walk_at "ty") => `(tactic| first
  | with_reducible exact ty_int
  | with_reducible exact ty_bl
  | with_reducible exact ty_str
  | with_reducible exact ty_non
  | ((with_reducible refine' ty_lst ?vv); (case vv => walk_at "tr"))
  | ((with_reducible refine' ty_sqT ?vv); (case vv => walk_at "tr"))
  | ((with_reducible refine' ty_dic ?vv); (case vv => walk_at "tr")))
local macro_rules | `(tactic| walk_at "ix") => `(tactic| first | exact at0 | exact at1 | exact at2 | assumption)
local macro_rules | `(tactic| walk_at "size") => `(tactic| first
  | assumption
  | (show _ < sizeLine; rw [sizeLine_eq]; (try simp only [List.length_cons, List.length_nil, List.length_append, List.length_map]); omega)
  | (show _ ≤ sizeLine; rw [sizeLine_eq]; (try simp only [List.length_cons, List.length_nil, List.length_append, List.length_map]); omega))
local macro_rules | `(tactic| walk_at "side") => `(tactic| first
  | assumption
  | ((with_reducible refine cdw ?_ ?_) <;> omega)
  | omega
  | (exact ⟨by omega, by omega⟩)
  | (exact Or.inl ⟨by omega, by omega⟩)
  | (exact Or.inr ⟨by omega, by omega⟩)
  | decide
  | (simp only [List.length_cons, List.length_nil, List.length_append, List.length_map]; omega)
  | (show _ ≤ _; decide))
local macro_rules | `(tactic| walk_at "as") => `(tactic| with_reducible assumption)
local macro_rules | `(tactic| walk_at "tr") => `(tactic| first
  | with_reducible assumption
  | with_reducible exact upd_same
  | ((with_reducible refine' SqL.of ?hh); (case hh => walk_at "as"))
  | ((with_reducible refine' SqT.of ?hh); (case hh => walk_at "as"))
  | ((with_reducible refine' Same.stm ?ee ?gg); (case ee => walk_at "as"); (case gg => walk_at "tr"))
  | ((with_reducible refine' Same.sqT ?ee ?gg); (case ee => walk_at "as"); (case gg => walk_at "tr"))
  | ((with_reducible refine' Same.sqL ?ee ?gg); (case ee => walk_at "as"); (case gg => walk_at "tr"))
  | ((with_reducible refine' Same.at ?ee ?gg); (case ee => walk_at "as"); (case gg => walk_at "tr"))
  | ((with_reducible refine' But.stm ?ee ?ff ?gg); (case ee => walk_at "as"); (case ff => walk_at "ne"); (case gg => walk_at "tr"))
  | ((with_reducible refine' But.tup ?ee ?ff ?gg); (case ee => walk_at "as"); (case ff => walk_at "tr1"); (case gg => walk_at "tr"))
  | ((with_reducible refine' But.sqT ?ee ?ff ?gg); (case ee => walk_at "as"); (case ff => walk_at "tr1"); (case gg => walk_at "tr"))
  | ((with_reducible refine' But.tupL ?ee ?ff ?gg); (case ee => walk_at "as"); (case ff => walk_at "tr1"); (case gg => walk_at "tr"))
  | ((with_reducible refine' But.sqTL ?ee ?ff ?gg); (case ee => walk_at "as"); (case ff => walk_at "tr1"); (case gg => walk_at "tr"))
  | ((with_reducible refine' But.sqL ?ee ?ff ?gg); (case ee => walk_at "as"); (case ff => walk_at "ne"); (case gg => walk_at "tr"))
  | ((with_reducible refine' But.at ?ee ?ff ?gg); (case ee => walk_at "as"); (case ff => walk_at "ne"); (case gg => walk_at "tr")))
local macro_rules | `(tactic| walk_at "ts") => `(tactic| first
  | with_reducible assumption
  | with_reducible exact TS.refl _
  | ((with_reducible refine' TS.trans ?gg (TS.of ?ee)); (case ee => walk_at "as"); (case gg => walk_at "ts"))
  | ((with_reducible refine' TS.trans ?gg (TS.butS ?ee ?ff)); (case ee => walk_at "as"); (case ff => walk_at "tr1"); (case gg => walk_at "ts"))
  | ((with_reducible refine' TS.trans ?gg (TS.butL ?ee ?ff)); (case ee => walk_at "as"); (case ff => walk_at "tr1"); (case gg => walk_at "ts"))
  | ((with_reducible refine' TS.trans ?gg (TS.butI ?ee ?ff)); (case ee => walk_at "as"); (case ff => walk_at "tr1"); (case gg => walk_at "ts")))
local macro_rules | `(tactic| walk_at "sm") => `(tactic| first
  | with_reducible assumption
  | with_reducible exact Same.refl _
  | ((with_reducible refine' Same.trans ?gg ?ee); (case ee => walk_at "as"); (case gg => walk_at "sm"))
  | ((with_reducible refine' But.new ?gg ?nn ?ee); (case ee => walk_at "as"); (case nn => walk_at "fr"); (case gg => walk_at "sm")))
local macro_rules | `(tactic| walk_at "fr") => `(tactic| first
  | with_reducible assumption
  | ((with_reducible refine' Same.back ?ee ?nn); (case nn => walk_at "as"); (case ee => walk_at "sm"))
  | ((with_reducible refine' But.back ?ee ?ff ?nn); (case nn => walk_at "as"); (case ff => walk_at "ne0"); (case ee => walk_at "bu")))
local macro_rules | `(tactic| walk_at "bu") => `(tactic| first
  | with_reducible assumption
  | with_reducible exact But.refl _ _
  | ((with_reducible refine' But.trans ?gg ?ee); (case ee => walk_at "as"); (case gg => walk_at "bu"))
  | ((with_reducible refine' But.trans ?gg (But.of ?ee)); (case ee => walk_at "as"); (case gg => walk_at "bu"))
  | ((with_reducible refine' But.new2 ?gg ?nn ?ee); (case ee => walk_at "as"); (case nn => walk_at "frB"); (case gg => walk_at "bu")))
local macro_rules | `(tactic| walk_at "frB") => `(tactic| first
  | with_reducible assumption
  | ((with_reducible refine' Same.back ?ee ?nn); (case nn => walk_at "as"); (case ee => walk_at "sm"))
  | ((with_reducible refine' But.back' ?ee ?ff ?nn); (case nn => walk_at "as"); (case ee => walk_at "bu"); (case ff => walk_at "tr1")))
local macro_rules | `(tactic| walk_at "tr1") => `(tactic| first
  | with_reducible assumption
  | ((with_reducible refine' Same.stm ?ee ?gg); (case ee => walk_at "as"); (case gg => walk_at "tr1"))
  | ((with_reducible refine' Same.at ?ee ?gg); (case ee => walk_at "as"); (case gg => walk_at "tr1"))
  | ((with_reducible refine' But.at ?ee ?ff ?gg); (case ee => walk_at "as"); (case ff => walk_at "ne0"); (case gg => walk_at "tr1"))
  | ((with_reducible refine' But.stm ?ee ?ff ?gg); (case ee => walk_at "as"); (case ff => walk_at "ne0"); (case gg => walk_at "tr1")))
local macro_rules | `(tactic| walk_at "ne0") => `(tactic| first
  | with_reducible assumption
  | (with_reducible apply Ne.symm; with_reducible assumption))
local macro_rules | `(tactic| walk_at "ne") => `(tactic| first
  | with_reducible assumption
  | (with_reducible apply Ne.symm; with_reducible assumption)
  | ((with_reducible refine' stm_ne ?hh ?nn); (case nn => walk_at "as"); (case hh => walk_at "tr1"))
  | ((with_reducible refine' ne_of_none ?hh ?nn); (case nn => walk_at "as"); (case hh => walk_at "tr1"))
  | ((with_reducible apply Ne.symm); (with_reducible refine' ne_of_none ?hh ?nn); (case nn => walk_at "as"); (case hh => walk_at "tr1")))
local macro_rules | `(tactic| walk_at "v") => `(tactic| first
  | with_reducible refine w_seq ?_
  | ((with_reducible refine' w_var ?vv ?_); (case vv => exact rfl))
  | with_reducible refine w_c ?_
  | with_reducible refine w_op ?_
  | with_reducible refine w_asg ?_
  | with_reducible refine w_gName ?_
  | with_reducible refine w_ret ?_
  | with_reducible refine w_ifS ?_
  | with_reducible refine w_drop ?_
  | with_reducible refine w_next ?_
  | with_reducible refine w_cons ?_
  | with_reducible refine w_nil ?_
  | with_reducible refine w_call ?_
  | with_reducible refine w_cb ?_
  | with_reducible refine w_rI0 ?_
  | with_reducible refine w_addI ?_
  | with_reducible refine w_eqI ?_
  | with_reducible refine w_neI ?_
  | with_reducible refine w_eqS ?_
  | with_reducible refine w_neS ?_
  | with_reducible refine w_eqB ?_
  | with_reducible refine w_neB ?_
  | with_reducible refine w_chain ?_
  | with_reducible refine w_test ?_
  | with_reducible refine w_tB ?_
  | with_reducible refine w_bl ?_
  | ((with_reducible refine' w_mulI ?vv ?_); (case vv => walk_at "side"))
  | ((with_reducible refine' w_rI ?vv ?_); (case vv => walk_at "side"))
  | with_reducible refine w_int1 ?_
  | with_reducible refine w_int1b ?_
  | with_reducible refine w_tup ?_
  | with_reducible refine w_lst ?_
  | with_reducible refine w_un ?_
  | with_reducible refine w_rU ?_
  | with_reducible refine w_not ?_
  | with_reducible refine w_notV ?_
  | with_reducible refine w_ifE ?_
  | with_reducible refine w_nT ?_
  | with_reducible refine w_nF ?_
  | with_reducible refine iteT ?_
  | with_reducible refine iteF ?_
  | ((with_reducible refine' w_ixT ?vv ?ww ?_); (case vv => walk_at "tr"); (case ww => walk_at "ix"))
  | ((with_reducible refine' w_ixL ?vv ?ww ?_); (case vv => walk_at "tr"); (case ww => walk_at "ix"))
  | with_reducible refine w_gSub ?_
  | ((with_reducible refine' w_setL ?vv ?ww ?_); (case vv => walk_at "tr"); (case ww => first | rfl | decide | assumption))
  | ((with_reducible refine' w_lenL ?vv ?_); (case vv => walk_at "tr"))
  | ((with_reducible refine' w_lenT ?vv ?_); (case vv => walk_at "tr"))
  | with_reducible refine w_max2 ?_
  | with_reducible refine w_max3 ?_
  | with_reducible refine w_din ?_
  | with_reducible refine w_dnotin ?_
  | with_reducible refine w_dput ?_
  | with_reducible refine w_min2 ?_
  | with_reducible refine w_bm ?_
  | with_reducible refine w_bm0 ?_
  | ((with_reducible refine' w_tyL ?vv ?_); (case vv => walk_at "tr"))
  | ((with_reducible refine' w_append ?vv ?ww ?_); (case vv => walk_at "tr"); (case ww => walk_at "size"))
  | ((with_reducible refine' w_size ?vv ?_); (case vv => walk_at "size"))
  | with_reducible refine w_forL ?_
  | with_reducible refine w_forT ?_
  | with_reducible refine w_forR1 ?_
  | with_reducible refine w_forR2 ?_
  | with_reducible refine w_lcL ?_
  | with_reducible refine w_lcT ?_
  | with_reducible refine w_lcR1 ?_
  | with_reducible refine w_yes ?_
  | with_reducible refine w_sl ?_
  | with_reducible refine w_noPart ?_
  | with_reducible refine w_part ?_
  | with_reducible refine w_int ?_
  | ((with_reducible refine' w_slL ?vv ?_); (case vv => walk_at "tr"))
  | ((with_reducible refine' w_seqL ?vv ?ww ?_); (case vv => walk_at "tr"); (case ww => rfl))
  | ((with_reducible refine' w_seqT ?vv ?ww ?_); (case vv => walk_at "tr"); (case ww => rfl))
  | with_reducible refine w_gNil ?_
  | with_reducible refine w_gCons ?_
  | with_reducible refine w_forZ ?_
  | with_reducible refine w_forM ?_
  | with_reducible refine w_forE ?_
  | with_reducible refine w_forV ?_
  | with_reducible refine w_lcZ ?_
  | with_reducible refine w_lcE ?_
  | ((with_reducible refine' w_isi (b := true) ?vv ?ww ?_); (case vv => walk_at "ty"); (case ww => decide +kernel))
  | ((with_reducible refine' w_isi (b := false) ?vv ?ww ?_); (case vv => walk_at "ty"); (case ww => decide +kernel))
  | with_reducible refine w_revL ?_
  | with_reducible refine w_pairN ?_
  | with_reducible refine w_pairC ?_
  | with_reducible refine w_dget ?_
  | with_reducible refine w_met ?_
  | ((with_reducible refine' w_metAt ?vv ?ww ?_); (case vv => walk_at "tr"); (case ww => rfl))
  | with_reducible refine w_mkI ?_
  | with_reducible refine w_fld ?_
  | ((with_reducible refine' w_fldAt ?vv ?cc ?nn ?ww ?_); (case vv => walk_at "tr"); (case cc => walk_at "cls"); (case nn => walk_at "na"); (case ww => rfl))
  | with_reducible refine w_sfld ?_
  | ((with_reducible refine' w_sfldAt ?vv ?cc ?nn ?ll ?ee ?_); (case vv => walk_at "tr"); (case cc => walk_at "cls"); (case nn => walk_at "na"); (case ll => simp); (case ee => rfl))
  | ((with_reducible refine' w_tupL ?vv ?_); (case vv => walk_at "tr"))
  | ((with_reducible refine' w_tupT ?vv ?_); (case vv => walk_at "tr"))
  | ((with_reducible refine' w_listL ?vv ?_); (case vv => walk_at "tr"))
  | ((with_reducible refine' w_listT ?vv ?_); (case vv => walk_at "tr"))
  | with_reducible refine w_tyS ?_
  | with_reducible refine w_retN ?_
  | with_reducible refine w_break ?_
  | with_reducible refine w_cont ?_)
local macro_rules | `(tactic| walk_at "w") => `(tactic| first
  | walk_at "v"
  | with_reducible refine w_or ?_
  | with_reducible refine w_and ?_
  | with_reducible refine w_andV ?_
  | with_reducible refine w_orV ?_)
local macro_rules | `(tactic| walk_at "wd") => `(tactic| first
  | walk_at "w"
  | ((with_reducible refine' w_decT ?vv ?_); (case vv => decide +kernel))
  | ((with_reducible refine' w_decF ?vv ?_); (case vv => decide +kernel)))
local macro_rules | `(tactic| walk_at "tz") => `(tactic| (intro S z; (repeat walk_at "w"); exact z))
local macro_rules | `(tactic| walk_at "wf") => `(tactic| first
  | walk_at "wd"
  | ((with_reducible refine' w_decF ?vv ?_); (case vv => with_reducible assumption)))
/-! ### the law's orders -/
theorem exists_min : ∀ (l : List Int), l ≠ [] → ∃ x ∈ l, ∀ y ∈ l, x ≤ y
  | [], h => (h rfl).elim
  | [x], _ => ⟨x, List.mem_cons_self, fun y hy => by rw [List.mem_singleton.mp hy]; exact Int.le_refl _⟩
  | x :: y :: l, _ => by
    obtain ⟨z, hz, h⟩ := exists_min (y :: l) (List.cons_ne_nil _ _)
    by_cases c : x ≤ z
    · exact ⟨x, List.mem_cons_self, fun w hw => by
        rcases List.mem_cons.mp hw with rfl | hw
        · exact Int.le_refl _
        · have := h w hw; omega⟩
    · exact ⟨z, List.mem_cons_of_mem _ hz, fun w hw => by
        rcases List.mem_cons.mp hw with rfl | hw
        · omega
        · exact h w hw⟩
theorem mem_out : ∀ {l : List Int} {j : Nat} {x y : Int}, l.Nodup → l[j]? = some x → (y ∈ l.eraseIdx j ↔ y ∈ l ∧ y ≠ x)
  | [], _, _, _, _, h => by simp at h
  | a :: l, 0, x, y, n, h => by
    cases Option.some.inj h
    obtain ⟨n1, n2⟩ := List.nodup_cons.mp n
    rw [List.eraseIdx_cons_zero, List.mem_cons]
    constructor
    · intro g
      exact ⟨.inr g, fun z => n1 (by rw [← z]; exact g)⟩
    · rintro ⟨g | g, q⟩
      · exact (q g).elim
      · exact g
  | a :: l, j + 1, x, y, n, h => by
    obtain ⟨n1, n2⟩ := List.nodup_cons.mp n
    have h' : l[j]? = some x := by simpa using h
    have ih := mem_out (y := y) n2 h'
    have ax : a ≠ x := fun z => n1 (by rw [z]; exact List.mem_of_getElem? h')
    rw [List.eraseIdx_cons_succ, List.mem_cons, List.mem_cons, ih]
    constructor
    · rintro (g | ⟨g, q⟩)
      · exact ⟨.inl g, by rw [g]; exact ax⟩
      · exact ⟨.inr g, q⟩
    · rintro ⟨g | g, q⟩
      · exact .inl g
      · exact .inr ⟨g, q⟩
theorem nd_first {l : List Int} {j : Nat} {x : Int} (n : l.Nodup) (h : l[j]? = some x) : ∀ m, m < j → l[m]? ≠ some x := fun m hm z => by
  obtain ⟨h1, e1⟩ := List.getElem?_eq_some_iff.mp h
  obtain ⟨h2, e2⟩ := List.getElem?_eq_some_iff.mp z
  have := (List.getElem_inj (h₀ := h2) (h₁ := h1) n).mp (e2.trans e1.symm)
  omega
def spLOrder (K : PySem.W.Frag) : Sp := fun vs H Q _ => ∃ (s l : Addr) (ss : List SetE), vs = [.ref s, .ref l] ∧ Stm H s ∧ PK K H l ss ∧
  ∀ p o H', H' p = some (.lst (o.map V.int)) → Full (ownF ss) (nOf ss) o → Stm H' s → But s H H' → H p = none → Q (.ref p) H'
theorem len_law_order {K : PySem.W.Frag} {vs H Q E} (h : spLOrder K vs H Q E) : vs.length = 2 := by obtain ⟨_, _, _, rfl, _⟩ := h; rfl
theorem PK.ne {K : PySem.W.Frag} {H : Hp} {s l : Addr} {ss : List SetE} (h : PK K H l ss) (hs : Stm H s) : l ≠ s := fun z => by
  obtain ⟨xs, hx, hd, hr⟩ := h.pl
  obtain ⟨a, b, c, g⟩ := hs
  rw [z, g] at hx
  cases hx
  obtain ⟨v, r, e, h1, _⟩ : ∃ v r, [V.int a, .int b, .int c] = v :: r ∧ v = .int a ∧ True := ⟨_, _, rfl, rfl, trivial⟩
  cases hq : (proots ss []).2 with
  | nil => rw [hq] at hd; cases hd
  | cons d ds =>
    rw [hq] at hd
    obtain ⟨v, r, e, hv, _⟩ := dpa_cons hd
    obtain ⟨is, rfl, _⟩ := hr d (by rw [hq]; exact List.mem_cons_self)
    cases e
    obtain ⟨_, _, e, _⟩ := dp_tup hv
    cases e
theorem PK.bu {K : PySem.W.Frag} {H H' : Hp} {s l : Addr} {ss : List SetE} (h : PK K H l ss) (hs : Stm H s) (e : But s H H') : PK K H' l ss := ⟨h.pl.ts (TS.butS e hs) fun _ g => e _ _ (h.ne hs) g, h.ok, h.few⟩
section
variable {P : Program} {w : World} {K : PySem.W.Frag} {mg : Str → Option Value}
theorem ok_law_order [c : Facts K mg] (G__law_own : Fn P w K mg "_law_own" 1 ["part"] ((spOwnP K))) (G__law_take : Fn P w K mg "_law_take" 1 ["stream", "many"] (spTake)) : Fn P w K mg "_law_order" 2 ["stream", "parts"] ((spLOrder K)) := by
  obtain ⟨fd, F⟩ := c.d_law_order
  refine Fn.mk' F c.g_law_order sc_law_order (k := 1) (fun vs H Q E h => ?_) (fun _ _ _ _ _ _ us hl => match us, hl with | [_, _], _ => rfl) (fun base cdv A outer s H vs Q E hr h => ?_)
  · exact len_law_order h
  · have nd := sc_law_order.nd
    have hu := hu_of hr
    have hr__law_own : Room 1 _ := hr.mono (by omega)
    have hr__law_take : Room 1 _ := hr.mono (by omega)
    refine ⟨_, (pss_cons (ps_set (i := 2) nd rfl (Or.inr rfl) (pe_callTy (call_listRng rfl) (by rfl) c.f_list boot_list (pa_cons (pe_callTy call_rng1 (by rfl) c.f_range boot_range (pa_cons (pe_callB (call_lenA (K := K) rfl) (by rfl) c.f_len boot_len (pa_cons (pv 1) pa_nil)) pa_nil)) pa_nil)))
      (pss_cons (ps_set (i := 3) nd rfl (Or.inl rfl) (pe_lst pa_nil))
      (pss_cons (ps_while PassesOwn.never (pt_cmpR (op_neA (K := K) rfl hr.units) (pv 2) (pe_lst pa_nil) (nomark _)) (pss_cons (ps_setLc (i := 4) (own := [("one", 5)]) rfl nd rfl rfl (sw_true rfl rfl rfl (by decide +kernel)) (pi_list (pv 2)) (blkOk_by (N := N_law_order) (sc := defScope s_law_order) (by decide +kernel)) (fun _ _ _ _ _ => (pg_name (i := 5) nd rfl (Or.inl rfl))) (fun _ _ _ _ _ => pts_one (pt_cmpR (op_eqA (K := K) rfl hr.units) (pe_lc (own := [("own", 6)]) rfl nd (pi_listA (K := K) rfl (pe_fn G__law_own hr__law_own (by rfl) (pa_cons (pe_ix (ix_any (K := K) rfl) (pv 1) (pv 5) (fun _ _ => rfl)) pa_nil))) (blkOk_rel (N := N_law_order) (by decide +kernel)) (fun _ _ _ _ _ => (pg_name (i := 6) nd rfl (Or.inl rfl))) (fun _ _ _ _ _ => pts_one (pt_cmpR (op_inA (K := K) rfl) (pv 6) (pv 2) (by rfl))) (fun _ _ _ _ _ => (pv 6))) (pe_lst pa_nil) (nomark _))) (fun _ _ _ _ _ => (pv 5)))
      (pss_cons (ps_set (i := 5) nd rfl (Or.inl rfl) (pe_ix (ix_any (K := K) rfl) (pv 4) (pe_fn G__law_take hr__law_take (by rfl) (pa_cons (pv 0) (pa_cons (pe_callB (call_lenA (K := K) rfl) (by rfl) c.f_len boot_len (pa_cons (pv 4) pa_nil)) pa_nil))) (fun _ _ => rfl)))
      (pss_cons (ps_expr (pe_bm PySem.F.plainAttrs_list PySem.F.slot_list_remove PySem.F.type_list_remove mt_remove (pv 2) (pa_cons (pv 5) pa_nil)))
      (pss_one (ps_expr (pe_bm PySem.F.plainAttrs_list PySem.F.slot_list_append PySem.F.type_list_append mt_append (pv 3) (pa_cons (pv 5) pa_nil))))))))
      (pss_one (ps_ret (pv 3)))))), ?_⟩
    try dsimp only [cxOf, Cx.nox, Cx.wish]
    obtain ⟨s, l, ss, rfl, hs, hP, q⟩ := h
    obtain ⟨us, hus, hun, hul⟩ := hP.len
    have hz : sizeLine = 16777216 := sizeLine_eq
    repeat walk_at "w"
    refine w_rng1 ?_
    refine w_new fun pr H1 n1 s1 f1 => ?_
    repeat walk_at "w"
    refine w_listRng f1 (by omega) (by omega) ?_
    refine w_new fun pl H2 n2 s2 f2 => ?_
    repeat walk_at "w"
    refine w_new fun po H3 n3 s3 f3 => ?_
    repeat walk_at "w"
    have s03 : Same H H3 := s1.trans (s2.trans s3)
    have npl : H pl = none := s1.free n2
    have npo : H po = none := (s1.trans s2).free n3
    have nlo : pl ≠ po := ne_of_none f2 n3
    have hs3 := s03.stm hs
    have nps : pl ≠ s := stm_ne (s1.stm hs) n2
    have nos : po ≠ s := stm_ne ((s1.trans s2).stm hs) n3
    have e2 : (List.range us.length).map (fun i : Nat => V.int (i : Int)) = ((List.range us.length).map (fun i : Nat => (i : Int))).map V.int := by rw [List.map_map]; rfl
    rw [Int.toNat_natCast, e2] at f2
    refine w_while2 (fun m σ H' => ∃ (ls os : List Int) (o4 o5 o6 : Option V), m = ls.length ∧ σ = [some (.ref s), some (.ref l), some (.ref pl), some (.ref po), o4, o5, o6] ∧ H' pl = some (.lst (ls.map V.int)) ∧ H' po = some (.lst (os.map V.int)) ∧ ls.Nodup ∧
        (∀ x, (x ∈ ls ∨ x ∈ os) ↔ 0 ≤ x ∧ x < nOf ss) ∧ (∀ x ∈ ls, x ∉ os) ∧ Val (ownF ss) os.reverse ∧ ((os.length + ls.length : Nat) : Int) = nOf ss ∧ Stm H' s ∧ But s H H' ∧ PK K H' l ss) us.length
      ⟨_, [], _, _, _, by rw [List.length_map, List.length_range], rfl, s3 _ _ f2, f3, ?_, fun x => ?_, fun _ _ => List.not_mem_nil, trivial, by rw [List.length_map, List.length_range]; simpa using hun, hs3, But.of s03, hP.sm s03⟩ (fun m σ H4 hp => ?_)
    · exact List.pairwise_map.mpr (List.nodup_range.imp fun h z => h (by omega))
    · rw [List.mem_map]
      simp only [List.mem_range, List.not_mem_nil, or_false]
      constructor
      · rintro ⟨a, ha, rfl⟩; omega
      · rintro ⟨a, b⟩; exact ⟨x.toNat, by omega, by omega⟩
    · obtain ⟨ls, os, o4, o5, o6, rfl, rfl, hl, ho, nd, mem, dis, vo, len, hs4, b4, pk4⟩ := hp
      repeat walk_at "w"
      refine w_new fun pe H5 n5 s5 f5 => ?_
      refine w_neIL (ns := ls) (ms := []) (SqL.of (s5 _ _ hl)) (SqL.of f5) ?_
      repeat walk_at "w"
      refine ite2 (fun h1 => ?_) (fun h1 => ?_)
      · have hne : ls ≠ [] := by simpa using h1
        refine w_whB2 ?_
        repeat walk_at "w"
        have b5 := b4.trans (But.of s5)
        have hs5 := s5.stm hs4
        have pk5 := pk4.sm s5
        have hl5 := s5 _ _ hl
        have lsl : ls.length ≤ 120 := by have := nOf_le pk4.ok pk4.few; omega
        refine lc_L (ls.map V.int) (fun D i ys H' => Same H5 H' ∧ ys = ((ls.take i).filter (fun x => (ownF ss x).all fun y => !decide (y ∈ ls))).map V.int) (SqL.of hl5) (fun D H' hD e f => ⟨e, rfl⟩) (fun D hD i ys H' hi hy hp => SqL.of (hp.1 _ _ hl5)) (fun D hD i x ys H' hx hll hy hp => ?_) (fun D hD ys H' hll hy hp => ?_)
        · obtain ⟨e, rfl⟩ := hp
          rw [List.getElem?_map] at hx
          obtain ⟨x, hx', rfl⟩ := Option.map_eq_some_iff.mp hx
          replace hx := hx'
          have hxl := List.mem_of_getElem? hx
          have bx := (mem x).mp (.inl hxl)
          obtain ⟨xs2, v2, d2, hx2, ha2, hd2, hr2, ho2⟩ := (pk5.sm e).at bx.1 bx.2
          repeat walk_at "w"
          refine ⟨v2, d2, rfl, hd2, hr2, fun pw H6 fw s6 nw => ?_⟩
          rw [ho2] at fw
          have e6 := e.trans s6
          have hl6 := e6 _ _ hl5
          refine lc_L ((ownF ss x).map V.int) (fun D i ys H' => Same H6 H' ∧ ys = (((ownF ss x).take i).filter (fun y => decide (y ∈ ls))).map V.int) (SqL.of fw) (fun D H' hD e f => ⟨e, rfl⟩) (fun D hD i ys H' hi hy hp => SqL.of (hp.1 _ _ fw)) (fun D2 hD2 j y zs H' hy2 hlz hz2 hp => ?_) (fun D2 hD2 zs H' hlz hz2 hp => ?_)
          · obtain ⟨e7, rfl⟩ := hp
            rw [List.getElem?_map] at hy2
            obtain ⟨y, hy2', rfl⟩ := Option.map_eq_some_iff.mp hy2
            replace hy2 := hy2'
            repeat walk_at "w"
            refine w_inIL (SqL.of (e7 _ _ hl6)) ?_
            repeat walk_at "w"
            have hjl := (List.getElem?_eq_some_iff.mp hy2).1
            refine ite2 (fun h2 => ?_) (fun h2 => ?_)
            · repeat walk_at "w"
              refine lc_end hz2 hlz ?_ fun H8 e8 f8 => ⟨But.new e7 hD2 e8, ?_⟩
              · have : (ownF ss x).length ≤ 2 := by
                  rw [← ho2]
                  obtain ⟨s', items, rfl, _, _, _, l2, _⟩ := hr2
                  rw [PRow.own]
                  exact Nat.le_trans (List.length_filterMap_le _ _) l2
                rw [hz]; omega
              · rw [take_snoc hy2, List.filter_append, List.filter_cons, if_pos h2, List.map_append]; rfl
            · refine lc_skip hz2 hlz ⟨e7, ?_⟩
              rw [take_snoc hy2, List.filter_append, List.filter_cons, if_neg h2, List.filter_nil, List.append_nil]
          · obtain ⟨e7, rfl⟩ := hp
            rw [List.length_map, List.take_length] at hz2
            repeat walk_at "w"
            refine w_new fun p8 H8 n8 s8 f8 => ?_
            refine w_eqIL (ms := []) (SqL.of (s8 _ _ hz2)) (SqL.of f8) ?_
            repeat walk_at "w"
            have e9 : Same H5 H8 := e6.trans (e7.trans s8)
            have key : decide ((ownF ss x).filter (fun y => decide (y ∈ ls)) = []) = (ownF ss x).all fun y => !decide (y ∈ ls) := by
              rw [Bool.eq_iff_iff, decide_eq_true_eq, List.filter_eq_nil_iff, List.all_eq_true]
              simp
            rw [key]
            have hy8 : H8 D = some (.lst _) := (s6.trans (e7.trans s8)) _ _ hy
            refine ite2 (fun h2 => ?_) (fun h2 => ?_)
            · repeat walk_at "w"
              refine lc_end hy8 hll (by rw [hz]; have := (List.getElem?_eq_some_iff.mp hx).1; omega) fun H9 e10 f9 => ⟨But.new e9 hD e10, ?_⟩
              rw [take_snoc hx, List.filter_append, List.filter_cons, if_pos h2, List.map_append]; rfl
            · refine lc_skip hy8 hll ⟨e9, ?_⟩
              rw [take_snoc hx, List.filter_append, List.filter_cons, if_neg h2, List.filter_nil, List.append_nil]
        · obtain ⟨e, rfl⟩ := hp
          rw [List.length_map, List.take_length] at hy
          have own := ownF_ok ss
          obtain ⟨mn, hmn, hmin⟩ := exists_min ls hne
          have bm := (mem mn).mp (.inl hmn)
          have rne : mn ∈ ls.filter (fun x => (ownF ss x).all fun y => !decide (y ∈ ls)) := List.mem_filter.mpr ⟨hmn, by
            rw [List.all_eq_true]
            intro y hy
            have := own.lt mn bm.1 bm.2 y hy
            have : y ∉ ls := fun z => by have := hmin y z; omega
            simp [this]⟩
          have hpos := List.length_pos_of_mem rne
          have hle := List.length_filter_le (fun x => (ownF ss x).all fun y => !decide (y ∈ ls)) ls
          have nDs : D ≠ s := stm_ne hs5 hD
          repeat walk_at "w"
          rw [List.length_map]
          refine ⟨s, _, rfl, e.stm hs5, by omega, by omega, fun d H6 d0 d1 hs6 e6 => ?_⟩
          obtain ⟨v, g1, g2, g3⟩ := atI_some (xs := (ls.filter (fun x => (ownF ss x).all fun y => !decide (y ∈ ls))).map V.int) d0 (by rw [List.length_map]; exact d1)
          refine w_ixL (SqL.of (e6 _ _ nDs hy)) g1 ?_
          obtain ⟨x, hxr, rfl⟩ := List.mem_map.mp g2
          obtain ⟨hxl, hxo⟩ := List.mem_filter.mp hxr
          rw [List.all_eq_true] at hxo
          have bx := (mem x).mp (.inl hxl)
          obtain ⟨j, hj⟩ := List.getElem?_of_mem hxl
          have hjl := (List.getElem?_eq_some_iff.mp hj).1
          have hl6 : H6 pl = some (.lst (ls.map V.int)) := e6 _ _ nps (e _ _ hl5)
          have ho6 : H6 po = some (.lst (os.map V.int)) := e6 _ _ nos (e _ _ (s5 _ _ ho))
          have osl : os.length ≤ 120 := by have := nOf_le pk4.ok pk4.few; omega
          repeat walk_at "w"
          refine w_remove hl6 hj (nd_first nd hj) ?_
          refine w_chg fun H7 e7 f7 => ?_
          repeat walk_at "w"
          refine w_chg fun H8 e8 f8 => ?_
          repeat walk_at "w"
          have b6 : But s H H6 := b5.trans ((But.of e).trans e6)
          have b8 : But s H H8 := But.new2 (But.new2 b6 npl e7) npo e8
          refine ⟨_, by show (ls.eraseIdx j).length < ls.length; rw [List.length_eraseIdx_of_lt hjl]; omega, ls.eraseIdx j, os ++ [x], _, _, _, rfl, rfl, e8 _ _ nlo f7, ?_, nd.sublist (List.eraseIdx_sublist _ _), fun y => ?_, fun y hy hy' => ?_, ?_, ?_, ?_, b8, ?_⟩
          · rw [List.map_append]; exact f8
          · rw [mem_out nd hj, List.mem_append, List.mem_singleton, ← mem y]
            constructor
            · rintro (⟨g, _⟩ | g | g)
              · exact .inl g
              · exact .inr g
              · rw [g]; exact .inl hxl
            · rintro (g | g)
              · by_cases c : y = x
                · exact .inr (.inr c)
                · exact .inl ⟨g, c⟩
              · exact .inr (.inl g)
          · obtain ⟨g1, g2⟩ := (mem_out nd hj).mp hy
            rcases List.mem_append.mp hy' with g | g
            · exact dis y g1 g
            · exact g2 (List.mem_singleton.mp g)
          · rw [List.reverse_append]
            refine ⟨fun g => dis x hxl (List.mem_reverse.mp g), fun y hy => List.mem_reverse.mpr ?_, vo⟩
            have by' := own.lt x bx.1 bx.2 y hy
            rcases (mem y).mpr (by omega) with g | g
            · have := hxo y hy
              simp [g] at this
            · exact g
          · rw [List.length_append, List.length_eraseIdx_of_lt hjl, List.length_singleton]; omega
          · exact e8.stm nos.symm (e7.stm nps.symm hs6)
          · exact hP.bu hs b8
      · have hls : ls = [] := by simpa using h1
        subst hls
        repeat walk_at "w"
        refine q po os H5 (s5 _ _ ho) ⟨vo, fun x => by rw [← mem x]; simp, by simpa using len⟩ (s5.stm hs4) (b4.trans (But.of s5)) npo
end
def spLHeld (K : PySem.W.Frag) : Sp := fun vs H Q _ => ∃ (l p : Addr) (ss : List SetE) (o : List Int), vs = [.ref l, .ref p] ∧ PK K H l ss ∧ H p = some (.lst (o.map V.int)) ∧ Full (ownF ss) (nOf ss) o ∧
  ∀ q H', H' q = some (.lst ((heldL (ownF ss) o).map V.int)) → Same H H' → H q = none → Q (.ref q) H'
theorem len_law_held {K : PySem.W.Frag} {vs H Q E} (h : spLHeld K vs H Q E) : vs.length = 2 := by obtain ⟨_, _, _, _, rfl, _⟩ := h; rfl
section
variable {P : Program} {w : World} {K : PySem.W.Frag} {mg : Str → Option Value}
theorem ok_law_held [c : Facts K mg] (G__law_own : Fn P w K mg "_law_own" 1 ["part"] ((spOwnP K))) : Fn P w K mg "_law_held" 2 ["parts", "order"] ((spLHeld K)) := by
  obtain ⟨fd, F⟩ := c.d_law_held
  refine Fn.mk' F c.g_law_held sc_law_held (k := 1) (fun vs H Q E h => ?_) (fun _ _ _ _ _ _ us hl => match us, hl with | [_, _], _ => rfl) (fun base cdv A outer s H vs Q E hr h => ?_)
  · exact len_law_held h
  · have nd := sc_law_held.nd
    have hu := hu_of hr
    have hr__law_own : Room 1 _ := hr.mono (by omega)
    refine ⟨_, (pss_cons (ps_set (i := 2) nd rfl (Or.inl rfl) (pe_lst pa_nil))
      (pss_cons (ps_set (i := 3) nd rfl (Or.inl rfl) (pe_lst pa_nil))
      (pss_cons (ps_for PassesOwn.never rfl (pi_list (pv 1)) (pg_name (i := 4) nd rfl (Or.inr rfl)) (pss_cons (ps_set (i := 2) nd rfl (Or.inl rfl) (pe_op (op_addA (K := K) rfl) (pe_lc (own := [("one", 5)]) rfl nd (pi_list (pv 2)) (blkOk_by (N := N_law_held) (sc := defScope s_law_held) (by decide +kernel)) (fun _ _ _ _ _ => (pg_name (i := 5) nd rfl (Or.inl rfl))) (fun _ _ _ _ _ => pts_one (pt_cmpR (op_notInA (K := K) rfl) (pv 5) (pe_fn G__law_own hr__law_own (by rfl) (pa_cons (pe_ix (ix_any (K := K) rfl) (pv 0) (pv 4) (fun _ _ => rfl)) pa_nil)) (by rfl))) (fun _ _ _ _ _ => (pv 5))) (pe_lst (pa_cons (pv 4) pa_nil))))
      (pss_one (ps_expr (pe_bm PySem.F.plainAttrs_list PySem.F.slot_list_append PySem.F.type_list_append mt_append (pv 3) (pa_cons (pe_callB (call_lenA (K := K) rfl) (by rfl) c.f_len boot_len (pa_cons (pv 2) pa_nil)) pa_nil))))))
      (pss_one (ps_ret (pv 3)))))), ?_⟩
    try dsimp only [cxOf, Cx.nox, Cx.wish]
    obtain ⟨l, p, ss, o, rfl, pk, hp, hf, q⟩ := h
    have hz : sizeLine = 16777216 := sizeLine_eq
    have hol : o.length ≤ 120 := by have := hf.len; have := nOf_le pk.ok pk.few; omega
    repeat walk_at "w"
    refine w_new fun ph H1 n1 s1 f1 => ?_
    repeat walk_at "w"
    refine w_new fun f H2 n2 s2 f2 => ?_
    repeat walk_at "w"
    have s02 := s1.trans s2
    have nf : H f = none := s1.free n2
    refine fl_list (o.map V.int) (fun i σ H' => ∃ o4 o5 qh, σ = [some (.ref l), some (.ref p), some (.ref qh), some (.ref f), o4, o5] ∧ qh ≠ f ∧ Same H H' ∧ H' qh = some (.lst ((held (ownF ss) (o.take i).reverse).reverse.map V.int)) ∧ H' f = some (.lst (((heldL (ownF ss) o).take i).map V.int))) (SqL.of (s02 _ _ hp))
      ⟨_, _, ph, rfl, ne_of_none f1 n2, s02, s2 _ _ f1, f2⟩ (fun i σ H' hi hp' => ?_) (fun i x σ H' hx hp' => ?_) (fun σ H' hp' => ?_)
    · obtain ⟨_, _, _, _, _, e, _⟩ := hp'
      exact SqL.of (e _ _ hp)
    · obtain ⟨o4, o5, qh, rfl, nqf, e, hq, hfd⟩ := hp'
      rw [List.getElem?_map] at hx
      obtain ⟨y, hy, rfl⟩ := Option.map_eq_some_iff.mp hx
      have hil := (List.getElem?_eq_some_iff.mp hy).1
      have by' := (hf.mem y).mp (List.mem_of_getElem? hy)
      have hR : (held (ownF ss) (o.take i).reverse).length ≤ i := by
        have : ∀ R : List Int, (held (ownF ss) R).length ≤ R.length := fun R => by
          induction R with
          | nil => exact Nat.le_refl _
          | cons z R ih => rw [held, List.length_cons, List.length_cons]; have := List.length_filter_le (fun y => !decide (y ∈ ownF ss z)) (held (ownF ss) R); omega
        have := this (o.take i).reverse
        rw [List.length_reverse, List.length_take] at this
        omega
      generalize hRe : held (ownF ss) (o.take i).reverse = R at hq hR
      repeat walk_at "w"
      refine lc_L (R.reverse.map V.int) (fun D j ys H'' => Same H' H'' ∧ ys = ((R.reverse.take j).filter (fun z => !decide (z ∈ ownF ss y))).map V.int) (SqL.of hq) (fun D H'' hD e f => ⟨e, rfl⟩) (fun D hD j ys H'' hi hy hp => SqL.of (hp.1 _ _ hq)) (fun D hD j z ys H'' hzj hll hys hp2 => ?_) (fun D hD ys H'' hll hys hp2 => ?_)
      · obtain ⟨e2, rfl⟩ := hp2
        rw [List.getElem?_map] at hzj
        obtain ⟨z', hz', rfl⟩ := Option.map_eq_some_iff.mp hzj
        obtain ⟨xs2, v2, d2, hx2, ha2, hd2, hr2, ho2⟩ := (pk.sm (e.trans e2)).at by'.1 by'.2
        repeat walk_at "w"
        refine ⟨v2, d2, rfl, hd2, hr2, fun pw H6 fw s6 nw => ?_⟩
        rw [ho2] at fw
        refine w_niIL (SqL.of fw) ?_
        repeat walk_at "w"
        have hjl := (List.getElem?_eq_some_iff.mp hz').1
        rw [List.length_reverse] at hjl
        refine ite2 (fun h2 => ?_) (fun h2 => ?_)
        · repeat walk_at "w"
          refine lc_end (s6 _ _ hys) hll (by rw [hz]; omega) fun H8 e8 f8 => ⟨But.new (e2.trans s6) hD e8, ?_⟩
          rw [take_snoc hz', List.filter_append, List.filter_cons, if_pos h2, List.map_append]; rfl
        · refine lc_skip (s6 _ _ hys) hll ⟨e2.trans s6, ?_⟩
          rw [take_snoc hz', List.filter_append, List.filter_cons, if_neg h2, List.filter_nil, List.append_nil]
      · obtain ⟨e2, rfl⟩ := hp2
        rw [List.length_map, List.take_length] at hys
        repeat walk_at "w"
        refine w_new fun p5 H5 n5 s5 f5 => ?_
        refine w_addL (s5 _ _ hys) f5 (by rw [hz, List.length_map]; have := List.length_filter_le (fun z => !decide (z ∈ ownF ss y)) R.reverse; rw [List.length_reverse] at this; show _ + 1 ≤ _; omega) ?_
        refine w_new fun p6 H6 n6 s6 f6 => ?_
        have e6 : Same H' H6 := e2.trans (s5.trans s6)
        have e3 : (o.take (i + 1)).reverse = y :: (o.take i).reverse := rev_snoc hy
        have e4 : (held (ownF ss) (o.take (i + 1)).reverse).reverse.map V.int = (R.reverse.filter (fun z => !decide (z ∈ ownF ss y))).map V.int ++ [.int y] := by
          rw [e3, held, hRe, List.reverse_cons, List.map_append, List.filter_reverse]; rfl
        rw [← e4] at f6
        repeat walk_at "w"
        have e7 : ((((held (ownF ss) (o.take (i + 1)).reverse).reverse.map V.int).length : Nat) : Int) = cnts' (ownF ss) o i := by
          rw [List.length_map, List.length_reverse]; rfl
        rw [e7]
        refine w_append (e6 _ _ hfd) (by rw [hz, List.length_map, List.length_take]; omega) ?_
        refine w_chg fun H7 e8 f7 => ?_
        repeat walk_at "w"
        have n6f : p6 ≠ f := fun z => by
          have := (e2.trans s5) _ _ hfd
          rw [← z, n6] at this; cases this
        refine ⟨_, _, p6, rfl, n6f, But.new (e.trans e6) nf e8, e8 _ _ n6f f6, ?_⟩
        rw [heldL_take _ _ hil, List.map_append]; exact f7
    · obtain ⟨o4, o5, qh, rfl, nqf, e, hq, hfd⟩ := hp'
      rw [List.length_map, List.take_of_length_le (by rw [heldL_len]; exact Nat.le_refl _)] at hfd
      repeat walk_at "w"
      exact q f H' hfd e nf
end

end J
namespace J
open PySem PySem.Spec PyProof.Rows L2
local macro_rules | `(tactic| walk_at "cls") => `(tactic| first
  | with_reducible exact Facts.cl_Parts)
local macro_rules | `(tactic| walk_at "na") => `(tactic| first
  | with_reducible exact Facts.na_Parts_rows)
local macro_rules | `(tactic| walk_at "ty") => `(tactic| first
  | with_reducible exact ty_int
  | with_reducible exact ty_bl
  | with_reducible exact ty_str
  | with_reducible exact ty_non
  | ((with_reducible refine' ty_lst ?vv); (case vv => walk_at "tr"))
  | ((with_reducible refine' ty_sqT ?vv); (case vv => walk_at "tr"))
  | ((with_reducible refine' ty_dic ?vv); (case vv => walk_at "tr")))
local macro_rules | `(tactic| walk_at "ix") => `(tactic| first | exact at0 | exact at1 | exact at2 | assumption)
local macro_rules | `(tactic| walk_at "size") => `(tactic| first
  | assumption
  | (show _ < sizeLine; rw [sizeLine_eq]; (try simp only [List.length_cons, List.length_nil, List.length_append, List.length_map]); omega)
  | (show _ ≤ sizeLine; rw [sizeLine_eq]; (try simp only [List.length_cons, List.length_nil, List.length_append, List.length_map]); omega))
local macro_rules | `(tactic| walk_at "side") => `(tactic| first
  | assumption
  | ((with_reducible refine cdw ?_ ?_) <;> omega)
  | omega
  | (exact ⟨by omega, by omega⟩)
  | (exact Or.inl ⟨by omega, by omega⟩)
  | (exact Or.inr ⟨by omega, by omega⟩)
  | decide
  | (simp only [List.length_cons, List.length_nil, List.length_append, List.length_map]; omega)
  | (show _ ≤ _; decide))
local macro_rules | `(tactic| walk_at "as") => `(tactic| with_reducible assumption)
local macro_rules | `(tactic| walk_at "tr") => `(tactic| first
  | with_reducible assumption
  | with_reducible exact upd_same
  | ((with_reducible refine' SqL.of ?hh); (case hh => walk_at "as"))
  | ((with_reducible refine' SqT.of ?hh); (case hh => walk_at "as"))
  | ((with_reducible refine' Same.stm ?ee ?gg); (case ee => walk_at "as"); (case gg => walk_at "tr"))
  | ((with_reducible refine' Same.sqT ?ee ?gg); (case ee => walk_at "as"); (case gg => walk_at "tr"))
  | ((with_reducible refine' Same.sqL ?ee ?gg); (case ee => walk_at "as"); (case gg => walk_at "tr"))
  | ((with_reducible refine' Same.at ?ee ?gg); (case ee => walk_at "as"); (case gg => walk_at "tr"))
  | ((with_reducible refine' But.stm ?ee ?ff ?gg); (case ee => walk_at "as"); (case ff => walk_at "ne"); (case gg => walk_at "tr"))
  | ((with_reducible refine' But.tup ?ee ?ff ?gg); (case ee => walk_at "as"); (case ff => walk_at "tr1"); (case gg => walk_at "tr"))
  | ((with_reducible refine' But.sqT ?ee ?ff ?gg); (case ee => walk_at "as"); (case ff => walk_at "tr1"); (case gg => walk_at "tr"))
  | ((with_reducible refine' But.tupL ?ee ?ff ?gg); (case ee => walk_at "as"); (case ff => walk_at "tr1"); (case gg => walk_at "tr"))
  | ((with_reducible refine' But.sqTL ?ee ?ff ?gg); (case ee => walk_at "as"); (case ff => walk_at "tr1"); (case gg => walk_at "tr"))
  | ((with_reducible refine' But.sqL ?ee ?ff ?gg); (case ee => walk_at "as"); (case ff => walk_at "ne"); (case gg => walk_at "tr"))
  | ((with_reducible refine' But.at ?ee ?ff ?gg); (case ee => walk_at "as"); (case ff => walk_at "ne"); (case gg => walk_at "tr")))
local macro_rules | `(tactic| walk_at "ts") => `(tactic| first
  | with_reducible assumption
  | with_reducible exact TS.refl _
  | ((with_reducible refine' TS.trans ?gg (TS.of ?ee)); (case ee => walk_at "as"); (case gg => walk_at "ts"))
  | ((with_reducible refine' TS.trans ?gg (TS.butS ?ee ?ff)); (case ee => walk_at "as"); (case ff => walk_at "tr1"); (case gg => walk_at "ts"))
  | ((with_reducible refine' TS.trans ?gg (TS.butL ?ee ?ff)); (case ee => walk_at "as"); (case ff => walk_at "tr1"); (case gg => walk_at "ts"))
  | ((with_reducible refine' TS.trans ?gg (TS.butI ?ee ?ff)); (case ee => walk_at "as"); (case ff => walk_at "tr1"); (case gg => walk_at "ts")))
local macro_rules | `(tactic| walk_at "sm") => `(tactic| first
  | with_reducible assumption
  | with_reducible exact Same.refl _
  | ((with_reducible refine' Same.trans ?gg ?ee); (case ee => walk_at "as"); (case gg => walk_at "sm"))
  | ((with_reducible refine' But.new ?gg ?nn ?ee); (case ee => walk_at "as"); (case nn => walk_at "fr"); (case gg => walk_at "sm")))
local macro_rules | `(tactic| walk_at "fr") => `(tactic| first
  | with_reducible assumption
  | ((with_reducible refine' Same.back ?ee ?nn); (case nn => walk_at "as"); (case ee => walk_at "sm"))
  | ((with_reducible refine' But.back ?ee ?ff ?nn); (case nn => walk_at "as"); (case ff => walk_at "ne0"); (case ee => walk_at "bu")))
local macro_rules | `(tactic| walk_at "bu") => `(tactic| first
  | with_reducible assumption
  | with_reducible exact But.refl _ _
  | ((with_reducible refine' But.trans ?gg ?ee); (case ee => walk_at "as"); (case gg => walk_at "bu"))
  | ((with_reducible refine' But.trans ?gg (But.of ?ee)); (case ee => walk_at "as"); (case gg => walk_at "bu"))
  | ((with_reducible refine' But.new2 ?gg ?nn ?ee); (case ee => walk_at "as"); (case nn => walk_at "frB"); (case gg => walk_at "bu")))
local macro_rules | `(tactic| walk_at "frB") => `(tactic| first
  | with_reducible assumption
  | ((with_reducible refine' Same.back ?ee ?nn); (case nn => walk_at "as"); (case ee => walk_at "sm"))
  | ((with_reducible refine' But.back' ?ee ?ff ?nn); (case nn => walk_at "as"); (case ee => walk_at "bu"); (case ff => walk_at "tr1")))
local macro_rules | `(tactic| walk_at "tr1") => `(tactic| first
  | with_reducible assumption
  | ((with_reducible refine' Same.stm ?ee ?gg); (case ee => walk_at "as"); (case gg => walk_at "tr1"))
  | ((with_reducible refine' Same.at ?ee ?gg); (case ee => walk_at "as"); (case gg => walk_at "tr1"))
  | ((with_reducible refine' But.at ?ee ?ff ?gg); (case ee => walk_at "as"); (case ff => walk_at "ne0"); (case gg => walk_at "tr1"))
  | ((with_reducible refine' But.stm ?ee ?ff ?gg); (case ee => walk_at "as"); (case ff => walk_at "ne0"); (case gg => walk_at "tr1")))
local macro_rules | `(tactic| walk_at "ne0") => `(tactic| first
  | with_reducible assumption
  | (with_reducible apply Ne.symm; with_reducible assumption))
local macro_rules | `(tactic| walk_at "ne") => `(tactic| first
  | with_reducible assumption
  | (with_reducible apply Ne.symm; with_reducible assumption)
  | ((with_reducible refine' stm_ne ?hh ?nn); (case nn => walk_at "as"); (case hh => walk_at "tr1"))
  | ((with_reducible refine' ne_of_none ?hh ?nn); (case nn => walk_at "as"); (case hh => walk_at "tr1"))
  | ((with_reducible apply Ne.symm); (with_reducible refine' ne_of_none ?hh ?nn); (case nn => walk_at "as"); (case hh => walk_at "tr1")))
local macro_rules | `(tactic| walk_at "v") => `(tactic| first
  | with_reducible refine w_seq ?_
  | ((with_reducible refine' w_var ?vv ?_); (case vv => exact rfl))
  | with_reducible refine w_c ?_
  | with_reducible refine w_op ?_
  | with_reducible refine w_asg ?_
  | with_reducible refine w_gName ?_
  | with_reducible refine w_ret ?_
  | with_reducible refine w_ifS ?_
  | with_reducible refine w_drop ?_
  | with_reducible refine w_next ?_
  | with_reducible refine w_cons ?_
  | with_reducible refine w_nil ?_
  | with_reducible refine w_call ?_
  | with_reducible refine w_cb ?_
  | with_reducible refine w_rI0 ?_
  | with_reducible refine w_addI ?_
  | with_reducible refine w_eqI ?_
  | with_reducible refine w_neI ?_
  | with_reducible refine w_eqS ?_
  | with_reducible refine w_neS ?_
  | with_reducible refine w_eqB ?_
  | with_reducible refine w_neB ?_
  | with_reducible refine w_chain ?_
  | with_reducible refine w_test ?_
  | with_reducible refine w_tB ?_
  | with_reducible refine w_bl ?_
  | ((with_reducible refine' w_mulI ?vv ?_); (case vv => walk_at "side"))
  | ((with_reducible refine' w_rI ?vv ?_); (case vv => walk_at "side"))
  | with_reducible refine w_int1 ?_
  | with_reducible refine w_int1b ?_
  | with_reducible refine w_tup ?_
  | with_reducible refine w_lst ?_
  | with_reducible refine w_un ?_
  | with_reducible refine w_rU ?_
  | with_reducible refine w_not ?_
  | with_reducible refine w_notV ?_
  | with_reducible refine w_ifE ?_
  | with_reducible refine w_nT ?_
  | with_reducible refine w_nF ?_
  | with_reducible refine iteT ?_
  | with_reducible refine iteF ?_
  | ((with_reducible refine' w_ixT ?vv ?ww ?_); (case vv => walk_at "tr"); (case ww => walk_at "ix"))
  | ((with_reducible refine' w_ixL ?vv ?ww ?_); (case vv => walk_at "tr"); (case ww => walk_at "ix"))
  | with_reducible refine w_gSub ?_
  | ((with_reducible refine' w_setL ?vv ?ww ?_); (case vv => walk_at "tr"); (case ww => first | rfl | decide | assumption))
  | ((with_reducible refine' w_lenL ?vv ?_); (case vv => walk_at "tr"))
  | ((with_reducible refine' w_lenT ?vv ?_); (case vv => walk_at "tr"))
  | with_reducible refine w_max2 ?_
  | with_reducible refine w_max3 ?_
  | with_reducible refine w_din ?_
  | with_reducible refine w_dnotin ?_
  | with_reducible refine w_dput ?_
  | with_reducible refine w_min2 ?_
  | with_reducible refine w_bm ?_
  | with_reducible refine w_bm0 ?_
  | ((with_reducible refine' w_tyL ?vv ?_); (case vv => walk_at "tr"))
  | ((with_reducible refine' w_append ?vv ?ww ?_); (case vv => walk_at "tr"); (case ww => walk_at "size"))
  | ((with_reducible refine' w_size ?vv ?_); (case vv => walk_at "size"))
  | with_reducible refine w_forL ?_
  | with_reducible refine w_forT ?_
  | with_reducible refine w_forR1 ?_
  | with_reducible refine w_forR2 ?_
  | with_reducible refine w_lcL ?_
  | with_reducible refine w_lcT ?_
  | with_reducible refine w_lcR1 ?_
  | with_reducible refine w_yes ?_
  | with_reducible refine w_sl ?_
  | with_reducible refine w_noPart ?_
  | with_reducible refine w_part ?_
  | with_reducible refine w_int ?_
  | ((with_reducible refine' w_slL ?vv ?_); (case vv => walk_at "tr"))
  | ((with_reducible refine' w_seqL ?vv ?ww ?_); (case vv => walk_at "tr"); (case ww => rfl))
  | ((with_reducible refine' w_seqT ?vv ?ww ?_); (case vv => walk_at "tr"); (case ww => rfl))
  | with_reducible refine w_gNil ?_
  | with_reducible refine w_gCons ?_
  | with_reducible refine w_forZ ?_
  | with_reducible refine w_forM ?_
  | with_reducible refine w_forE ?_
  | with_reducible refine w_forV ?_
  | with_reducible refine w_lcZ ?_
  | with_reducible refine w_lcE ?_
  | ((with_reducible refine' w_isi (b := true) ?vv ?ww ?_); (case vv => walk_at "ty"); (case ww => decide +kernel))
  | ((with_reducible refine' w_isi (b := false) ?vv ?ww ?_); (case vv => walk_at "ty"); (case ww => decide +kernel))
  | with_reducible refine w_revL ?_
  | with_reducible refine w_pairN ?_
  | with_reducible refine w_pairC ?_
  | with_reducible refine w_dget ?_
  | with_reducible refine w_met ?_
  | ((with_reducible refine' w_metAt ?vv ?ww ?_); (case vv => walk_at "tr"); (case ww => rfl))
  | with_reducible refine w_mkI ?_
  | with_reducible refine w_fld ?_
  | ((with_reducible refine' w_fldAt ?vv ?cc ?nn ?ww ?_); (case vv => walk_at "tr"); (case cc => walk_at "cls"); (case nn => walk_at "na"); (case ww => rfl))
  | with_reducible refine w_sfld ?_
  | ((with_reducible refine' w_sfldAt ?vv ?cc ?nn ?ll ?ee ?_); (case vv => walk_at "tr"); (case cc => walk_at "cls"); (case nn => walk_at "na"); (case ll => simp); (case ee => rfl))
  | ((with_reducible refine' w_tupL ?vv ?_); (case vv => walk_at "tr"))
  | ((with_reducible refine' w_tupT ?vv ?_); (case vv => walk_at "tr"))
  | ((with_reducible refine' w_listL ?vv ?_); (case vv => walk_at "tr"))
  | ((with_reducible refine' w_listT ?vv ?_); (case vv => walk_at "tr"))
  | with_reducible refine w_tyS ?_
  | with_reducible refine w_retN ?_
  | with_reducible refine w_break ?_
  | with_reducible refine w_cont ?_)
local macro_rules | `(tactic| walk_at "w") => `(tactic| first
  | walk_at "v"
  | with_reducible refine w_or ?_
  | with_reducible refine w_and ?_
  | with_reducible refine w_andV ?_
  | with_reducible refine w_orV ?_)
local macro_rules | `(tactic| walk_at "wd") => `(tactic| first
  | walk_at "w"
  | ((with_reducible refine' w_decT ?vv ?_); (case vv => decide +kernel))
  | ((with_reducible refine' w_decF ?vv ?_); (case vv => decide +kernel)))
local macro_rules | `(tactic| walk_at "tz") => `(tactic| (intro S z; (repeat walk_at "w"); exact z))
local macro_rules | `(tactic| walk_at "wf") => `(tactic| first
  | walk_at "wd"
  | ((with_reducible refine' w_decF ?vv ?_); (case vv => with_reducible assumption)))
def del (q : Addr) (H : Hp) : Hp := fun a => if a = q then none else H a
theorem del_same {q : Addr} {H : Hp} : Same (del q H) H := fun b o h => by
  unfold del at h
  by_cases e : b = q
  · rw [if_pos e] at h; cases h
  · rw [if_neg e] at h; exact h
theorem del_at {q p : Addr} {H : Hp} {o : HO} (n : p ≠ q) (h : H p = some o) : del q H p = some o := by unfold del; rw [if_neg n]; exact h
theorem del_bu {q : Addr} {H H' : Hp} (e : But q H H') : Same (del q H) (del q H') := fun b o h => by
  by_cases z : b = q
  · unfold del at h; rw [if_pos z] at h; cases h
  · exact del_at z (e _ _ z (del_same _ _ h))
theorem del_sm {q : Addr} {H H' : Hp} (e : Same H H') : Same (del q H) (del q H') := del_bu (But.of e)
theorem del_new {q : Addr} {H H' : Hp} (n : H q = none) (e : Same H H') : Same H (del q H') := fun b o h => del_at (fun z => by rw [z, n] at h; cases h) (e _ _ h)
theorem del_but {q s : Addr} {H H' : Hp} (e : But q H H') : But q (del s H) (del s H') := fun b o n h => by
  by_cases z : b = s
  · unfold del at h; rw [if_pos z] at h; cases h
  · exact del_at z (e _ _ n (del_same _ _ h))
theorem del_none {s r : Addr} {H : Hp} (h : H r = none) : del s H r = none := by
  unfold del
  by_cases z : r = s
  · rw [if_pos z]
  · rw [if_neg z]; exact h
/-- a list of things that are no orders, apart from the stream -/
structure BL (K : PySem.W.Frag) (H : Hp) (ss : List SetE) (q s : Addr) (n : Nat) : Prop where
  ex : ∃ vs, H q = some (.lst vs) ∧ vs.length ≤ n ∧ ∀ v ∈ vs, BadV K (del q (del s H)) ss v
theorem BL.sm {K : PySem.W.Frag} {H H' : Hp} {ss : List SetE} {q s : Addr} {n : Nat} (h : BL K H ss q s n) (e : Same H H') : BL K H' ss q s n := by
  obtain ⟨vs, a, b, c⟩ := h.ex
  exact ⟨vs, e _ _ a, b, fun v hv => (c v hv).sm (del_sm (del_sm e))⟩
theorem BL.mono {K : PySem.W.Frag} {H : Hp} {ss : List SetE} {q s : Addr} {n m : Nat} (h : BL K H ss q s n) (e : n ≤ m) : BL K H ss q s m := by
  obtain ⟨vs, a, b, c⟩ := h.ex
  exact ⟨vs, a, Nat.le_trans b e, c⟩
theorem BL.bs {K : PySem.W.Frag} {H H' : Hp} {ss : List SetE} {q s : Addr} {n : Nat} (h : BL K H ss q s n) (nq : q ≠ s) (e : But s H H') : BL K H' ss q s n := by
  obtain ⟨vs, a, b, c⟩ := h.ex
  exact ⟨vs, e _ _ nq a, b, fun v hv => (c v hv).sm (del_sm (del_bu e))⟩
theorem badL {K : PySem.W.Frag} {H : Hp} {ss : List SetE} {q s a : Addr} {xs : List V} {ws : List (Option Int)} (n : a ≠ q) (m : a ≠ s) (h : H a = some (.lst xs)) (t : Ths K (del q (del s H)) xs ws) (l : xs.length ≤ 1000) (b : isOrdB (ownF ss) (nOf ss) ws = false) : BadV K (del q (del s H)) ss (.ref a) :=
  .inr ⟨a, xs, ws, rfl, del_at n (del_at m h), t, l, b⟩
theorem badS {K : PySem.W.Frag} {H : Hp} {ss : List SetE} {s a : Addr} {xs : List V} {ws : List (Option Int)} (m : a ≠ s) (h : H a = some (.lst xs)) (t : Ths K (del s H) xs ws) (l : xs.length ≤ 1000) (b : isOrdB (ownF ss) (nOf ss) ws = false) : BadV K (del s H) ss (.ref a) :=
  .inr ⟨a, xs, ws, rfl, del_at m h, t, l, b⟩
/-- one more -/
theorem BL.snoc {K : PySem.W.Frag} {H H' : Hp} {ss : List SetE} {q s : Addr} {n : Nat} {vs : List V} {v : V} (h : BL K H ss q s n) (hv : H q = some (.lst vs)) (e : But q H H') (f : H' q = some (.lst (vs ++ [v]))) (b : BadV K (del q (del s H')) ss v) : BL K H' ss q s (n + 1) := by
  obtain ⟨us, a, l, c⟩ := h.ex
  cases Option.some.inj (a.symm.trans hv)
  refine ⟨_, f, by rw [List.length_append]; simpa using l, fun u hu => ?_⟩
  rcases List.mem_append.mp hu with g | g
  · exact (c u g).sm (del_bu (del_but e))
  · rw [List.mem_singleton.mp g]; exact b
/-- some more, in a new list -/
theorem BL.app {K : PySem.W.Frag} {H H' : Hp} {ss : List SetE} {q r s : Addr} {n : Nat} {vs us : List V} (h : BL K H ss q s n) (hv : H q = some (.lst vs)) (nr : H r = none) (e : Same H H') (f : H' r = some (.lst (vs ++ us))) (b : ∀ u ∈ us, BadV K (del s H) ss u) : BL K H' ss r s (n + us.length) := by
  obtain ⟨ws, a, l, c⟩ := h.ex
  cases Option.some.inj (a.symm.trans hv)
  refine ⟨_, f, by rw [List.length_append]; omega, fun u hu => ?_⟩
  have t : Same (del s H) (del r (del s H')) := del_new (del_none nr) (del_sm e)
  rcases List.mem_append.mp hu with g | g
  · exact ((c u g).sm del_same).sm t
  · exact (b u g).sm t
theorem cut_to {xs : List V} {a : Int} (h0 : 0 ≤ a) (h1 : a ≤ xs.length) : cutV xs none (some a) = xs.take a.toNat := by
  unfold cutV
  have e : HT.sIx xs.length xs.length (some a) = a.toNat := by
    show (if a < 0 then (a + (xs.length : Int)).toNat else min a.toNat xs.length) = a.toNat
    rw [if_neg (by omega)]; omega
  rw [e, HT.sIx_none]; rfl
theorem cut_from {xs : List V} {a : Int} (h0 : 0 ≤ a) (h1 : a ≤ xs.length) : cutV xs (some a) none = xs.drop a.toNat := by
  unfold cutV
  have e : HT.sIx xs.length 0 (some a) = a.toNat := by
    show (if a < 0 then (a + (xs.length : Int)).toNat else min a.toNat xs.length) = a.toNat
    rw [if_neg (by omega)]; omega
  rw [e, HT.sIx_none, List.take_of_length_le (by rw [List.length_drop]; exact Nat.le_refl _)]
theorem w_extend2 {H : Hp} {Q : VK} {l b : Addr} {xs zs : List V} (h1 : H l = some (.lst xs)) (h2 : H b = some (.lst zs)) (h : xs.length + zs.length ≤ sizeLine) (k : ChgO l (.lst (xs ++ zs)) H (Q .non)) : rExtend (.ref l) [.ref b] H Q := ⟨l, b, xs, zs, rfl, rfl, h1, h2, h, k⟩
theorem w_cutN {σ : L2.St} {H : Hp} {nx : L2.St → Hp → Prop} {rt : VK} {bk ct : L2.St → Hp → Prop} {T : L2.TS} (Φ : L2.St → Hp → Prop) (hN : ∀ σ' H', Φ σ' H' → nx σ' H') (k : ∀ N : L2.St → Hp → Prop, (∀ σ' H', Φ σ' H' → N σ' H') → T ⟨N, rt, bk, ct⟩ σ H) : T ⟨nx, rt, bk, ct⟩ σ H := k nx hN
/-- where a part stands, and an own part of it -/
def GP (H : Hp) (ss : List SetE) (o : List Int) (v : V) : Prop := ∃ (t : Addr) (i j : Nat) (x y : Int), v = .ref t ∧ H t = some (.tup [.int (i : Int), .int (j : Int)]) ∧ o[i]? = some x ∧ o[j]? = some y ∧ y ∈ ownF ss x
theorem GP.sm {H H' : Hp} {ss : List SetE} {o : List Int} {v : V} (h : GP H ss o v) (e : TS H H') : GP H' ss o v := by
  obtain ⟨t, i, j, x, y, a, b, c⟩ := h
  exact ⟨t, i, j, x, y, a, (e _ _).1 b, c⟩
structure PP (H : Hp) (ss : List SetE) (o : List Int) (pl : Addr) (n : Nat) : Prop where
  ex : ∃ vs, H pl = some (.lst vs) ∧ vs.length ≤ n ∧ ∀ v ∈ vs, GP H ss o v
theorem PP.ts {H H' : Hp} {ss : List SetE} {o : List Int} {pl : Addr} {n : Nat} (h : PP H ss o pl n) (e : TS H H') (k : ∀ xs, H pl = some (.lst xs) → H' pl = some (.lst xs)) : PP H' ss o pl n := by
  obtain ⟨vs, a, b, c⟩ := h.ex
  exact ⟨vs, k _ a, b, fun v hv => (c v hv).sm e⟩
theorem gp_dp {K : PySem.W.Frag} {H : Hp} {ss : List SetE} {o : List Int} : ∀ {vs : List V}, (∀ v ∈ vs, GP H ss o v) → ∃ ds, DpAll K H vs ds ∧ cleanAll ds = true ∧ PyData.depthAll ds ≤ 1 ∧ (ds = [] ↔ vs = [])
  | [], _ => ⟨[], .nil, rfl, by simp [PyData.depthAll], by simp⟩
  | v :: vs, h => by
    obtain ⟨ds, a, b, c, d⟩ := gp_dp (K := K) (fun u hu => h u (List.mem_cons_of_mem _ hu))
    obtain ⟨t, i, j, x, y, rfl, ht, _⟩ := h v List.mem_cons_self
    refine ⟨.tuple [.int i, .int j] :: ds, .cons (.tup (SqT.of ht) (.cons (.int _) (.cons (.int _) .nil))) a, ?_, ?_, by simp⟩
    · simp only [cleanAll, clean, b]; rfl
    · simp only [PyData.depthAll, PyData.depth]; omega
theorem own_ahead {ss : List SetE} {o : List Int} (h : Full (ownF ss) (nOf ss) o) {i j : Nat} {x y : Int} (hx : o[i]? = some x) (hy : o[j]? = some y) (hyx : y ∈ ownF ss x) : j < i := by
  obtain ⟨hi, exi⟩ := List.getElem?_eq_some_iff.mp hx
  have nd : o.Nodup := rev_nodup (val_nodup h.val)
  have v := h.suf (i + 1)
  rw [rev_snoc hx] at v
  have hb := List.mem_reverse.mp (v.2.1 y hyx)
  obtain ⟨m, hm, em⟩ := List.getElem_of_mem hb
  rw [List.length_take] at hm
  rw [List.getElem_take] at em
  obtain ⟨hj, ej⟩ := List.getElem?_eq_some_iff.mp hy
  have := (List.getElem_inj (h₀ := by omega) (h₁ := hj) nd).mp (em.trans ej.symm)
  omega
def spNoOrd (K : PySem.W.Frag) : Sp := fun vs H Q _ => ∃ (s l p : Addr) (ss : List SetE) (o : List Int), vs = [.ref s, .ref l, .ref p] ∧ Stm H s ∧ PK K H l ss ∧ H p = some (.lst (o.map V.int)) ∧ p ≠ s ∧ Full (ownF ss) (nOf ss) o ∧
  ∀ q H', BL K H' ss q s 100 → Stm H' s → But s H H' → H q = none → Q (.ref q) H'
theorem len_law_no_orders {K : PySem.W.Frag} {vs H Q E} (h : spNoOrd K vs H Q E) : vs.length = 3 := by obtain ⟨_, _, _, _, _, rfl, _⟩ := h; rfl
section
variable {P : Program} {w : World} {K : PySem.W.Frag} {mg : Str → Option Value}
theorem ok_law_no_orders [c : Facts K mg] (G__law_own : Fn P w K mg "_law_own" 1 ["part"] ((spOwnP K))) (G__law_take : Fn P w K mg "_law_take" 1 ["stream", "many"] (spTake)) : Fn P w K mg "_law_no_orders" 2 ["stream", "parts", "order"] ((spNoOrd K)) := by
  obtain ⟨fd, F⟩ := c.d_law_no_orders
  refine Fn.mk' F c.g_law_no_orders sc_law_no_orders (k := 1) (fun vs H Q E h => ?_) (fun _ _ _ _ _ _ us hl => match us, hl with | [_, _, _], _ => rfl) (fun base cdv A outer s H vs Q E hr h => ?_)
  · exact len_law_no_orders h
  · have nd := sc_law_no_orders.nd
    have hu := hu_of hr
    have hr__law_own : Room 1 _ := hr.mono (by omega)
    have hr__law_take : Room 1 _ := hr.mono (by omega)
    refine ⟨_, (pss_cons (ps_set (i := 3) nd rfl (Or.inl rfl) (pe_lst (pa_cons pe_non (pa_cons (pe_callTy (call_tupA (K := K) rfl) (by rfl) c.f_tuple boot_tuple (pa_cons (pv 2) pa_nil)) (pa_cons pe_str (pa_cons (pe_op (op_addA (K := K) rfl) (pv 2) (pe_lst (pa_cons (pe_callB (call_lenA (K := K) rfl) (by rfl) c.f_len boot_len (pa_cons (pv 1) pa_nil)) pa_nil))) (pa_cons (pe_lst (pa_cons (pv 2) pa_nil)) (pa_cons pe_dnewK (pa_cons (pe_op (op_addA (K := K) rfl) (pv 2) (pe_lst (pa_cons (pe_un un_neg pe_int) pa_nil))) pa_nil)))))))))
      (pss_cons (ps_if (pt_cmpR (op_neA (K := K) rfl hr.units) (pv 2) (pe_lst pa_nil) (nomark _)) (pss_cons (ps_set (i := 4) nd rfl (Or.inl rfl) (pe_fn G__law_take hr__law_take (by rfl) (pa_cons (pv 0) (pa_cons (pe_callB (call_lenA (K := K) rfl) (by rfl) c.f_len boot_len (pa_cons (pv 2) pa_nil)) pa_nil))))
      (pss_cons (ps_set (i := 5) nd rfl (Or.inl rfl) (pe_slice (sl_any (K := K) rfl) (pv 2) po_none (po_some (pv 4))))
      (pss_cons (ps_set (i := 6) nd rfl (Or.inl rfl) (pe_slice (sl_any (K := K) rfl) (pv 2) (po_some (pe_op (op_addA (K := K) rfl) (pv 4) pe_int)) po_none))
      (pss_cons (ps_set (i := 3) nd rfl (Or.inl rfl) (pe_op (op_addA (K := K) rfl) (pv 3) (pe_lst (pa_cons (pe_op (op_addA (K := K) rfl) (pv 5) (pv 6)) (pa_cons (pe_op (op_addA (K := K) rfl) (pe_op (op_addA (K := K) rfl) (pv 5) (pe_lst (pa_cons (pe_ix (ix_any (K := K) rfl) (pv 2) (pv 4) (fun _ _ => rfl)) pa_nil))) (pe_slice (sl_any (K := K) rfl) (pv 2) (po_some (pv 4)) po_none)) (pa_cons (pe_op (op_addA (K := K) rfl) (pe_op (op_addA (K := K) rfl) (pv 5) (pe_lst (pa_cons pe_non pa_nil))) (pv 6)) pa_nil))))))
      (pss_cons (ps_set (i := 3) nd rfl (Or.inl rfl) (pe_op (op_addA (K := K) rfl) (pv 3) (pe_lst (pa_cons (pe_op (op_addA (K := K) rfl) (pe_op (op_addA (K := K) rfl) (pv 5) (pe_lst (pa_cons (pe_callB (call_lenA (K := K) rfl) (by rfl) c.f_len boot_len (pa_cons (pv 1) pa_nil)) pa_nil))) (pv 6)) (pa_cons (pe_op (op_addA (K := K) rfl) (pe_op (op_addA (K := K) rfl) (pv 5) (pe_lst (pa_cons (pe_callTy call_strA (by rfl) c.f_str boot_str (pa_cons (pe_ix (ix_any (K := K) rfl) (pv 2) (pv 4) (fun _ _ => rfl)) pa_nil)) pa_nil))) (pv 6)) pa_nil)))))
      (pss_cons (ps_expr (pe_bm PySem.F.plainAttrs_list PySem.F.slot_list_append PySem.F.type_list_append mt_append (pv 3) (pa_cons (pe_op (op_addA (K := K) rfl) (pe_op (op_addA (K := K) rfl) (pv 5) (pe_lst (pa_cons (pe_op op_sub (pe_ix (ix_any (K := K) rfl) (pv 2) (pv 4) (fun _ _ => rfl)) (pe_callB (call_lenA (K := K) rfl) (by rfl) c.f_len boot_len (pa_cons (pv 1) pa_nil))) pa_nil))) (pv 6)) pa_nil)))
      (pss_one (ps_if (pt_cmpR op_gt (pe_callB (call_lenA (K := K) rfl) (by rfl) c.f_len boot_len (pa_cons (pv 2) pa_nil)) pe_int (nomark _)) (pss_one (ps_expr (pe_bm PySem.F.plainAttrs_list PySem.F.slot_list_append PySem.F.type_list_append mt_append (pv 3) (pa_cons (pe_op (op_addA (K := K) rfl) (pe_op (op_addA (K := K) rfl) (pv 5) (pe_lst (pa_cons (pe_ix (ix_any (K := K) rfl) (pv 2) (pe_op op_sub (pv 4) pe_int) (fun _ _ => rfl)) pa_nil))) (pv 6)) pa_nil)))) pss_nil)))))))) pss_nil)
      (pss_cons (ps_set (i := 7) nd rfl (Or.inl rfl) (pe_lst pa_nil))
      (pss_cons (ps_for PassesOwn.never rfl (pi_enum (by rfl) c.f_enumerate (pa_cons (pv 1) pa_nil)) (pg_seq 2 (K := K) rfl rfl (pgs_cons (pg_name (i := 8) nd rfl (Or.inr rfl)) (pgs_cons (pg_name (i := 9) nd rfl (Or.inl rfl)) pgs_nil))) (pss_one (ps_expr (pe_bm PySem.F.plainAttrs_list PySem.F.slot_list_extend PySem.F.type_list_extend mt_extend (pv 7) (pa_cons (pe_lc (own := [("own", 14)]) rfl nd (pi_list (pe_fn G__law_own hr__law_own (by rfl) (pa_cons (pv 9) pa_nil))) (blkOk_by (N := N_law_no_orders) (sc := defScope s_law_no_orders) (by decide +kernel)) (fun _ _ _ _ _ => (pg_name (i := 14) nd rfl (Or.inl rfl))) (fun _ _ _ _ _ => pts_nil) (fun _ _ _ _ _ => (pe_tup (pa_cons (pe_bmA (K := K) rfl PySem.F.plainAttrs_list PySem.F.slot_list_index PySem.F.type_list_index (mt_indexA (K := K) rfl) (pv 2) (pa_cons (pv 8) pa_nil)) (pa_cons (pe_bmA (K := K) rfl PySem.F.plainAttrs_list PySem.F.slot_list_index PySem.F.type_list_index (mt_indexA (K := K) rfl) (pv 2) (pa_cons (pv 14) pa_nil)) pa_nil))))) pa_nil)))))
      (pss_cons (ps_for PassesOwn.never rfl (pi_range1 (by rfl) c.f_range (pa_cons (pe_op op_mulA pe_int (pe_callTy call_int1A (by rfl) c.f_int boot_int (pa_cons (pe_cmpR (op_neA (K := K) rfl hr.units) (pv 7) (pe_lst pa_nil) (nomark _)) pa_nil))) pa_nil)) (pg_name (i := 10) nd rfl (Or.inl rfl)) (pss_cons (ps_asg (pe_ix (ix_any (K := K) rfl) (pv 7) (pe_fn G__law_take hr__law_take (by rfl) (pa_cons (pv 0) (pa_cons (pe_callB (call_lenA (K := K) rfl) (by rfl) c.f_len boot_len (pa_cons (pv 7) pa_nil)) pa_nil))) (fun _ _ => rfl)) (pg_seq 2 (K := K) rfl rfl (pgs_cons (pg_name (i := 11) nd rfl (Or.inl rfl)) (pgs_cons (pg_name (i := 12) nd rfl (Or.inl rfl)) pgs_nil))))
      (pss_cons (ps_set (i := 13) nd rfl (Or.inl rfl) (pe_callTy (call_listA (K := K) rfl) (by rfl) c.f_list boot_list (pa_cons (pv 2) pa_nil)))
      (pss_cons (ps_asg (pe_ix (ix_any (K := K) rfl) (pv 2) (pv 12) (fun _ _ => rfl)) (pg_sub (pv 13) (pv 11) set_list))
      (pss_cons (ps_asg (pe_ix (ix_any (K := K) rfl) (pv 2) (pv 11) (fun _ _ => rfl)) (pg_sub (pv 13) (pv 12) set_list))
      (pss_one (ps_expr (pe_bm PySem.F.plainAttrs_list PySem.F.slot_list_append PySem.F.type_list_append mt_append (pv 3) (pa_cons (pv 13) pa_nil)))))))))
      (pss_one (ps_ret (pv 3)))))))), ?_⟩
    try dsimp only [cxOf, Cx.nox, Cx.wish]
    obtain ⟨s, l, p, ss, o, rfl, hs, pk, hp, nps, hf, q⟩ := h
    have hz : sizeLine = 16777216 := sizeLine_eq
    have hol : o.length ≤ 120 := by have := hf.len; have := nOf_le pk.ok pk.few; omega
    obtain ⟨us, hus, hun, hul⟩ := pk.len
    repeat walk_at "w"
    refine w_new fun a1 H1 n1 s1 f1 => ?_
    repeat walk_at "w"
    refine w_new fun a2 H2 n2 s2 f2 => ?_
    repeat walk_at "w"
    refine w_addL (by walk_at "tr") (by walk_at "tr") (by rw [hz]; simp only [List.length_append, List.length_map, List.length_cons, List.length_nil]; omega) ?_
    refine w_new fun a3 H3 n3 s3 f3 => ?_
    repeat walk_at "w"
    refine w_new fun a4 H4 n4 s4 f4 => ?_
    repeat walk_at "w"
    refine w_dnew ?_
    refine w_new fun a5 H5 n5 s5 f5 => ?_
    repeat walk_at "w"
    refine w_new fun a6 H6 n6 s6 f6 => ?_
    repeat walk_at "w"
    refine w_addL (by walk_at "tr") (by walk_at "tr") (by rw [hz]; simp only [List.length_append, List.length_map, List.length_cons, List.length_nil]; omega) ?_
    refine w_new fun a7 H7 n7 s7 f7 => ?_
    repeat walk_at "w"
    have f17 : H7 a1 = some (.tup (o.map V.int)) := by walk_at "tr"
    have f37 : H7 a3 = some (.lst (o.map V.int ++ [V.int us.length])) := by walk_at "tr"
    have f47 : H7 a4 = some (.lst [.ref p]) := by walk_at "tr"
    have f57 : H7 a5 = some (.dK []) := by walk_at "tr"
    refine w_new fun q0 H8 n8 s8 f8 => ?_
    refine w_gName ?_
    have hlen := hf.len
    have s07 : Same H H7 := s1.trans (s2.trans (s3.trans (s4.trans (s5.trans (s6.trans s7)))))
    have bl8 : BL K H8 ss q0 s 7 := by
      refine ⟨_, f8, by simp, fun v hv => BadV.sm (H := del s H7) ?_ (del_new (del_none n8) (del_sm s8))⟩
      have hp7 : H7 p = some (.lst (o.map V.int)) := s07 _ _ hp
      have k1 : a1 ≠ s := stm_ne hs n1
      have k3 : a3 ≠ s := stm_ne ((s1.trans s2).stm hs) n3
      have k4 : a4 ≠ s := stm_ne ((s1.trans (s2.trans s3)).stm hs) n4
      have k5 : a5 ≠ s := stm_ne ((s1.trans (s2.trans (s3.trans s4))).stm hs) n5
      have k7 : a7 ≠ s := stm_ne ((s1.trans (s2.trans (s3.trans (s4.trans (s5.trans s6))))).stm hs) n7
      simp only [List.mem_cons, List.not_mem_nil, or_false] at hv
      rcases hv with rfl | rfl | rfl | rfl | rfl | rfl | rfl
      · exact .inl ⟨"NoneType", .inl rfl, ty_non⟩
      · exact .inl ⟨"tuple", .inr (.inl rfl), ty_tup (del_at k1 f17)⟩
      · exact .inl ⟨"str", .inr (.inr (.inl rfl)), ty_str⟩
      · exact badS k3 f37 ((ths_ints o).app (us := [.int us.length]) (xs := [some (us.length : Int)]) ⟨rfl, trivial⟩) (by simp; omega) (bad_len (by simp; omega))
      · exact badS (ws := [none]) k4 f47 ⟨.inr ⟨"list", .inr (.inr (.inl rfl)), ty_lst (del_at nps hp7)⟩, trivial⟩ (by simp) (bad_none (by simp))
      · exact .inl ⟨"dict", .inr (.inr (.inr rfl)), ty_dic (del_at k5 f57)⟩
      · exact badS k7 f7 ((ths_ints o).app (us := [.int (-1)]) (xs := [some (-1 : Int)]) ⟨rfl, trivial⟩) (by simp; omega) (bad_len (by simp; omega))
    have s08 : Same H H8 := s07.trans s8
    have nq0 : H q0 = none := s07.free n8
    clear s1 s2 s3 s4 s5 s6 s7 s8 f1 f2 f3 f4 f5 f6 f7 f8 n1 n2 n3 n4 n5 n6 n7 n8 s07
    refine w_seq ?_
    refine w_cutN (fun σ' H' => ∃ q o4 o5 o6 o7 o8 o9 o10 o11 o12 o13 o14, σ' = [some (.ref s), some (.ref l), some (.ref p), some (.ref q), o4, o5, o6, o7, o8, o9, o10, o11, o12, o13, o14] ∧ BL K H' ss q s 14 ∧ Stm H' s ∧ But s H H' ∧ H q = none) (fun σ' H' hp' => ?_) (fun N hN => ?_)
    · obtain ⟨q0, o4, o5, o6, o7, o8, o9, o10, o11, o12, o13, o14, rfl, bl, hs1, b1, nq⟩ := hp'
      have pk1 := pk.bu hs b1
      have hp1 := b1 _ _ nps hp
      have hus1 := b1 _ _ (pk.ne hs) hus
      have nqs : q0 ≠ s := stm_ne hs nq
      have own := ownF_ok ss
      have nd : o.Nodup := rev_nodup (val_nodup hf.val)
      repeat walk_at "w"
      refine w_new fun pl H2 n2 s2 f2 => ?_
      repeat walk_at "w"
      have hp2 := s2 _ _ hp1
      have hus2 := s2 _ _ hus1
      have pk2 := pk1.sm s2
      have npl : p ≠ pl := ne_of_none hp1 n2
      have nll : l ≠ pl := ne_of_none hus1 n2
      obtain ⟨us2, hus3, hdu, hru⟩ := id pk2.pl
      cases Option.some.inj (hus3.symm.trans hus2)
      refine fl_enum (xs := us) (fun i σ H' => ∃ o4 o5 o6 o8 o9 o10 o11 o12 o13 o14, σ = [some (.ref s), some (.ref l), some (.ref p), some (.ref q0), o4, o5, o6, some (.ref pl), o8, o9, o10, o11, o12, o13, o14] ∧ But pl H2 H' ∧ PP H' ss o pl (2 * i)) (SqL.of hus2)
        ⟨_, _, _, _, _, _, _, _, _, _, rfl, But.refl _ _, ⟨[], f2, Nat.le_refl _, fun v hv => (List.not_mem_nil hv).elim⟩⟩ (fun i σ H' hi hp' => ?_) (fun i x T σ H' H3 hx hp' nT s3 hT => ?_) (fun σ H' hp' => ?_)
      · obtain ⟨_, _, _, _, _, _, _, _, _, _, _, b, _⟩ := hp'
        exact SqL.of (b _ _ nll hus2)
      · obtain ⟨o4, o5, o6, o8, o9, o10, o11, o12, o13, o14, rfl, b, pp⟩ := hp'
        have hil := (List.getElem?_eq_some_iff.mp hx).1
        have t3 : TS H2 H3 := (TS.butL b f2).trans (TS.of s3)
        obtain ⟨d, hd1, hd2⟩ := dpa_at' (dpAll_ts t3 _ _ (rows_all hru).1 hdu) hx
        have hr := proots_prow ss pk.ok rows_nil (fun _ q => (List.not_mem_nil q).elim) d (List.mem_of_getElem? hd1)
        have ho := ownF_at hd1
        have hp3 : H3 p = some (.lst (o.map V.int)) := s3 _ _ (b _ _ npl hp2)
        have bi := (hf.mem (i : Int)).mpr ⟨by omega, by omega⟩
        obtain ⟨ji, hji⟩ := List.getElem?_of_mem bi
        obtain ⟨vs0, hvs0, _⟩ := pp.ex
        have hvs3 := s3 _ _ hvs0
        repeat walk_at "w"
        refine ⟨x, d, rfl, hd2, hr, fun pw H4 fw s4 nw => ?_⟩
        rw [← ho] at fw
        have hp4 := s4 _ _ hp3
        refine lc_L ((ownF ss i).map V.int) (fun D j ys H' => Same H4 H' ∧ ys.length ≤ j ∧ ∀ v ∈ ys, GP H' ss o v) (SqL.of fw) (fun D H' hD e f => ⟨e, Nat.le_refl _, fun v hv => (List.not_mem_nil hv).elim⟩) (fun D hD j ys H' hj hy hp => SqL.of (hp.1 _ _ fw)) (fun D hD j y ys H' hyj hll hys hp5 => ?_) (fun D hD ys H' hll hys hp5 => ?_)
        · obtain ⟨e, hyl, hg⟩ := hp5
          rw [List.getElem?_map] at hyj
          obtain ⟨y, hy', rfl⟩ := Option.map_eq_some_iff.mp hyj
          have hyo := List.mem_of_getElem? hy'
          have by' := own.lt i (by omega) (by unfold nOf at hun; omega) y hyo
          obtain ⟨jy, hjy⟩ := List.getElem?_of_mem ((hf.mem y).mpr (by omega))
          have hp5 := e _ _ hp4
          have hjl := (List.getElem?_eq_some_iff.mp hy').1
          have ol2 : (ownF ss i).length ≤ 2 := by
            rw [ho]
            obtain ⟨s', items, rfl, _, _, _, l2, _⟩ := hr
            rw [PRow.own]
            exact Nat.le_trans (List.length_filterMap_le _ _) l2
          repeat walk_at "w"
          refine w_indexI (SqL.of hp5) hji (nd_first nd hji) ?_
          repeat walk_at "w"
          refine w_indexI (SqL.of hp5) hjy (nd_first nd hjy) ?_
          repeat walk_at "w"
          refine w_new fun t H6 n6 s6 f6 => ?_
          refine lc_end (s6 _ _ hys) hll (by rw [hz]; omega) fun H7 e7 f7 => ⟨But.new (e.trans s6) hD e7, by rw [List.length_append]; simpa using hyl, fun v hv => ?_⟩
          have t7 : TS H6 H7 := TS.butL e7 (s6 _ _ hys)
          rcases List.mem_append.mp hv with g | g
          · exact (hg v g).sm ((TS.of s6).trans t7)
          · rw [List.mem_singleton.mp g]
            exact ⟨t, ji, jy, i, y, rfl, (t7 _ _).1 f6, hji, hjy, hyo⟩
        · obtain ⟨e, hyl, hg⟩ := hp5
          have ol2 : (ownF ss i).length ≤ 2 := by
            rw [ho]
            obtain ⟨s', items, rfl, _, _, _, l2, _⟩ := hr
            rw [PRow.own]
            exact Nat.le_trans (List.length_filterMap_le _ _) l2
          rw [List.length_map] at hyl hll
          have s34 : Same H' H' := Same.refl _
          have pp' := pp.ts ((TS.of s3).trans ((TS.of s4).trans (TS.of e))) fun _ g => e _ _ (s4 _ _ (s3 _ _ g))
          obtain ⟨vs, hvs, hvl, hvg⟩ := pp'.ex
          repeat walk_at "w"
          refine w_extend2 hvs hys (by rw [hz]; omega) ?_
          refine w_chg fun H8 e8 f8 => ?_
          repeat walk_at "w"
          refine ⟨_, _, _, _, _, _, _, _, _, _, rfl, (b.trans (But.of (s3.trans (s4.trans e)))).trans e8, ⟨_, f8, by rw [List.length_append]; omega, fun v hv => ?_⟩⟩
          have t8 : TS H' H8 := TS.butL e8 hvs
          rcases List.mem_append.mp hv with g | g
          · exact (hvg v g).sm t8
          · exact (hg v g).sm t8
      · obtain ⟨o4, o5, o6, o8, o9, o10, o11, o12, o13, o14, rfl, b, pp⟩ := hp'
        have e0 := But.new s2 n2 b
        obtain ⟨vs, hvs, hvl, hvg⟩ := pp.ex
        repeat walk_at "w"
        refine w_new fun pe H3 n3 s3 f3 => ?_
        obtain ⟨ds, hd1, hd2, hd3, hd4⟩ := gp_dp (K := K) (fun v hv => (hvg v hv).sm (TS.of s3))
        refine w_neP (d := .list ds) (e := .list []) (.lst (SqL.of (s3 _ _ hvs)) hd1) (.lst (SqL.of f3) .nil) ⟨by rw [clean]; exact hd2, by rw [PyData.depth]; omega⟩ ⟨rfl, by simp [PyData.depth, PyData.depthAll]⟩ fun c hc => ?_
        have hc' : c = true ↔ vs ≠ [] := by
          rw [hc, ne_eq, ne_eq, ← hd4]
          constructor
          · intro g z; exact g (by rw [z])
          · intro g z; cases z; exact g rfl
        repeat walk_at "w"
        have e3 : Same H' H3 := s3
        have nplq : pl ≠ q0 := by
          obtain ⟨ws, g1, _⟩ := bl.ex
          exact (ne_of_none g1 n2).symm
        have npls : pl ≠ s := stm_ne hs1 n2
        have c3 : (3 * (if c = true then (1 : Int) else 0)) ≤ 3 ∧ 0 ≤ (3 * (if c = true then (1 : Int) else 0)) := by cases c <;> decide
        refine fl_rng1 (fun i σ H' => ∃ o4 o5 o6 o8 o9 o10 o11 o12 o13 o14, σ = [some (.ref s), some (.ref l), some (.ref p), some (.ref q0), o4, o5, o6, some (.ref pl), o8, o9, o10, o11, o12, o13, o14] ∧ BL K H' ss q0 s (14 + i) ∧ PP H' ss o pl (2 * us.length) ∧ H' pl = some (.lst vs) ∧ Stm H' s ∧ But s H H' ∧ H' p = some (.lst (o.map V.int))) (by omega) (by omega)
          ⟨_, _, _, _, _, _, _, _, _, _, rfl, (bl.sm e0).sm s3, pp.ts (TS.of s3) (fun _ g => s3 _ _ g), s3 _ _ hvs, s3.stm (e0.stm hs1), b1.trans (But.of (e0.trans s3)), s3 _ _ (e0 _ _ hp1)⟩ (fun i σ H4 hi hp' => ?_) (fun σ H4 hp' => ?_)
        · obtain ⟨o4, o5, o6, o8, o9, o10, o11, o12, o13, o14, rfl, bl4, pp4, hv4, hs4, b4, hp4⟩ := hp'
          have hct : c = true := by
            cases c with
            | true => rfl
            | false => exact absurd hi (by simp)
          have hvne := List.length_pos_iff.mpr (hc'.mp hct)
          repeat walk_at "w"
          refine ⟨s, _, rfl, hs4, by omega, by omega, fun dd H5 d0 d1 hs5 e5 => ?_⟩
          have hv5 := e5 _ _ npls hv4
          have pp5 := pp4.ts (TS.butS e5 hs4) (fun _ g => e5 _ _ npls g)
          have bl5 := bl4.bs nqs e5
          have hp5 := e5 _ _ nps hp4
          obtain ⟨v, g1, g2, g3⟩ := atI_some (xs := vs) d0 d1
          obtain ⟨vs', hvs', _, hvg'⟩ := pp5.ex
          cases Option.some.inj (hvs'.symm.trans hv5)
          obtain ⟨t, ix, jy, x, y, rfl, ht, hx, hy, hyx⟩ := hvg' v g2
          refine w_ixL (SqL.of hv5) g1 ?_
          have hjx := own_ahead hf hx hy hyx
          have hil := (List.getElem?_eq_some_iff.mp hx).1
          have hatx : atI (o.map V.int) (ix : Int) = some (.int x) := atI_of (by omega) (by rw [List.getElem?_map, Int.toNat_natCast, hx]; rfl)
          have haty : atI (o.map V.int) (jy : Int) = some (.int y) := atI_of (by omega) (by rw [List.getElem?_map, Int.toNat_natCast, hy]; rfl)
          have hn1 : ixN (o.map V.int).length (ix : Int) = some ix := by
            unfold ixN
            rw [if_pos (by omega), if_pos (by rw [List.length_map]; omega), Int.toNat_natCast]
          have hn2 : ixN ((o.map V.int).set ix (.int y)).length (jy : Int) = some jy := by
            unfold ixN
            rw [if_pos (by omega), if_pos (by rw [List.length_set, List.length_map]; omega), Int.toNat_natCast]
          repeat walk_at "w"
          refine w_new fun so H6 n6 s6 f6 => ?_
          have hp6 := s6 _ _ hp5
          have nsp : so ≠ p := (ne_of_none hp5 n6).symm
          repeat walk_at "w"
          refine w_chg fun H7 e7 f7 => ?_
          have hp7 := e7 _ _ nsp.symm hp6
          repeat walk_at "w"
          refine w_chg fun H8 e8 f8 => ?_
          have s58 : Same H5 H8 := But.new (But.new s6 n6 e7) n6 e8
          have bl8 := bl5.sm s58
          obtain ⟨ws, hw1, hw2, hw3⟩ := bl8.ex
          repeat walk_at "w"
          refine w_chg fun H9 e9 f9 => ?_
          have nsq : so ≠ q0 := by
            obtain ⟨ws5, g1, _⟩ := bl5.ex
            exact (ne_of_none g1 n6).symm
          have nss : so ≠ s := stm_ne hs5 n6
          have f8' : H8 so = some (.lst (((o.set ix y).set jy x).map V.int)) := by rw [List.map_set, List.map_set]; exact f8
          have hjl : jy < o.length := by omega
          have bl9 : BL K H9 ss q0 s (14 + i + 1) := bl8.snoc hw1 e9 f9 (by
            refine badL nsq nss (e9 _ _ nsq f8') (ths_ints _) (by simp; omega) (bad_swap (x := x) (y := y) (i := jy) (j := ix) ?_ ?_ hjx hyx)
            · rw [List.getElem?_set_self (by rw [List.length_set]; exact hjl)]
            · rw [List.getElem?_set_ne (by omega), List.getElem?_set_self hil])
          have t9 : TS H5 H9 := (TS.of s58).trans (TS.butL e9 hw1)
          exact ⟨_, _, _, _, _, _, _, _, _, _, rfl, bl9, pp5.ts t9 (fun _ g => e9 _ _ nplq (s58 _ _ g)), e9 _ _ nplq (s58 _ _ hv5), e9.stm nqs.symm (s58.stm hs5), But.new2 (b4.trans (e5.trans (But.of s58))) nq e9, e9 _ _ (fun z => by
            obtain ⟨ws0, g1, _⟩ := bl.ex
            rw [z] at hp
            rw [hp] at nq; cases nq) (s58 _ _ hp5)⟩
        · obtain ⟨o4, o5, o6, o8, o9, o10, o11, o12, o13, o14, rfl, bl4, pp4, hv4, hs4, b4, hp4⟩ := hp'
          repeat walk_at "w"
          exact q q0 H4 (bl4.mono (by omega)) hs4 b4 nq
    · repeat walk_at "w"
      have hp8 := s08 _ _ hp
      have hs8 := s08.stm hs
      have hus8 := s08 _ _ hus
      refine w_new fun b1 H9 n9 s9 f9 => ?_
      refine w_neIL (ns := o) (ms := []) (SqL.of (s9 _ _ hp8)) (SqL.of f9) ?_
      repeat walk_at "w"
      have bl9 := bl8.sm s9
      refine ite2 (fun h1 => ?_) (fun h1 => ?_)
      · have hne : o ≠ [] := by simpa using h1
        have hpos : 0 < o.length := List.length_pos_iff.mpr hne
        have hs9 := s9.stm hs8
        have hp9 := s9 _ _ hp8
        have hus9 := s9 _ _ hus8
        have s09 : Same H H9 := s08.trans s9
        repeat walk_at "w"
        rw [List.length_map]
        refine ⟨s, _, rfl, hs9, by omega, by omega, fun d Ha d0 d1 hsa ea => ?_⟩
        have hpa := ea _ _ nps hp9
        have husa := ea _ _ (pk.ne hs) hus9
        have nq0s : q0 ≠ s := stm_ne hs nq0
        have bla : BL K Ha ss q0 s 7 := bl9.bs nq0s ea
        have ba : But s H Ha := (But.of s09).trans ea
        obtain ⟨x, hx⟩ : ∃ x, o[d.toNat]? = some x := ⟨_, List.getElem?_eq_getElem (show d.toNat < o.length by omega)⟩
        have hat : atI (o.map V.int) d = some (.int x) := atI_of d0 (by rw [List.getElem?_map, hx]; rfl)
        obtain ⟨vs0, hq0, hl0, hb0⟩ := bla.ex
        repeat walk_at "w"
        rw [cut_to d0 (by rw [List.length_map]; omega), ← List.map_take]
        refine w_new fun pA Kb nb tb gb => ?_
        repeat walk_at "w"
        rw [cut_from (by omega) (by rw [List.length_map]; omega), ← List.map_drop]
        refine w_new fun pB Kc nc tc gc => ?_
        repeat walk_at "w"
        refine w_addL (by walk_at "tr") (by walk_at "tr") (by rw [hz]; simp only [List.length_append, List.length_map, List.length_cons, List.length_nil, List.length_take, List.length_drop]; omega) ?_
        refine w_new fun c1 K1 m1 t1 g1 => ?_
        repeat walk_at "w"
        refine w_new fun c2 K2 m2 t2 g2 => ?_
        repeat walk_at "w"
        refine w_addL (by walk_at "tr") (by walk_at "tr") (by rw [hz]; simp only [List.length_append, List.length_map, List.length_cons, List.length_nil, List.length_take, List.length_drop]; omega) ?_
        refine w_new fun c3 K3 m3 t3 g3 => ?_
        repeat walk_at "w"
        rw [cut_from d0 (by rw [List.length_map]; omega), ← List.map_drop]
        refine w_new fun c4 K4 m4 t4 g4 => ?_
        refine w_addL (by walk_at "tr") (by walk_at "tr") (by rw [hz]; simp only [List.length_append, List.length_map, List.length_cons, List.length_nil, List.length_take, List.length_drop]; omega) ?_
        refine w_new fun c5 K5 m5 t5 g5 => ?_
        repeat walk_at "w"
        refine w_new fun c6 K6 m6 t6 g6 => ?_
        repeat walk_at "w"
        refine w_addL (by walk_at "tr") (by walk_at "tr") (by rw [hz]; simp only [List.length_append, List.length_map, List.length_cons, List.length_nil, List.length_take, List.length_drop]; omega) ?_
        refine w_new fun c7 K7 m7 t7 g7 => ?_
        repeat walk_at "w"
        refine w_addL (by walk_at "tr") (by walk_at "tr") (by rw [hz]; simp only [List.length_append, List.length_map, List.length_cons, List.length_nil, List.length_take, List.length_drop]; omega) ?_
        refine w_new fun c8 K8 m8 t8 g8 => ?_
        repeat walk_at "w"
        refine w_new fun c9 K9 m9 t9 g9 => ?_
        have hA9 : K9 pA = some (.lst ((o.take d.toNat).map V.int)) := by walk_at "tr"
        have hB9 : K9 pB = some (.lst ((o.drop (d + 1).toNat).map V.int)) := by walk_at "tr"
        have hp9' : K9 p = some (.lst (o.map V.int)) := by walk_at "tr"
        have hu9' : K9 l = some (.lst us) := by walk_at "tr"
        have hq9 : K9 q0 = some (.lst vs0) := by walk_at "tr"
        have h19 := (show K9 c1 = some (.lst ((o.take d.toNat).map V.int ++ (o.drop (d + 1).toNat).map V.int)) by walk_at "tr")
        have h59 := (show K9 c5 = some (.lst ((o.take d.toNat).map V.int ++ [.int x] ++ (o.drop d.toNat).map V.int)) by walk_at "tr")
        have h89 := (show K9 c8 = some (.lst ((o.take d.toNat).map V.int ++ [.non] ++ (o.drop (d + 1).toNat).map V.int)) by walk_at "tr")
        have hs9' : Stm K9 s := by walk_at "tr"
        have k1 : c1 ≠ s := by walk_at "ne"
        have k5 : c5 ≠ s := by walk_at "ne"
        have k8 : c8 ≠ s := by walk_at "ne"
        have kA : pA ≠ s := by walk_at "ne"
        have kB : pB ≠ s := by walk_at "ne"
        have sa9 : Same Ha K9 := tb.trans (tc.trans (t1.trans (t2.trans (t3.trans (t4.trans (t5.trans (t6.trans (t7.trans (t8.trans t9)))))))))
        have hx1 : d.toNat < o.length := by omega
        refine w_addL hq9 g9 (by rw [hz]; simp only [List.length_cons, List.length_nil]; omega) ?_
        refine w_new fun c10 K10 m10 t10 g10 => ?_
        have bl10 : BL K K10 ss c10 s 10 := (bla.sm sa9).app hq9 m10 t10 g10 fun u hu => by
          simp only [List.mem_cons, List.not_mem_nil, or_false] at hu
          rcases hu with rfl | rfl | rfl
          · rw [← List.map_append] at h19
            exact badS k1 h19 (ths_ints _) (by simp; omega) (bad_len (by rw [List.length_map, List.length_append, List.length_take, List.length_drop]; omega))
          · exact badS k5 h59 (((ths_ints _).app (us := [.int x]) (xs := [some x]) ⟨rfl, trivial⟩).app (ths_ints _)) (by simp; omega) (bad_len (by rw [List.length_append, List.length_append, List.length_map, List.length_map, List.length_take, List.length_drop, List.length_singleton]; omega))
          · exact badS k8 h89 (((ths_ints _).app (us := [.non]) (xs := [none]) ⟨.inr ⟨"NoneType", .inr (.inl rfl), ty_non⟩, trivial⟩).app (ths_ints _)) (by simp; omega) (bad_none (by simp))
        have hA := t10 _ _ hA9
        have hB := t10 _ _ hB9
        have hpx := t10 _ _ hp9'
        have hux := t10 _ _ hu9'
        have hsx := t10.stm hs9'
        have bx : But s H K10 := ba.trans (But.of (sa9.trans t10))
        have kq : c10 ≠ s := stm_ne hs9' m10
        have nq1 : H c10 = none := (ba.trans (But.of sa9)).back kq m10
        clear t1 t2 t3 t4 t5 t6 t7 t8 t9 tb tc g1 g2 g3 g4 g5 g6 g7 g8 g9 gb gc hA9 hB9 hp9' hu9' hq9 h19 h59 h89 hs9' sa9 t10 m1 m2 m3 m4 m5 m6 m7 m8 m9 nb nc
        repeat walk_at "w"
        obtain ⟨vs1, hq1, hl1, hb1⟩ := bl10.ex
        refine w_new fun c11 K11 m11 t11 g11 => ?_
        repeat walk_at "w"
        refine w_addL (by walk_at "tr") (by walk_at "tr") (by rw [hz]; simp only [List.length_append, List.length_map, List.length_cons, List.length_nil, List.length_take, List.length_drop]; omega) ?_
        refine w_new fun c12 K12 m12 t12 g12 => ?_
        repeat walk_at "w"
        refine w_addL (by walk_at "tr") (by walk_at "tr") (by rw [hz]; simp only [List.length_append, List.length_map, List.length_cons, List.length_nil, List.length_take, List.length_drop]; omega) ?_
        refine w_new fun c13 K13 m13 t13 g13 => ?_
        repeat walk_at "w"
        have bxx := (hf.mem x).mp (List.mem_of_getElem? hx)
        refine w_strI (by
          have nn := nOf_le pk.ok pk.few
          have e : x.natAbs < 2 ^ 8 := by omega
          by_cases z : x.natAbs = 0
          · rw [z]; decide
          · have := (Nat.log2_lt z).mpr e
            omega) ?_
        repeat walk_at "w"
        refine w_new fun c14 K14 m14 t14 g14 => ?_
        repeat walk_at "w"
        refine w_addL (by walk_at "tr") (by walk_at "tr") (by rw [hz]; simp only [List.length_append, List.length_map, List.length_cons, List.length_nil, List.length_take, List.length_drop]; omega) ?_
        refine w_new fun c15 K15 m15 t15 g15 => ?_
        repeat walk_at "w"
        refine w_addL (by walk_at "tr") (by walk_at "tr") (by rw [hz]; simp only [List.length_append, List.length_map, List.length_cons, List.length_nil, List.length_take, List.length_drop]; omega) ?_
        refine w_new fun c16 K16 m16 t16 g16 => ?_
        repeat walk_at "w"
        refine w_new fun c17 K17 m17 t17 g17 => ?_
        have h13 := (show K17 c13 = some (.lst ((o.take d.toNat).map V.int ++ [.int us.length] ++ (o.drop (d + 1).toNat).map V.int)) by walk_at "tr")
        have h16 := (show K17 c16 = some (.lst ((o.take d.toNat).map V.int ++ [.str (Str.ofString (toString x))] ++ (o.drop (d + 1).toNat).map V.int)) by walk_at "tr")
        have hA17 : K17 pA = some (.lst ((o.take d.toNat).map V.int)) := by walk_at "tr"
        have hB17 : K17 pB = some (.lst ((o.drop (d + 1).toNat).map V.int)) := by walk_at "tr"
        have hp17 : K17 p = some (.lst (o.map V.int)) := by walk_at "tr"
        have hu17 : K17 l = some (.lst us) := by walk_at "tr"
        have hq17 : K17 c10 = some (.lst vs1) := by walk_at "tr"
        have hs17 : Stm K17 s := by walk_at "tr"
        have k13 : c13 ≠ s := by walk_at "ne"
        have k16 : c16 ≠ s := by walk_at "ne"
        have sa17 : Same K10 K17 := t11.trans (t12.trans (t13.trans (t14.trans (t15.trans (t16.trans t17)))))
        refine w_addL hq17 g17 (by rw [hz]; simp only [List.length_cons, List.length_nil]; omega) ?_
        refine w_new fun c18 K18 m18 t18 g18 => ?_
        have bl18 : BL K K18 ss c18 s 12 := (bl10.sm sa17).app hq17 m18 t18 g18 fun u hu => by
          simp only [List.mem_cons, List.not_mem_nil, or_false] at hu
          rcases hu with rfl | rfl
          · have e : (o.take d.toNat).map V.int ++ [V.int us.length] ++ (o.drop (d + 1).toNat).map V.int = (o.take d.toNat ++ [(us.length : Int)] ++ o.drop (d + 1).toNat).map V.int := by simp
            rw [e] at h13
            exact badS k13 h13 (ths_ints _) (by simp; omega) (bad_out (x := us.length) (by simp) (.inr (by omega)))
          · exact badS k16 h16 (((ths_ints _).app (us := [.str _]) (xs := [none]) ⟨.inl ⟨_, rfl⟩, trivial⟩).app (ths_ints _)) (by simp; omega) (bad_none (by simp))
        have hA18 := t18 _ _ hA17
        have hB18 := t18 _ _ hB17
        have hp18 := t18 _ _ hp17
        have hu18 := t18 _ _ hu17
        have hs18 := t18.stm hs17
        have b18 : But s H K18 := bx.trans (But.of (sa17.trans t18))
        have kq2 : c18 ≠ s := stm_ne hs17 m18
        have nq2 : H c18 = none := (bx.trans (But.of sa17)).back kq2 m18
        have kA2 : pA ≠ c18 := ne_of_none hA17 m18
        have kB2 : pB ≠ c18 := ne_of_none hB17 m18
        have kp2 : p ≠ c18 := ne_of_none hp17 m18
        have ku2 : l ≠ c18 := ne_of_none hu17 m18
        clear t11 t12 t13 t14 t15 t16 t17 g11 g12 g13 g14 g15 g16 g17 hA17 hB17 hp17 hu17 hq17 h13 h16 hs17 sa17 t18 m11 m12 m13 m14 m15 m16 m17 hA hB hpx hux hsx
        obtain ⟨vs2, hq2, hl2, hb2⟩ := bl18.ex
        repeat walk_at "w"
        refine w_new fun c19 K19 m19 t19 g19 => ?_
        repeat walk_at "w"
        refine w_addL (by walk_at "tr") (by walk_at "tr") (by rw [hz]; simp only [List.length_append, List.length_map, List.length_cons, List.length_nil, List.length_take, List.length_drop]; omega) ?_
        refine w_new fun c20 K20 m20 t20 g20 => ?_
        repeat walk_at "w"
        refine w_addL (by walk_at "tr") (by walk_at "tr") (by rw [hz]; simp only [List.length_append, List.length_map, List.length_cons, List.length_nil, List.length_take, List.length_drop]; omega) ?_
        refine w_new fun c21 K21 m21 t21 g21 => ?_
        repeat walk_at "w"
        have h21 := (show K21 c21 = some (.lst ((o.take d.toNat).map V.int ++ [.int (x - us.length)] ++ (o.drop (d + 1).toNat).map V.int)) by walk_at "tr")
        have sa21 : Same K18 K21 := t19.trans (t20.trans t21)
        have k21 : c21 ≠ s := by walk_at "ne"
        have k21q : c21 ≠ c18 := by walk_at "ne"
        refine w_chg fun K22 e22 g22 => ?_
        have bl22 : BL K K22 ss c18 s 13 := (bl18.sm sa21).snoc (sa21 _ _ hq2) e22 g22 (by
          have e : (o.take d.toNat).map V.int ++ [V.int (x - us.length)] ++ (o.drop (d + 1).toNat).map V.int = (o.take d.toNat ++ [x - (us.length : Int)] ++ o.drop (d + 1).toNat).map V.int := by simp
          rw [e] at h21
          exact badL k21q k21 (e22 _ _ k21q h21) (ths_ints _) (by simp; omega) (bad_out (x := x - us.length) (by simp) (.inl (by omega))))
        have hA22 := e22 _ _ kA2 (sa21 _ _ hA18)
        have hB22 := e22 _ _ kB2 (sa21 _ _ hB18)
        have hp22 := e22 _ _ kp2 (sa21 _ _ hp18)
        have hs22 : Stm K22 s := e22.stm kq2.symm (sa21.stm hs18)
        have b22 : But s H K22 := But.new2 (b18.trans (But.of sa21)) nq2 e22
        clear t19 t20 t21 g19 g20 g21 m19 m20 m21 h21 sa21 e22 hA18 hB18 hp18 hu18 hs18
        obtain ⟨vs3, hq3, hl3, hb3⟩ := bl22.ex
        repeat walk_at "w"
        rw [List.length_map]
        refine ite2 (fun h2 => ?_) (fun h2 => ?_)
        · rw [decide_eq_true_eq] at h2
          obtain ⟨y, hy, hyd⟩ : ∃ y, atI (o.map V.int) (d - 1) = some (.int y) ∧ ¬ (o.take d.toNat ++ [y] ++ o.drop (d + 1).toNat).Nodup := by
            by_cases z : d = 0
            · subst z
              refine ⟨o[o.length - 1], ?_, fun n => ?_⟩
              · unfold atI ixN
                rw [if_neg (by decide), if_pos (by rw [List.length_map]; omega)]
                show (o.map V.int)[_]? = _
                rw [List.length_map, List.getElem?_map, show ((0 : Int) - 1 + (o.length : Int)).toNat = o.length - 1 by omega, List.getElem?_eq_getElem (by omega)]; rfl
              · have m1 : o[o.length - 1] ∈ o.drop ((0 : Int) + 1).toNat := by
                  have : (o.drop 1)[o.length - 2]? = some o[o.length - 1] := by
                    rw [List.getElem?_drop, show 1 + (o.length - 2) = o.length - 1 by omega, List.getElem?_eq_getElem (by omega)]
                  exact List.mem_of_getElem? this
                rw [List.append_assoc] at n
                have := (List.nodup_append.mp n).2.1
                exact (List.nodup_cons.mp this).1 m1
            · refine ⟨o[d.toNat - 1], atI_of (by omega) ?_, fun n => ?_⟩
              · rw [List.getElem?_map, show (d - 1).toNat = d.toNat - 1 by omega, List.getElem?_eq_getElem (by omega)]; rfl
              · have m1 : o[d.toNat - 1] ∈ o.take d.toNat := by
                  have : (o.take d.toNat)[d.toNat - 1]? = some o[d.toNat - 1] := by
                    rw [List.getElem?_take, if_pos (by omega), List.getElem?_eq_getElem (by omega)]
                  exact List.mem_of_getElem? this
                have := (List.nodup_append.mp n).1
                exact (List.nodup_append.mp this).2.2 _ m1 _ (List.mem_singleton.mpr rfl) rfl
          repeat walk_at "w"
          refine w_new fun c23 K23 m23 t23 g23 => ?_
          repeat walk_at "w"
          refine w_addL (by walk_at "tr") (by walk_at "tr") (by rw [hz]; simp only [List.length_append, List.length_map, List.length_cons, List.length_nil, List.length_take, List.length_drop]; omega) ?_
          refine w_new fun c24 K24 m24 t24 g24 => ?_
          repeat walk_at "w"
          refine w_addL (by walk_at "tr") (by walk_at "tr") (by rw [hz]; simp only [List.length_append, List.length_map, List.length_cons, List.length_nil, List.length_take, List.length_drop]; omega) ?_
          refine w_new fun c25 K25 m25 t25 g25 => ?_
          repeat walk_at "w"
          have sa25 : Same K22 K25 := t23.trans (t24.trans t25)
          have k25 : c25 ≠ s := stm_ne ((t23.trans t24).stm hs22) m25
          have k25q : c25 ≠ c18 := (ne_of_none ((t23.trans t24) _ _ hq3) m25).symm
          refine w_chg fun K26 e26 g26 => ?_
          have bl26 : BL K K26 ss c18 s 14 := (bl22.sm sa25).snoc (sa25 _ _ hq3) e26 g26 (by
            have e : (o.take d.toNat).map V.int ++ [V.int y] ++ (o.drop (d + 1).toNat).map V.int = (o.take d.toNat ++ [y] ++ o.drop (d + 1).toNat).map V.int := by simp
            rw [e] at g25
            exact badL k25q k25 (e26 _ _ k25q g25) (ths_ints _) (by simp; omega) (bad_twice hyd))
          exact hN _ _ ⟨c18, _, _, _, _, _, _, _, _, _, _, _, rfl, bl26, e26.stm kq2.symm (sa25.stm hs22), But.new2 (b22.trans (But.of sa25)) nq2 e26, nq2⟩
        · repeat walk_at "w"
          exact hN _ _ ⟨c18, _, _, _, _, _, _, _, _, _, _, _, rfl, bl22.mono (by omega), hs22, b22, nq2⟩
      · repeat walk_at "w"
        obtain ⟨vs, g1, g2, g3⟩ := bl9.ex
        exact hN _ _ ⟨q0, _, _, _, _, _, _, _, _, _, _, _, rfl, bl9.mono (by omega), s9.stm hs8, But.of (s08.trans s9), nq0⟩
end

end J
namespace J
open PySem PySem.Spec PyProof.Rows L2
local macro_rules | `(tactic| walk_at "cls") => `(tactic| first
  | with_reducible exact Facts.cl_Parts)
local macro_rules | `(tactic| walk_at "na") => `(tactic| first
  | with_reducible exact Facts.na_Parts_rows)
local macro_rules | `(tactic| walk_at "ty") => `(tactic| first
  | with_reducible exact ty_int
  | with_reducible exact ty_bl
  | with_reducible exact ty_str
  | with_reducible exact ty_non
  | ((with_reducible refine' ty_lst ?vv); (case vv => walk_at "tr"))
  | ((with_reducible refine' ty_sqT ?vv); (case vv => walk_at "tr"))
  | ((with_reducible refine' ty_dic ?vv); (case vv => walk_at "tr")))
local macro_rules | `(tactic| walk_at "ix") => `(tactic| first | exact at0 | exact at1 | exact at2 | assumption)
local macro_rules | `(tactic| walk_at "size") => `(tactic| first
  | assumption
  | (show _ < sizeLine; rw [sizeLine_eq]; (try simp only [List.length_cons, List.length_nil, List.length_append, List.length_map]); omega)
  | (show _ ≤ sizeLine; rw [sizeLine_eq]; (try simp only [List.length_cons, List.length_nil, List.length_append, List.length_map]); omega))
local macro_rules | `(tactic| walk_at "side") => `(tactic| first
  | assumption
  | ((with_reducible refine cdw ?_ ?_) <;> omega)
  | omega
  | (exact ⟨by omega, by omega⟩)
  | (exact Or.inl ⟨by omega, by omega⟩)
  | (exact Or.inr ⟨by omega, by omega⟩)
  | decide
  | (simp only [List.length_cons, List.length_nil, List.length_append, List.length_map]; omega)
  | (show _ ≤ _; decide))
local macro_rules | `(tactic| walk_at "as") => `(tactic| with_reducible assumption)
local macro_rules | `(tactic| walk_at "tr") => `(tactic| first
  | with_reducible assumption
  | with_reducible exact upd_same
  | ((with_reducible refine' SqL.of ?hh); (case hh => walk_at "as"))
  | ((with_reducible refine' SqT.of ?hh); (case hh => walk_at "as"))
  | ((with_reducible refine' Same.stm ?ee ?gg); (case ee => walk_at "as"); (case gg => walk_at "tr"))
  | ((with_reducible refine' Same.sqT ?ee ?gg); (case ee => walk_at "as"); (case gg => walk_at "tr"))
  | ((with_reducible refine' Same.sqL ?ee ?gg); (case ee => walk_at "as"); (case gg => walk_at "tr"))
  | ((with_reducible refine' Same.at ?ee ?gg); (case ee => walk_at "as"); (case gg => walk_at "tr"))
  | ((with_reducible refine' But.stm ?ee ?ff ?gg); (case ee => walk_at "as"); (case ff => walk_at "ne"); (case gg => walk_at "tr"))
  | ((with_reducible refine' But.tup ?ee ?ff ?gg); (case ee => walk_at "as"); (case ff => walk_at "tr1"); (case gg => walk_at "tr"))
  | ((with_reducible refine' But.sqT ?ee ?ff ?gg); (case ee => walk_at "as"); (case ff => walk_at "tr1"); (case gg => walk_at "tr"))
  | ((with_reducible refine' But.tupL ?ee ?ff ?gg); (case ee => walk_at "as"); (case ff => walk_at "tr1"); (case gg => walk_at "tr"))
  | ((with_reducible refine' But.sqTL ?ee ?ff ?gg); (case ee => walk_at "as"); (case ff => walk_at "tr1"); (case gg => walk_at "tr"))
  | ((with_reducible refine' But.sqL ?ee ?ff ?gg); (case ee => walk_at "as"); (case ff => walk_at "ne"); (case gg => walk_at "tr"))
  | ((with_reducible refine' But.at ?ee ?ff ?gg); (case ee => walk_at "as"); (case ff => walk_at "ne"); (case gg => walk_at "tr")))
local macro_rules | `(tactic| walk_at "ts") => `(tactic| first
  | with_reducible assumption
  | with_reducible exact TS.refl _
  | ((with_reducible refine' TS.trans ?gg (TS.of ?ee)); (case ee => walk_at "as"); (case gg => walk_at "ts"))
  | ((with_reducible refine' TS.trans ?gg (TS.butS ?ee ?ff)); (case ee => walk_at "as"); (case ff => walk_at "tr1"); (case gg => walk_at "ts"))
  | ((with_reducible refine' TS.trans ?gg (TS.butL ?ee ?ff)); (case ee => walk_at "as"); (case ff => walk_at "tr1"); (case gg => walk_at "ts"))
  | ((with_reducible refine' TS.trans ?gg (TS.butI ?ee ?ff)); (case ee => walk_at "as"); (case ff => walk_at "tr1"); (case gg => walk_at "ts")))
local macro_rules | `(tactic| walk_at "sm") => `(tactic| first
  | with_reducible assumption
  | with_reducible exact Same.refl _
  | ((with_reducible refine' Same.trans ?gg ?ee); (case ee => walk_at "as"); (case gg => walk_at "sm"))
  | ((with_reducible refine' But.new ?gg ?nn ?ee); (case ee => walk_at "as"); (case nn => walk_at "fr"); (case gg => walk_at "sm")))
local macro_rules | `(tactic| walk_at "fr") => `(tactic| first
  | with_reducible assumption
  | ((with_reducible refine' Same.back ?ee ?nn); (case nn => walk_at "as"); (case ee => walk_at "sm"))
  | ((with_reducible refine' But.back ?ee ?ff ?nn); (case nn => walk_at "as"); (case ff => walk_at "ne0"); (case ee => walk_at "bu")))
local macro_rules | `(tactic| walk_at "bu") => `(tactic| first
  | with_reducible assumption
  | with_reducible exact But.refl _ _
  | ((with_reducible refine' But.trans ?gg ?ee); (case ee => walk_at "as"); (case gg => walk_at "bu"))
  | ((with_reducible refine' But.trans ?gg (But.of ?ee)); (case ee => walk_at "as"); (case gg => walk_at "bu"))
  | ((with_reducible refine' But.new2 ?gg ?nn ?ee); (case ee => walk_at "as"); (case nn => walk_at "frB"); (case gg => walk_at "bu")))
local macro_rules | `(tactic| walk_at "frB") => `(tactic| first
  | with_reducible assumption
  | ((with_reducible refine' Same.back ?ee ?nn); (case nn => walk_at "as"); (case ee => walk_at "sm"))
  | ((with_reducible refine' But.back' ?ee ?ff ?nn); (case nn => walk_at "as"); (case ee => walk_at "bu"); (case ff => walk_at "tr1")))
local macro_rules | `(tactic| walk_at "tr1") => `(tactic| first
  | with_reducible assumption
  | ((with_reducible refine' Same.stm ?ee ?gg); (case ee => walk_at "as"); (case gg => walk_at "tr1"))
  | ((with_reducible refine' Same.at ?ee ?gg); (case ee => walk_at "as"); (case gg => walk_at "tr1"))
  | ((with_reducible refine' But.at ?ee ?ff ?gg); (case ee => walk_at "as"); (case ff => walk_at "ne0"); (case gg => walk_at "tr1"))
  | ((with_reducible refine' But.stm ?ee ?ff ?gg); (case ee => walk_at "as"); (case ff => walk_at "ne0"); (case gg => walk_at "tr1")))
local macro_rules | `(tactic| walk_at "ne0") => `(tactic| first
  | with_reducible assumption
  | (with_reducible apply Ne.symm; with_reducible assumption))
local macro_rules | `(tactic| walk_at "ne") => `(tactic| first
  | with_reducible assumption
  | (with_reducible apply Ne.symm; with_reducible assumption)
  | ((with_reducible refine' stm_ne ?hh ?nn); (case nn => walk_at "as"); (case hh => walk_at "tr1"))
  | ((with_reducible refine' ne_of_none ?hh ?nn); (case nn => walk_at "as"); (case hh => walk_at "tr1"))
  | ((with_reducible apply Ne.symm); (with_reducible refine' ne_of_none ?hh ?nn); (case nn => walk_at "as"); (case hh => walk_at "tr1")))
local macro_rules | `(tactic| walk_at "v") => `(tactic| first
  | with_reducible refine w_seq ?_
  | ((with_reducible refine' w_var ?vv ?_); (case vv => exact rfl))
  | with_reducible refine w_c ?_
  | with_reducible refine w_op ?_
  | with_reducible refine w_asg ?_
  | with_reducible refine w_gName ?_
  | with_reducible refine w_ret ?_
  | with_reducible refine w_ifS ?_
  | with_reducible refine w_drop ?_
  | with_reducible refine w_next ?_
  | with_reducible refine w_cons ?_
  | with_reducible refine w_nil ?_
  | with_reducible refine w_call ?_
  | with_reducible refine w_cb ?_
  | with_reducible refine w_rI0 ?_
  | with_reducible refine w_addI ?_
  | with_reducible refine w_eqI ?_
  | with_reducible refine w_neI ?_
  | with_reducible refine w_eqS ?_
  | with_reducible refine w_neS ?_
  | with_reducible refine w_eqB ?_
  | with_reducible refine w_neB ?_
  | with_reducible refine w_chain ?_
  | with_reducible refine w_test ?_
  | with_reducible refine w_tB ?_
  | with_reducible refine w_bl ?_
  | ((with_reducible refine' w_mulI ?vv ?_); (case vv => walk_at "side"))
  | ((with_reducible refine' w_rI ?vv ?_); (case vv => walk_at "side"))
  | with_reducible refine w_int1 ?_
  | with_reducible refine w_int1b ?_
  | with_reducible refine w_tup ?_
  | with_reducible refine w_lst ?_
  | with_reducible refine w_un ?_
  | with_reducible refine w_rU ?_
  | with_reducible refine w_not ?_
  | with_reducible refine w_notV ?_
  | with_reducible refine w_ifE ?_
  | with_reducible refine w_nT ?_
  | with_reducible refine w_nF ?_
  | with_reducible refine iteT ?_
  | with_reducible refine iteF ?_
  | ((with_reducible refine' w_ixT ?vv ?ww ?_); (case vv => walk_at "tr"); (case ww => walk_at "ix"))
  | ((with_reducible refine' w_ixL ?vv ?ww ?_); (case vv => walk_at "tr"); (case ww => walk_at "ix"))
  | with_reducible refine w_gSub ?_
  | ((with_reducible refine' w_setL ?vv ?ww ?_); (case vv => walk_at "tr"); (case ww => first | rfl | decide | assumption))
  | ((with_reducible refine' w_lenL ?vv ?_); (case vv => walk_at "tr"))
  | ((with_reducible refine' w_lenT ?vv ?_); (case vv => walk_at "tr"))
  | with_reducible refine w_max2 ?_
  | with_reducible refine w_max3 ?_
  | with_reducible refine w_din ?_
  | with_reducible refine w_dnotin ?_
  | with_reducible refine w_dput ?_
  | with_reducible refine w_min2 ?_
  | with_reducible refine w_bm ?_
  | with_reducible refine w_bm0 ?_
  | ((with_reducible refine' w_tyL ?vv ?_); (case vv => walk_at "tr"))
  | ((with_reducible refine' w_append ?vv ?ww ?_); (case vv => walk_at "tr"); (case ww => walk_at "size"))
  | ((with_reducible refine' w_size ?vv ?_); (case vv => walk_at "size"))
  | with_reducible refine w_forL ?_
  | with_reducible refine w_forT ?_
  | with_reducible refine w_forR1 ?_
  | with_reducible refine w_forR2 ?_
  | with_reducible refine w_lcL ?_
  | with_reducible refine w_lcT ?_
  | with_reducible refine w_lcR1 ?_
  | with_reducible refine w_yes ?_
  | with_reducible refine w_sl ?_
  | with_reducible refine w_noPart ?_
  | with_reducible refine w_part ?_
  | with_reducible refine w_int ?_
  | ((with_reducible refine' w_slL ?vv ?_); (case vv => walk_at "tr"))
  | ((with_reducible refine' w_seqL ?vv ?ww ?_); (case vv => walk_at "tr"); (case ww => rfl))
  | ((with_reducible refine' w_seqT ?vv ?ww ?_); (case vv => walk_at "tr"); (case ww => rfl))
  | with_reducible refine w_gNil ?_
  | with_reducible refine w_gCons ?_
  | with_reducible refine w_forZ ?_
  | with_reducible refine w_forM ?_
  | with_reducible refine w_forE ?_
  | with_reducible refine w_forV ?_
  | with_reducible refine w_lcZ ?_
  | with_reducible refine w_lcE ?_
  | ((with_reducible refine' w_isi (b := true) ?vv ?ww ?_); (case vv => walk_at "ty"); (case ww => decide +kernel))
  | ((with_reducible refine' w_isi (b := false) ?vv ?ww ?_); (case vv => walk_at "ty"); (case ww => decide +kernel))
  | with_reducible refine w_revL ?_
  | with_reducible refine w_pairN ?_
  | with_reducible refine w_pairC ?_
  | with_reducible refine w_dget ?_
  | with_reducible refine w_met ?_
  | ((with_reducible refine' w_metAt ?vv ?ww ?_); (case vv => walk_at "tr"); (case ww => rfl))
  | with_reducible refine w_mkI ?_
  | with_reducible refine w_fld ?_
  | ((with_reducible refine' w_fldAt ?vv ?cc ?nn ?ww ?_); (case vv => walk_at "tr"); (case cc => walk_at "cls"); (case nn => walk_at "na"); (case ww => rfl))
  | with_reducible refine w_sfld ?_
  | ((with_reducible refine' w_sfldAt ?vv ?cc ?nn ?ll ?ee ?_); (case vv => walk_at "tr"); (case cc => walk_at "cls"); (case nn => walk_at "na"); (case ll => simp); (case ee => rfl))
  | ((with_reducible refine' w_tupL ?vv ?_); (case vv => walk_at "tr"))
  | ((with_reducible refine' w_tupT ?vv ?_); (case vv => walk_at "tr"))
  | ((with_reducible refine' w_listL ?vv ?_); (case vv => walk_at "tr"))
  | ((with_reducible refine' w_listT ?vv ?_); (case vv => walk_at "tr"))
  | with_reducible refine w_tyS ?_
  | with_reducible refine w_retN ?_
  | with_reducible refine w_break ?_
  | with_reducible refine w_cont ?_)
local macro_rules | `(tactic| walk_at "w") => `(tactic| first
  | walk_at "v"
  | with_reducible refine w_or ?_
  | with_reducible refine w_and ?_
  | with_reducible refine w_andV ?_
  | with_reducible refine w_orV ?_)
local macro_rules | `(tactic| walk_at "wd") => `(tactic| first
  | walk_at "w"
  | ((with_reducible refine' w_decT ?vv ?_); (case vv => decide +kernel))
  | ((with_reducible refine' w_decF ?vv ?_); (case vv => decide +kernel)))
local macro_rules | `(tactic| walk_at "tz") => `(tactic| (intro S z; (repeat walk_at "w"); exact z))
local macro_rules | `(tactic| walk_at "wf") => `(tactic| first
  | walk_at "wd"
  | ((with_reducible refine' w_decF ?vv ?_); (case vv => with_reducible assumption)))
def spRight3 (K : PySem.W.Frag) : Sp := fun vs H Q _ => ∃ (s l : Addr) (v : V) (ss : List SetE) (m : Int) (L : List ((Exp × Int) × Nat)), vs = [.ref s, v, .ref l, .int m] ∧ Stm H s ∧ Dp K H v (setsD ss) ∧ PK K H l ss ∧
  L.Perm (pos (restsL ss) 0).zipIdx ∧ L.Pairwise (fun a b => lexI (entI b) (entI a) = false) ∧ m = topN L L.length ∧ ∀ H', Stm H' s → But s H H' → Q (.bl true) H'
theorem len_law_right {K : PySem.W.Frag} {vs H Q E} (h : spRight3 K vs H Q E) : vs.length = 4 := by obtain ⟨_, _, _, _, _, _, rfl, _⟩ := h; rfl
section
variable {P : Program} {w : World} {K : PySem.W.Frag} {mg : Str → Option Value}
theorem ok_law_right [c : Facts K mg] (G__law_held : Fn P w K mg "_law_held" 2 ["parts", "order"] ((spLHeld K))) (G__law_no_orders : Fn P w K mg "_law_no_orders" 2 ["stream", "parts", "order"] ((spNoOrd K))) (G__law_order : Fn P w K mg "_law_order" 2 ["stream", "parts"] ((spLOrder K))) (G_held_by : Fn P w K mg "held_by" 8 ["sets", "order"] ((spHeldBy K))) : Fn P w K mg "_law_right" 9 ["stream", "sets", "parts", "needed"] ((spRight3 K)) := by
  obtain ⟨fd, F⟩ := c.d_law_right
  refine Fn.mk' F c.g_law_right sc_law_right (k := 8) (fun vs H Q E h => ?_) (fun _ _ _ _ _ _ us hl => match us, hl with | [_, _, _, _], _ => rfl) (fun base cdv A outer s H vs Q E hr h => ?_)
  · exact len_law_right h
  · have nd := sc_law_right.nd
    have hu := hu_of hr
    have hr__law_held : Room 2 _ := hr.mono (by omega)
    have hr__law_no_orders : Room 2 _ := hr.mono (by omega)
    have hr__law_order : Room 2 _ := hr.mono (by omega)
    have hr_held_by : Room 8 _ := hr.mono (by omega)
    refine ⟨_, (pss_cons (ps_set (i := 4) nd rfl (Or.inl rfl) (pe_fn G__law_order hr__law_order (by rfl) (pa_cons (pv 0) (pa_cons (pv 2) pa_nil))))
      (pss_cons (ps_set (i := 5) nd rfl (Or.inl rfl) (pe_callTy (call_listA (K := K) rfl) (by rfl) c.f_list boot_list (pa_cons (pv 4) pa_nil)))
      (pss_cons (ps_set (i := 6) nd rfl (Or.inl rfl) (pe_fn G_held_by hr_held_by (by rfl) (pa_cons (pv 1) (pa_cons (pv 5) pa_nil))))
      (pss_cons (ps_if (PW.pt (pw_or (pt_not (pt_val (pe_callB (call_isiA (K := K) rfl) (by rfl) c.f_isinstance boot_isinstance (pa_cons (pv 6) (pa_cons (pe_bltn (v := .ty "list") (by rfl) c.f_list boot_list rfl) pa_nil))))) (pw_or1 (pt_cmpR (op_neA (K := K) rfl hr.units) (pv 6) (pe_fn G__law_held hr__law_held (by rfl) (pa_cons (pv 2) (pa_cons (pv 4) pa_nil))) (nomark _))))) (pss_one (ps_ret pe_bl)) pss_nil)
      (pss_cons (ps_if (PW.pt (pw_or (pt_cmpR op_lt (pe_callB (call_maxL (K := K) rfl rfl) (by rfl) c.f_max boot_max (pa_cons (pe_op (op_addA (K := K) rfl) (pe_lst (pa_cons pe_int pa_nil)) (pv 6)) pa_nil)) (pv 3) (nomark _)) (pw_or1 (pt_cmpR (op_neA (K := K) rfl hr.units) (pv 5) (pv 4) (nomark _))))) (pss_one (ps_ret pe_bl)) pss_nil)
      (pss_cons (ps_for PassesOwn.never rfl (pi_list (pe_fn G__law_no_orders hr__law_no_orders (by rfl) (pa_cons (pv 0) (pa_cons (pv 2) (pa_cons (pv 4) pa_nil))))) (pg_name (i := 7) nd rfl (Or.inl rfl)) (pss_one (ps_if (pt_cmpR op_notN (pe_fn G_held_by hr_held_by (by rfl) (pa_cons (pv 1) (pa_cons (pv 7) pa_nil))) pe_non (nomark _)) (pss_one (ps_ret pe_bl)) pss_nil)))
      (pss_cons (ps_expr (pe_bm PySem.F.plainAttrs_list PySem.F.slot_list_append PySem.F.type_list_append mt_append (pv 6) (pa_cons pe_int pa_nil)))
      (pss_one (ps_ret (pe_cmpR (op_eqA (K := K) rfl hr.units) (pe_fn G_held_by hr_held_by (by rfl) (pa_cons (pv 1) (pa_cons (pv 5) pa_nil))) (pe_fn G__law_held hr__law_held (by rfl) (pa_cons (pv 2) (pa_cons (pv 4) pa_nil))) (nomark _))))))))))), ?_⟩
    try dsimp only [cxOf, Cx.nox, Cx.wish]
    obtain ⟨s, l, v, ss, m, L, rfl, hs, hv, pk, hL, hw, hm, q⟩ := h
    have hz : sizeLine = 16777216 := sizeLine_eq
    repeat walk_at "w"
    refine ⟨s, l, ss, rfl, hs, pk, fun p o H1 hp hf hs1 e1 np => ?_⟩
    have hol : o.length ≤ 120 := by have := hf.len; have := nOf_le pk.ok pk.few; omega
    have nps : p ≠ s := stm_ne hs np
    have pk1 := pk.bu hs e1
    have hv1 := dp_ts (TS.butS e1 hs) _ _ (setsD_t ss) hv
    repeat walk_at "w"
    refine w_new fun h2 H2 n2 s2 f2 => ?_
    repeat walk_at "w"
    refine ⟨v, ss, .ref h2, rfl, dp_ts (TS.of s2) _ _ (setsD_t ss) hv1, pk.few, pk.ok, .inr ⟨h2, o, rfl, f2, hf, fun q3 H3 f3 s3 n3 => ?_⟩⟩
    have pk3 := pk1.sm (s2.trans s3)
    repeat walk_at "w"
    refine ⟨l, p, ss, o, rfl, pk3, (s2.trans s3) _ _ hp, hf, fun q4 H4 f4 s4 n4 => ?_⟩
    refine w_neIL (SqL.of (s4 _ _ f3)) (SqL.of f4) ?_
    rw [decide_eq_true rfl]
    repeat walk_at "w"
    refine w_new fun q5 H5 n5 s5 f5 => ?_
    repeat walk_at "w"
    refine w_addL (xs := [.int 0]) f5 (s5 _ _ (s4 _ _ f3)) (by rw [hz, List.length_map, heldL_len]; simp; omega) ?_
    refine w_new fun q6 H6 n6 s6 f6 => ?_
    repeat walk_at "w"
    refine w_maxL (ns := 0 :: heldL (ownF ss) o) (SqL.of f6) (by simp) fun mx hmx hmy => ?_
    have key : m ≤ mx := by
      obtain ⟨S, a, b⟩ := low_top hf hL hw
      have e : ((topN L L.length).toNat : Int) ≤ mx := heldL_max hmy ⟨S, a, by omega⟩
      omega
    repeat walk_at "w"
    rw [decide_eq_false (show ¬ mx < m by omega)]
    have s26 : Same H1 H6 := s2.trans (s3.trans (s4.trans (s5.trans s6)))
    have h26 : H6 h2 = some (.lst (o.map V.int)) := (s3.trans (s4.trans (s5.trans s6))) _ _ f2
    repeat walk_at "w"
    refine w_neIL (SqL.of h26) (SqL.of (s26 _ _ hp)) ?_
    rw [decide_eq_true rfl]
    have hs6 := s26.stm hs1
    have pk6 := pk1.sm s26
    have hv6 := dp_ts (TS.of s26) _ _ (setsD_t ss) hv1
    have e6 : But s H H6 := e1.trans (But.of s26)
    have f36 : H6 q3 = some (.lst ((heldL (ownF ss) o).map V.int)) := (s4.trans (s5.trans s6)) _ _ f3
    have hp6 := s26 _ _ hp
    have n3H1 : H1 q3 = none := s2.free n3
    repeat walk_at "w"
    refine ⟨s, l, p, ss, o, rfl, hs6, pk6, hp6, nps, hf, fun bq H7 hb hs7 e7 nb => ?_⟩
    obtain ⟨vs, hb1, hb2, hb3⟩ := hb.ex
    have hv7 := dp_ts (TS.butS e7 hs6) _ _ (setsD_t ss) hv6
    have pk7 := pk6.bu hs6 e7
    have nqs : q3 ≠ s := stm_ne (s2.stm hs1) n3
    have nhs : h2 ≠ s := stm_ne hs1 n2
    refine fl_list vs (fun i σ H' => ∃ o1, σ = [some (.ref s), some v, some (.ref l), some (.int m), some (.ref p), some (.ref h2), some (.ref q3), o1] ∧ Same H7 H') (SqL.of hb1) ⟨_, rfl, Same.refl _⟩ (fun i σ H' hi hp' => ?_) (fun i x σ H' hx hp' => ?_) (fun σ H' hp' => ?_)
    · obtain ⟨_, _, e⟩ := hp'
      exact SqL.of (e _ _ hb1)
    · obtain ⟨o1, rfl, e⟩ := hp'
      have hbx := (((hb3 x (List.mem_of_getElem? hx)).sm del_same).sm del_same).sm e
      repeat walk_at "w"
      refine ⟨v, ss, x, rfl, dp_ts (TS.of e) _ _ (setsD_t ss) hv7, pk.few, pk.ok, .inl ⟨hbx, fun H8 s8 => ?_⟩⟩
      repeat walk_at "w"
      refine ⟨rfl, ?_⟩
      repeat walk_at "w"
      rw [decide_eq_true rfl]
      repeat walk_at "w"
      exact ⟨_, rfl, e.trans s8⟩
    · obtain ⟨o1, rfl, e⟩ := hp'
      have f38 : H' q3 = some (.lst ((heldL (ownF ss) o).map V.int)) := e _ _ (e7 _ _ nqs f36)
      have hs8 := e.stm hs7
      repeat walk_at "w"
      refine w_append f38 (by rw [hz, List.length_map, heldL_len]; omega) ?_
      refine w_chg fun H9 e9 f9 => ?_
      have n38 : h2 ≠ q3 := ne_of_none f2 n3
      have npq : p ≠ q3 := fun z => by rw [z] at hp; rw [hp] at n3H1; cases n3H1
      have nq3 : H q3 = none := e1.back nqs n3H1
      have b9 : But s H H9 := But.new2 (e6.trans (e7.trans (But.of e))) nq3 e9
      have h29 : H9 h2 = some (.lst (o.map V.int)) := e9 _ _ n38 (e _ _ (e7 _ _ nhs h26))
      have hp9 : H9 p = some (.lst (o.map V.int)) := e9 _ _ npq (e _ _ (e7 _ _ nps hp6))
      have pk9 : PK K H9 l ss := pk.bu hs b9
      have hv9 := dp_ts (TS.butS b9 hs) _ _ (setsD_t ss) hv
      repeat walk_at "w"
      refine ⟨v, ss, .ref h2, rfl, hv9, pk.few, pk.ok, .inr ⟨h2, o, rfl, h29, hf, fun r1 Ha fa sa na => ?_⟩⟩
      repeat walk_at "w"
      refine ⟨l, p, ss, o, rfl, pk9.sm sa, sa _ _ hp9, hf, fun r2 Hb fb sb nb2 => ?_⟩
      refine w_eqIL (SqL.of (sb _ _ fa)) (SqL.of fb) ?_
      rw [decide_eq_true rfl]
      exact q _ ((sa.trans sb).stm (e9.stm nqs.symm hs8)) (b9.trans (But.of (sa.trans sb)))
theorem ok_law [c : Facts K mg] (G__law_cell : Fn P w K mg "_law_cell" 1 ["script", "k"] ((spCell K))) (G__law_parts : Fn P w K mg "_law_parts" 6 ["sets"] ((spLP K))) (G__law_right : Fn P w K mg "_law_right" 9 ["stream", "sets", "parts", "needed"] ((spRight3 K))) (G__law_sets : Fn P w K mg "_law_sets" 7 ["stream"] ((spSets K))) (G__law_stream : Fn P w K mg "_law_stream" 1 ["cell"] (spStream)) (G_needs_of_sets : Fn P w K mg "needs_of_sets" 9 ["sets"] ((spNeedS K))) : Fn P w K mg "law" 10 ["script"] ((spLaw K)) := by
  obtain ⟨fd, F⟩ := c.d_law
  refine Fn.mk' F c.g_law sc_law (k := 9) (fun vs H Q E h => ?_) (fun _ _ _ _ _ _ us hl => match us, hl with | [_], _ => rfl) (fun base cdv A outer s H vs Q E hr h => ?_)
  · exact len_law h
  · have nd := sc_law.nd
    have hu := hu_of hr
    have hr__law_cell : Room 1 _ := hr.mono (by omega)
    have hr__law_parts : Room 6 _ := hr.mono (by omega)
    have hr__law_right : Room 9 _ := hr.mono (by omega)
    have hr__law_sets : Room 7 _ := hr.mono (by omega)
    have hr__law_stream : Room 1 _ := hr.mono (by omega)
    have hr_needs_of_sets : Room 9 _ := hr.mono (by omega)
    refine ⟨_, (pss_cons (ps_for PassesOwn.never rfl (pi_range1 (by rfl) c.f_range (pa_cons (pe_callB (call_max2A rfl) (by rfl) c.f_max boot_max (pa_cons pe_int (pa_cons (pe_callB (call_min2A rfl) (by rfl) c.f_min boot_min (pa_cons (pe_callB (call_lenA (K := K) rfl) (by rfl) c.f_len boot_len (pa_cons (pv 0) pa_nil)) (pa_cons pe_int pa_nil))) pa_nil))) pa_nil)) (pg_name (i := 1) nd rfl (Or.inl rfl)) (pss_cons (ps_set (i := 2) nd rfl (Or.inl rfl) (pe_fn G__law_stream hr__law_stream (by rfl) (pa_cons (pe_fn G__law_cell hr__law_cell (by rfl) (pa_cons (pv 0) (pa_cons (pv 1) pa_nil))) pa_nil)))
      (pss_cons (ps_set (i := 3) nd rfl (Or.inl rfl) (pe_fn G__law_sets hr__law_sets (by rfl) (pa_cons (pv 2) pa_nil)))
      (pss_cons (ps_asg (pe_fn G__law_parts hr__law_parts (by rfl) (pa_cons (pv 3) pa_nil)) (pg_seq 2 (K := K) rfl rfl (pgs_cons (pg_name (i := 4) nd rfl (Or.inl rfl)) (pgs_cons (pg_name (i := 5) nd rfl (Or.inl rfl)) pgs_nil))))
      (pss_one (ps_for PassesOwn.never rfl (pi_range1 (by rfl) c.f_range (pa_cons pe_int pa_nil)) (pg_name (i := 6) nd rfl (Or.inl rfl)) (pss_one (ps_if (pt_not (pt_val (pe_fn G__law_right hr__law_right (by rfl) (pa_cons (pv 2) (pa_cons (pv 3) (pa_cons (pv 4) (pa_cons (pe_fn G_needs_of_sets hr_needs_of_sets (by rfl) (pa_cons (pv 3) pa_nil)) pa_nil))))))) (pss_one (ps_ret pe_bl)) pss_nil))))))))
      (pss_one (ps_ret pe_bl))), ?_⟩
    try dsimp only [cxOf, Cx.nox, Cx.wish]
    obtain ⟨a, ns, rfl, hS, hl, q⟩ := h
    repeat walk_at "w"
    refine fl_rng1 (fun i σ H' => ∃ k s t x l r f, σ = [some (.ref a), k, s, t, x, l, r] ∧ Same H H' ∧ f = (0 : Int)) (by omega) (by omega) ⟨_, _, _, _, _, _, _, rfl, Same.refl _, rfl⟩ (fun i σ H1 hi hp => ?_) (fun σ H1 hp => ?_)
    · obtain ⟨k, s, t, x, l, r, f, rfl, sm, _⟩ := hp
      repeat walk_at "w"
      refine ⟨a, ns, i, rfl, sm.sqL hS, by omega, fun c => ?_⟩
      repeat walk_at "w"
      refine ⟨c, rfl, fun s H2 s2 n2 hs2 => ?_⟩
      repeat walk_at "w"
      refine ⟨s, rfl, hs2, fun v1 ss1 H3 d1 l1 o1 hs3 e3 => ?_⟩
      repeat walk_at "w"
      refine ⟨v1, ss1, rfl, d1, l1, o1, fun tp lp rp H4 ht hP hR nl nr s4 nlr => ?_⟩
      have pk4 : PK K H4 lp ss1 := ⟨hP, o1, l1⟩
      have d4 := dp_ts (TS.of s4) _ _ (setsD_t ss1) d1
      have hs4 := s4.stm hs3
      repeat walk_at "w"
      refine fl_rng1 (fun j σ H' => ∃ x, σ = [some (.ref a), some (.int i), some (.ref s), some v1, some (.ref lp), some (.ref rp), x] ∧ Stm H' s ∧ But s H4 H') (by omega) (by omega) ⟨_, rfl, hs4, But.refl _ _⟩ (fun j σ H5 hj hp => ?_) (fun σ H5 hp => ?_)
      · obtain ⟨x, rfl, hs5, e5⟩ := hp
        have d5 := dp_ts (TS.butS e5 hs4) _ _ (setsD_t ss1) d4
        have pk5 := pk4.bu hs4 e5
        repeat walk_at "w"
        refine ⟨v1, ss1, rfl, d5, l1, o1, fun L H6 hL hw s6 => ?_⟩
        repeat walk_at "w"
        refine ⟨s, lp, v1, ss1, _, L, rfl, s6.stm hs5, dp_ts (TS.of s6) _ _ (setsD_t ss1) d5, pk5.sm s6, hL, hw, rfl, fun H7 hs7 e7 => ?_⟩
        repeat walk_at "w"
        exact ⟨_, rfl, hs7, e5.trans ((But.of s6).trans e7)⟩
      · obtain ⟨x, rfl, hs5, e5⟩ := hp
        exact ⟨_, _, _, _, _, _, _, rfl, sm.trans (But.new s2 n2 (e3.trans ((But.of s4).trans e5))), rfl⟩
    · obtain ⟨k, s, t, x, l, r, f, rfl, sm, _⟩ := hp
      repeat walk_at "w"
      exact q _
end

end J
namespace J
open PySem PySem.Spec PyProof.Rows L2
local macro_rules | `(tactic| walk_at "cls") => `(tactic| first
  | with_reducible exact Facts.cl_Parts)
local macro_rules | `(tactic| walk_at "na") => `(tactic| first
  | with_reducible exact Facts.na_Parts_rows)
local macro_rules | `(tactic| walk_at "ty") => `(tactic| first
  | with_reducible exact ty_int
  | with_reducible exact ty_bl
  | with_reducible exact ty_str
  | with_reducible exact ty_non
  | ((with_reducible refine' ty_lst ?vv); (case vv => walk_at "tr"))
  | ((with_reducible refine' ty_sqT ?vv); (case vv => walk_at "tr"))
  | ((with_reducible refine' ty_dic ?vv); (case vv => walk_at "tr")))
local macro_rules | `(tactic| walk_at "ix") => `(tactic| first | exact at0 | exact at1 | exact at2 | assumption)
local macro_rules | `(tactic| walk_at "size") => `(tactic| first
  | assumption
  | (show _ < sizeLine; rw [sizeLine_eq]; (try simp only [List.length_cons, List.length_nil, List.length_append, List.length_map]); omega)
  | (show _ ≤ sizeLine; rw [sizeLine_eq]; (try simp only [List.length_cons, List.length_nil, List.length_append, List.length_map]); omega))
local macro_rules | `(tactic| walk_at "side") => `(tactic| first
  | assumption
  | ((with_reducible refine cdw ?_ ?_) <;> omega)
  | omega
  | (exact ⟨by omega, by omega⟩)
  | (exact Or.inl ⟨by omega, by omega⟩)
  | (exact Or.inr ⟨by omega, by omega⟩)
  | decide
  | (simp only [List.length_cons, List.length_nil, List.length_append, List.length_map]; omega)
  | (show _ ≤ _; decide))
local macro_rules | `(tactic| walk_at "as") => `(tactic| with_reducible assumption)
local macro_rules | `(tactic| walk_at "tr") => `(tactic| first
  | with_reducible assumption
  | with_reducible exact upd_same
  | ((with_reducible refine' SqL.of ?hh); (case hh => walk_at "as"))
  | ((with_reducible refine' SqT.of ?hh); (case hh => walk_at "as"))
  | ((with_reducible refine' Same.stm ?ee ?gg); (case ee => walk_at "as"); (case gg => walk_at "tr"))
  | ((with_reducible refine' Same.sqT ?ee ?gg); (case ee => walk_at "as"); (case gg => walk_at "tr"))
  | ((with_reducible refine' Same.sqL ?ee ?gg); (case ee => walk_at "as"); (case gg => walk_at "tr"))
  | ((with_reducible refine' Same.at ?ee ?gg); (case ee => walk_at "as"); (case gg => walk_at "tr"))
  | ((with_reducible refine' But.stm ?ee ?ff ?gg); (case ee => walk_at "as"); (case ff => walk_at "ne"); (case gg => walk_at "tr"))
  | ((with_reducible refine' But.tup ?ee ?ff ?gg); (case ee => walk_at "as"); (case ff => walk_at "tr1"); (case gg => walk_at "tr"))
  | ((with_reducible refine' But.sqT ?ee ?ff ?gg); (case ee => walk_at "as"); (case ff => walk_at "tr1"); (case gg => walk_at "tr"))
  | ((with_reducible refine' But.tupL ?ee ?ff ?gg); (case ee => walk_at "as"); (case ff => walk_at "tr1"); (case gg => walk_at "tr"))
  | ((with_reducible refine' But.sqTL ?ee ?ff ?gg); (case ee => walk_at "as"); (case ff => walk_at "tr1"); (case gg => walk_at "tr"))
  | ((with_reducible refine' But.sqL ?ee ?ff ?gg); (case ee => walk_at "as"); (case ff => walk_at "ne"); (case gg => walk_at "tr"))
  | ((with_reducible refine' But.at ?ee ?ff ?gg); (case ee => walk_at "as"); (case ff => walk_at "ne"); (case gg => walk_at "tr")))
local macro_rules | `(tactic| walk_at "ts") => `(tactic| first
  | with_reducible assumption
  | with_reducible exact TS.refl _
  | ((with_reducible refine' TS.trans ?gg (TS.of ?ee)); (case ee => walk_at "as"); (case gg => walk_at "ts"))
  | ((with_reducible refine' TS.trans ?gg (TS.butS ?ee ?ff)); (case ee => walk_at "as"); (case ff => walk_at "tr1"); (case gg => walk_at "ts"))
  | ((with_reducible refine' TS.trans ?gg (TS.butL ?ee ?ff)); (case ee => walk_at "as"); (case ff => walk_at "tr1"); (case gg => walk_at "ts"))
  | ((with_reducible refine' TS.trans ?gg (TS.butI ?ee ?ff)); (case ee => walk_at "as"); (case ff => walk_at "tr1"); (case gg => walk_at "ts")))
local macro_rules | `(tactic| walk_at "sm") => `(tactic| first
  | with_reducible assumption
  | with_reducible exact Same.refl _
  | ((with_reducible refine' Same.trans ?gg ?ee); (case ee => walk_at "as"); (case gg => walk_at "sm"))
  | ((with_reducible refine' But.new ?gg ?nn ?ee); (case ee => walk_at "as"); (case nn => walk_at "fr"); (case gg => walk_at "sm")))
local macro_rules | `(tactic| walk_at "fr") => `(tactic| first
  | with_reducible assumption
  | ((with_reducible refine' Same.back ?ee ?nn); (case nn => walk_at "as"); (case ee => walk_at "sm"))
  | ((with_reducible refine' But.back ?ee ?ff ?nn); (case nn => walk_at "as"); (case ff => walk_at "ne0"); (case ee => walk_at "bu")))
local macro_rules | `(tactic| walk_at "bu") => `(tactic| first
  | with_reducible assumption
  | with_reducible exact But.refl _ _
  | ((with_reducible refine' But.trans ?gg ?ee); (case ee => walk_at "as"); (case gg => walk_at "bu"))
  | ((with_reducible refine' But.trans ?gg (But.of ?ee)); (case ee => walk_at "as"); (case gg => walk_at "bu"))
  | ((with_reducible refine' But.new2 ?gg ?nn ?ee); (case ee => walk_at "as"); (case nn => walk_at "frB"); (case gg => walk_at "bu")))
local macro_rules | `(tactic| walk_at "frB") => `(tactic| first
  | with_reducible assumption
  | ((with_reducible refine' Same.back ?ee ?nn); (case nn => walk_at "as"); (case ee => walk_at "sm"))
  | ((with_reducible refine' But.back' ?ee ?ff ?nn); (case nn => walk_at "as"); (case ee => walk_at "bu"); (case ff => walk_at "tr1")))
local macro_rules | `(tactic| walk_at "tr1") => `(tactic| first
  | with_reducible assumption
  | ((with_reducible refine' Same.stm ?ee ?gg); (case ee => walk_at "as"); (case gg => walk_at "tr1"))
  | ((with_reducible refine' Same.at ?ee ?gg); (case ee => walk_at "as"); (case gg => walk_at "tr1"))
  | ((with_reducible refine' But.at ?ee ?ff ?gg); (case ee => walk_at "as"); (case ff => walk_at "ne0"); (case gg => walk_at "tr1"))
  | ((with_reducible refine' But.stm ?ee ?ff ?gg); (case ee => walk_at "as"); (case ff => walk_at "ne0"); (case gg => walk_at "tr1")))
local macro_rules | `(tactic| walk_at "ne0") => `(tactic| first
  | with_reducible assumption
  | (with_reducible apply Ne.symm; with_reducible assumption))
local macro_rules | `(tactic| walk_at "ne") => `(tactic| first
  | with_reducible assumption
  | (with_reducible apply Ne.symm; with_reducible assumption)
  | ((with_reducible refine' stm_ne ?hh ?nn); (case nn => walk_at "as"); (case hh => walk_at "tr1"))
  | ((with_reducible refine' ne_of_none ?hh ?nn); (case nn => walk_at "as"); (case hh => walk_at "tr1"))
  | ((with_reducible apply Ne.symm); (with_reducible refine' ne_of_none ?hh ?nn); (case nn => walk_at "as"); (case hh => walk_at "tr1")))
local macro_rules | `(tactic| walk_at "v") => `(tactic| first
  | with_reducible refine w_seq ?_
  | ((with_reducible refine' w_var ?vv ?_); (case vv => exact rfl))
  | with_reducible refine w_c ?_
  | with_reducible refine w_op ?_
  | with_reducible refine w_asg ?_
  | with_reducible refine w_gName ?_
  | with_reducible refine w_ret ?_
  | with_reducible refine w_ifS ?_
  | with_reducible refine w_drop ?_
  | with_reducible refine w_next ?_
  | with_reducible refine w_cons ?_
  | with_reducible refine w_nil ?_
  | with_reducible refine w_call ?_
  | with_reducible refine w_cb ?_
  | with_reducible refine w_rI0 ?_
  | with_reducible refine w_addI ?_
  | with_reducible refine w_eqI ?_
  | with_reducible refine w_neI ?_
  | with_reducible refine w_eqS ?_
  | with_reducible refine w_neS ?_
  | with_reducible refine w_eqB ?_
  | with_reducible refine w_neB ?_
  | with_reducible refine w_chain ?_
  | with_reducible refine w_test ?_
  | with_reducible refine w_tB ?_
  | with_reducible refine w_bl ?_
  | ((with_reducible refine' w_mulI ?vv ?_); (case vv => walk_at "side"))
  | ((with_reducible refine' w_rI ?vv ?_); (case vv => walk_at "side"))
  | with_reducible refine w_int1 ?_
  | with_reducible refine w_int1b ?_
  | with_reducible refine w_tup ?_
  | with_reducible refine w_lst ?_
  | with_reducible refine w_un ?_
  | with_reducible refine w_rU ?_
  | with_reducible refine w_not ?_
  | with_reducible refine w_notV ?_
  | with_reducible refine w_ifE ?_
  | with_reducible refine w_nT ?_
  | with_reducible refine w_nF ?_
  | with_reducible refine iteT ?_
  | with_reducible refine iteF ?_
  | ((with_reducible refine' w_ixT ?vv ?ww ?_); (case vv => walk_at "tr"); (case ww => walk_at "ix"))
  | ((with_reducible refine' w_ixL ?vv ?ww ?_); (case vv => walk_at "tr"); (case ww => walk_at "ix"))
  | with_reducible refine w_gSub ?_
  | ((with_reducible refine' w_setL ?vv ?ww ?_); (case vv => walk_at "tr"); (case ww => first | rfl | decide | assumption))
  | ((with_reducible refine' w_lenL ?vv ?_); (case vv => walk_at "tr"))
  | ((with_reducible refine' w_lenT ?vv ?_); (case vv => walk_at "tr"))
  | with_reducible refine w_max2 ?_
  | with_reducible refine w_max3 ?_
  | with_reducible refine w_din ?_
  | with_reducible refine w_dnotin ?_
  | with_reducible refine w_dput ?_
  | with_reducible refine w_min2 ?_
  | with_reducible refine w_bm ?_
  | with_reducible refine w_bm0 ?_
  | ((with_reducible refine' w_tyL ?vv ?_); (case vv => walk_at "tr"))
  | ((with_reducible refine' w_append ?vv ?ww ?_); (case vv => walk_at "tr"); (case ww => walk_at "size"))
  | ((with_reducible refine' w_size ?vv ?_); (case vv => walk_at "size"))
  | with_reducible refine w_forL ?_
  | with_reducible refine w_forT ?_
  | with_reducible refine w_forR1 ?_
  | with_reducible refine w_forR2 ?_
  | with_reducible refine w_lcL ?_
  | with_reducible refine w_lcT ?_
  | with_reducible refine w_lcR1 ?_
  | with_reducible refine w_yes ?_
  | with_reducible refine w_sl ?_
  | with_reducible refine w_noPart ?_
  | with_reducible refine w_part ?_
  | with_reducible refine w_int ?_
  | ((with_reducible refine' w_slL ?vv ?_); (case vv => walk_at "tr"))
  | ((with_reducible refine' w_seqL ?vv ?ww ?_); (case vv => walk_at "tr"); (case ww => rfl))
  | ((with_reducible refine' w_seqT ?vv ?ww ?_); (case vv => walk_at "tr"); (case ww => rfl))
  | with_reducible refine w_gNil ?_
  | with_reducible refine w_gCons ?_
  | with_reducible refine w_forZ ?_
  | with_reducible refine w_forM ?_
  | with_reducible refine w_forE ?_
  | with_reducible refine w_forV ?_
  | with_reducible refine w_lcZ ?_
  | with_reducible refine w_lcE ?_
  | ((with_reducible refine' w_isi (b := true) ?vv ?ww ?_); (case vv => walk_at "ty"); (case ww => decide +kernel))
  | ((with_reducible refine' w_isi (b := false) ?vv ?ww ?_); (case vv => walk_at "ty"); (case ww => decide +kernel))
  | with_reducible refine w_revL ?_
  | with_reducible refine w_pairN ?_
  | with_reducible refine w_pairC ?_
  | with_reducible refine w_dget ?_
  | with_reducible refine w_met ?_
  | ((with_reducible refine' w_metAt ?vv ?ww ?_); (case vv => walk_at "tr"); (case ww => rfl))
  | with_reducible refine w_mkI ?_
  | with_reducible refine w_fld ?_
  | ((with_reducible refine' w_fldAt ?vv ?cc ?nn ?ww ?_); (case vv => walk_at "tr"); (case cc => walk_at "cls"); (case nn => walk_at "na"); (case ww => rfl))
  | with_reducible refine w_sfld ?_
  | ((with_reducible refine' w_sfldAt ?vv ?cc ?nn ?ll ?ee ?_); (case vv => walk_at "tr"); (case cc => walk_at "cls"); (case nn => walk_at "na"); (case ll => simp); (case ee => rfl))
  | ((with_reducible refine' w_tupL ?vv ?_); (case vv => walk_at "tr"))
  | ((with_reducible refine' w_tupT ?vv ?_); (case vv => walk_at "tr"))
  | ((with_reducible refine' w_listL ?vv ?_); (case vv => walk_at "tr"))
  | ((with_reducible refine' w_listT ?vv ?_); (case vv => walk_at "tr"))
  | with_reducible refine w_tyS ?_
  | with_reducible refine w_retN ?_
  | with_reducible refine w_break ?_
  | with_reducible refine w_cont ?_)
local macro_rules | `(tactic| walk_at "w") => `(tactic| first
  | walk_at "v"
  | with_reducible refine w_or ?_
  | with_reducible refine w_and ?_
  | with_reducible refine w_andV ?_
  | with_reducible refine w_orV ?_)
local macro_rules | `(tactic| walk_at "wd") => `(tactic| first
  | walk_at "w"
  | ((with_reducible refine' w_decT ?vv ?_); (case vv => decide +kernel))
  | ((with_reducible refine' w_decF ?vv ?_); (case vv => decide +kernel)))
local macro_rules | `(tactic| walk_at "tz") => `(tactic| (intro S z; (repeat walk_at "w"); exact z))
local macro_rules | `(tactic| walk_at "wf") => `(tactic| first
  | walk_at "wd"
  | ((with_reducible refine' w_decF ?vv ?_); (case vv => with_reducible assumption)))
section
variable {P : Program} {w : World} {K : PySem.W.Frag} {mg : Str → Option Value}
theorem ok_law_own [c : Facts K mg] : Fn P w K mg "_law_own" 1 ["part"] ((spOwnP K)) := by
  obtain ⟨fd, F⟩ := c.d_law_own
  refine Fn.mk' F c.g_law_own sc_law_own (k := 0) (fun vs H Q E h => ?_) (fun _ _ _ _ _ _ us hl => match us, hl with | [_], _ => rfl) (fun base cdv A outer s H vs Q E hr h => ?_)
  · exact len_law_own h
  · have nd := sc_law_own.nd
    have hu := hu_of hr
    refine ⟨_, (pss_cons (ps_if (pt_cmpR (op_inA (K := K) rfl) (pe_ix (ix_any (K := K) rfl) (pv 0) pe_int (fun _ _ => rfl)) (pe_lst (pa_cons pe_str (pa_cons pe_str pa_nil))) (by rfl)) (pss_one (ps_ret (pe_lst pa_nil))) pss_nil)
      (pss_one (ps_ret (pe_lc (own := [("one", 1)]) rfl nd (pi_tup (pe_slice (sl_any (K := K) rfl) (pv 0) (po_some pe_int) po_none)) (blkOk_by (N := N_law_own) (sc := defScope s_law_own) (by decide +kernel)) (fun _ _ _ _ _ => (pg_name (i := 1) nd rfl (Or.inl rfl))) (fun _ _ _ _ _ => pts_one (pt_val (pe_callB (call_isiA (K := K) rfl) (by rfl) c.f_isinstance boot_isinstance (pa_cons (pv 1) (pa_cons (pe_bltn (v := .ty "int") (by rfl) c.f_int boot_int rfl) pa_nil))))) (fun _ _ _ _ _ => (pv 1)))))), ?_⟩
    try dsimp only [cxOf, Cx.nox, Cx.wish]
    obtain ⟨v, d, rfl, hv, ⟨s, items, rfl, so, hi, l1, l2, hg⟩, q⟩ := h
    obtain ⟨p, us, rfl, hp, hus⟩ := exp_n hv
    have hul : us.length = items.length := dpa_len hus
    repeat walk_at "w"
    refine w_new fun p0 H0 n0 s0 f0 => ?_
    refine w_inL (SqL.of f0) rfl rfl ?_
    repeat walk_at "w"
    have e : inV (.str s) [.str "get", .str "ask"] = decide (s = "get" ∨ s = "ask") := by
      show (("get" : Str) == s || (("ask" : Str) == s || false)) = _
      rw [Bool.or_false, Bool.eq_iff_iff, Bool.or_eq_true, beq_iff_eq, beq_iff_eq, decide_eq_true_eq]
      constructor
      · rintro (g | g)
        · exact .inl g.symm
        · exact .inr g.symm
      · rintro (g | g)
        · exact .inl g.symm
        · exact .inr g.symm
    rw [e]
    refine ite2 (fun h1 => ?_) (fun h1 => ?_)
    · rw [decide_eq_true_eq] at h1
      repeat walk_at "w"
      refine w_new fun p1 H1 n1 s1 f1 => ?_
      refine q p1 H1 ?_ (s0.trans s1) (s0.free n1)
      rw [PRow.own, hg h1]; exact f1
    · have hp0 := s0.sqT hp
      have hus0 := dpAll_ts (TS.of s0) _ _ (items_all hi).1 hus
      repeat walk_at "w"
      refine w_slT1 (σ := []) hp0 ?_
      refine w_new fun p1 H1 n1 s1 f1 => ?_
      have hus1 := dpAll_ts (TS.of s1) _ _ (items_all hi).1 hus0
      refine lc_own (SqT.of f1) hus1 hi l2 (fun v d H' R it hd k => ?_) (fun v H' R k => ?_) (fun D H' hD e nD => q D H' hD (s0.trans (s1.trans e)) (s0.free (s1.free nD)))
      · repeat walk_at "w"
        cases it with
        | int n =>
          cases dp_int hd
          repeat walk_at "w"
          exact k
        | str _ =>
          cases dp_str hd
          repeat walk_at "w"
          exact k
        | pair _ _ =>
          obtain ⟨a, xs, rfl, ha, _⟩ := dp_tup hd
          repeat walk_at "w"
          exact k
      · repeat walk_at "w"
        exact k
end

end J
namespace J
open PySem PySem.Spec PyProof.Rows L2
def loose0 : List PySem.Str := ["is_whole", "is_within", "rests_of", "parts_and_roots", "parts_of", "roots_of", "own_parts", "is_order", "held_by", "needs_of", "falling", "needs_of_sets", "_law_cell", "_law_stream", "_law_take", "_law_e", "_law_sets", "_law_part", "_law_parts", "_law_own", "_law_order", "_law_held", "_law_no_orders", "_law_right", "Parts"]
def loose : List PySem.Str := loose0
theorem all_ok {P : Program} {w : World} {K : PySem.W.Frag} {mg : Str → Option Value} [c : Facts K mg] : Fn P w K mg "law" 10 ["script"] (spLaw K) := by
  have G__law_cell := ok_law_cell (P := P) (w := w) (K := K)
  have G__law_part := ok_law_part (P := P) (w := w) (K := K) 4
  have G__law_parts := ok_law_parts (P := P) (w := w) (K := K) G__law_part
  have G__law_own := ok_law_own (P := P) (w := w) (K := K)
  have G__law_held := ok_law_held (P := P) (w := w) (K := K) G__law_own
  have G__law_take := ok_law_take (P := P) (w := w) (K := K)
  have G__law_no_orders := ok_law_no_orders (P := P) (w := w) (K := K) G__law_own G__law_take
  have G__law_order := ok_law_order (P := P) (w := w) (K := K) G__law_own G__law_take
  have G_is_whole := ok_is_whole (P := P) (w := w) (K := K)
  have G_is_within := ok_is_within (P := P) (w := w) (K := K) G_is_whole
  have G_own_parts := ok_own_parts (P := P) (w := w) (K := K)
  have G_is_order := ok_is_order (P := P) (w := w) (K := K) G_is_within G_own_parts
  have G_rests_of := ok_rests_of (P := P) (w := w) (K := K)
  obtain ⟨fd_Parts___init__, F_Parts___init__⟩ := c.dm_Parts___init__
  have GM_Parts___init__ := ok_Partsu_initu (P := P) (w := w) (K := K) F_Parts___init__
  have GM_Parts_part_in := ok_Parts_part_in (P := P) (w := w) (K := K) 4
  have G_parts_and_roots := ok_parts_and_roots (P := P) (w := w) (K := K) G_rests_of GM_Parts___init__ GM_Parts_part_in
  have G_parts_of := ok_parts_of (P := P) (w := w) (K := K) G_parts_and_roots
  have G_held_by := ok_held_by (P := P) (w := w) (K := K) G_is_order G_own_parts G_parts_of
  have G__law_right := ok_law_right (P := P) (w := w) (K := K) G__law_held G__law_no_orders G__law_order G_held_by
  have G__law_e := ok_law_e (P := P) (w := w) (K := K) G__law_take 4
  have G__law_sets := ok_law_sets (P := P) (w := w) (K := K) G__law_e G__law_take
  have G__law_stream := ok_law_stream (P := P) (w := w) (K := K)
  have G_needs_of := ok_needs_of (P := P) (w := w) (K := K) 4
  have G_roots_of := ok_roots_of (P := P) (w := w) (K := K) G_parts_and_roots
  have G_falling := ok_falling (P := P) (w := w) (K := K) G_needs_of G_rests_of G_roots_of
  have G_needs_of_sets := ok_needs_of_sets (P := P) (w := w) (K := K) G_falling
  have G_law := ok_law (P := P) (w := w) (K := K) G__law_cell G__law_parts G__law_right G__law_sets G__law_stream G_needs_of_sets
  exact G_law
abbrev rowR : PySem.W.OpenRow := PySem.W.OpenLaw.row PySem.Challenge.rw_rowsjoined_k30_whole_every_order_holds_a
abbrev hk : PySem.W.Hook := He.hookD 4 fa fn
def ob (s : PySem.W.SharedT) : He.AlD := He.obsDG 4 fa fn (HandSHeadRun.getT s)
theorem ob_eq (s : PySem.W.SharedT) : ob s = hk.obs s.abs := He.obsDG_eq (HandSHeadRun.getT_eq s)
theorem run (w : World) : HandSHeadRun.RunEq rowR (PySem.W.view rowR.prog [28]) hk ob 4000 loose w := by
  intro os
  kernel_rfl
theorem heldF {P : Program} {w : World} {K : PySem.W.Frag} {h : Heap} {mg : Str → Option Value} {f : Addr} (X : K.In h) (G : h.Ns mainGlobals mg) (hfa : mg ("law" : Str) = some (.ref f)) (c : He.SaysD fa fn K) :
    ∃ fd : FuncData, (∀ (s : Shared) (v : Value), BindsTo s fd ⟨[v], []⟩ [("script", v)]) ∧ ∀ base : Heap, K.In base → base.Ns mainGlobals mg → FnOk P w K mg base CX0 10 f fd ["script"] (spLaw K) := by
  have C := facts_of X G c
  have e := hfa.symm.trans C.g_law
  cases e
  obtain ⟨fd, h1, _, h3⟩ := (all_ok (P := P) (w := w) (K := K)).ex
  exact ⟨fd, fun s v => h3 s [v] rfl, fun base _ _ => h1 base⟩
end J
open PySem PySem.W PySem.Calls PyProof.Rows
theorem PySem.Challenge.cw_rowsjoined_k30_whole_every_order_holds_a_holds : PySem.Challenge.rw_rowsjoined_k30_whole_every_order_holds_a.Holds := by
  w_on; o_law
  refine HandSHeadRun.head_any (r := J.rowR) (q := view J.rowR.prog [28]) (H := J.hk) (ob := J.ob) (M := 4000) (loose := J.loose) (d := HandSHeadRun.topDef J.rowR.prog 28) (kwd := []) J.ob_eq
    (by kernel_rfl) (fun s => by kernel_rfl) J.run (by kernel_rfl) (by kernel_rfl) (by kernel_rfl) (by rfl) (by first | assumption | decide +kernel) (by decide +kernel) ⟨rfl, rfl, rfl, rfl, rfl, by decide +kernel⟩ ?hw ?hc
  case hw => w_witness2
  case hc =>
    refine L2.walk_ofE (l := PySem.Challenge.rw_rowsjoined_k30_whole_every_order_holds_a) (n := 63) (k := 10) (x := "script") (CX := L2.CX0) rfl (by decide) (by kernel_rfl) ⟨rfl, by decide, by decide⟩ ?F (fun _ _ _ _ z => z)
    intro w mg fa h Y G hmg0
    obtain ⟨K, KX, c⟩ := Y
    have hmg : mg ("law" : PySem.Str) = some (.ref fa) := by
      have e : (HandSHeadRun.topDef J.rowR.prog 28).name = ("law" : PySem.Str) := by kernel_rfl
      rw [← e]
      exact hmg0
    obtain ⟨fd, hb, hF⟩ := J.heldF (P := (PySem.Challenge.rw_rowsjoined_k30_whole_every_order_holds_a).prog) (w := w) KX G hmg c
    exact ⟨K, fd, _, KX, hb, fun H a ns hl hO hS => J.law_in hl hO hS, hF⟩
