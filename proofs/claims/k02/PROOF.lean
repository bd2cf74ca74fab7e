import PyProof.Rows.All
import Wide.All
import OpenK.AllK
import Wide.FinOn
import Lean
import HandS.Base
import HandS.Call
import HandS.Ends
import HandS.EndBits
import HandS.List
import HandS.Comp
import HandS.Dict
import HandS.Iter
import HandS.Text
import HandS.Wide
import HandS.Words
import HandS.WordsList
import HandS.Defaults
import HandS.IsInst
import HandS.Rev
import HandS.TupAny
import HandS.TryOnly
import HandS.Zip
import HandS.Walk
import HandS.Style
import HandS.Flow
import HandS.Head0
import HandS.Head1
import HandS.Head2
import HandS.HeadEnd
import HandS.HeadHook1
import HandS.HeadHook2
import PySem.Challenge.RW_rowsjoined_k02_sums_bit_by_bit
set_option Elab.async false
set_option linter.all false
set_option maxRecDepth 100000
set_option maxHeartbeats 4000000
namespace J
open PySem PySem.Spec PyProof.Rows L2

/-! ### frames -/
def But (s : Addr) (H H' : Hp) : Prop := ∀ b o, b ≠ s → H b = some o → H' b = some o
theorem _root_.L2.Same.one {H : Hp} {p : Addr} {o : HO} (h : H p = none) : Same H (upd H p o) := fun a u e => by
  rw [upd_ne (ne_of_none e h)]; exact e
theorem But.of {s : Addr} {H H' : Hp} (e : Same H H') : But s H H' := fun b o _ h => e b o h
theorem But.refl (s : Addr) (H : Hp) : But s H H := fun _ _ _ h => h
theorem But.trans {s : Addr} {H H1 H2 : Hp} (a : But s H H1) (b : But s H1 H2) : But s H H2 := fun c o n h => b c o n (a c o n h)
theorem But.at {s b : Addr} {H H' : Hp} {o : HO} (e : But s H H') (n : b ≠ s) (h : H b = some o) : H' b = some o := e b o n h
theorem But.upd (s : Addr) (H : Hp) (o : HO) : But s H (upd H s o) := fun b u n h => by rw [upd_ne n]; exact h
/-- all that was there stays, what lies at s was not there -/
theorem But.new {s : Addr} {H H1 H2 : Hp} (e : Same H H1) (n : H s = none) (k : But s H1 H2) : Same H H2 := fun b o h => k b o (ne_of_none h n) (e b o h)

/-- a stream of draws -/
def Stm (H : Hp) (s : Addr) : Prop := ∃ a b c : Int, H s = some (.lst [.int a, .int b, .int c])
theorem But.tup {s b : Addr} {H H' : Hp} {xs : List V} (e : But s H H') (t : Stm H s) (h : H b = some (.tup xs)) : H' b = some (.tup xs) := by
  obtain ⟨_, _, _, t⟩ := t
  exact e b _ (ne_of h t (by intro q; cases q)) h
theorem But.tupL {s b : Addr} {H H' : Hp} {xs ys : List V} (e : But s H H') (t : H s = some (.lst ys)) (h : H b = some (.tup xs)) : H' b = some (.tup xs) := e b _ (ne_of h t (by intro q; cases q)) h
theorem But.sqTL {K : PySem.W.Frag} {s a : Addr} {H H' : Hp} {xs ys : List V} (e : But s H H') (t : H s = some (.lst ys)) (h : SqT K H a xs) : SqT K H' a xs := by
  rcases h with (h | ⟨o, h⟩) | h
  · exact .inl (.inl (e _ _ (ne_of h t (by intro q; cases q)) h))
  · exact .inl (.inr ⟨o, e _ _ (ne_of h t (by intro q; cases q)) h⟩)
  · exact .inr h
theorem But.stm {s a : Addr} {H H' : Hp} (e : But s H H') (n : a ≠ s) (h : Stm H a) : Stm H' a := by
  obtain ⟨x, y, z, h⟩ := h
  exact ⟨x, y, z, e _ _ n h⟩
theorem _root_.L2.Same.back {H H' : Hp} {p : Addr} (e : Same H H') (h : H' p = none) : H p = none := e.free h
theorem But.frz {s b : Addr} {H H' : Hp} {o : Obj} {u : HO} (e : But s H H') (t : Stm H s) (h : H b = some (.frz o u)) : H' b = some (.frz o u) := by
  obtain ⟨_, _, _, t⟩ := t
  exact e b _ (ne_of h t (by intro q; cases q)) h
theorem But.sqT {K : PySem.W.Frag} {s a : Addr} {H H' : Hp} {xs : List V} (e : But s H H') (t : Stm H s) (h : SqT K H a xs) : SqT K H' a xs := by
  rcases h with (h | ⟨o, h⟩) | h
  · exact .inl (.inl (e.tup t h))
  · exact .inl (.inr ⟨o, e.frz t h⟩)
  · exact .inr h
theorem But.sqL {K : PySem.W.Frag} {s a : Addr} {H H' : Hp} {xs : List V} (e : But s H H') (n : a ≠ s) (h : SqL K H a xs) : SqL K H' a xs := by
  rcases h with (h | ⟨o, h⟩) | h
  · exact .inl (.inl (e a _ n h))
  · exact .inl (.inr ⟨o, e a _ n h⟩)
  · exact .inr h
theorem _root_.L2.Same.sqT {K : PySem.W.Frag} {H H' : Hp} {a : Addr} {xs : List V} (e : Same H H') (h : SqT K H a xs) : SqT K H' a xs := by
  rcases h with (h | ⟨o, h⟩) | h
  · exact .inl (.inl (e _ _ h))
  · exact .inl (.inr ⟨o, e _ _ h⟩)
  · exact .inr h
theorem _root_.L2.Same.sqL {K : PySem.W.Frag} {H H' : Hp} {a : Addr} {xs : List V} (e : Same H H') (h : SqL K H a xs) : SqL K H' a xs := e.seq h
theorem _root_.L2.Same.stm {H H' : Hp} {s : Addr} (e : Same H H') (h : Stm H s) : Stm H' s := by
  obtain ⟨a, b, c, h⟩ := h
  exact ⟨a, b, c, e _ _ h⟩
theorem _root_.L2.Same.at {H H' : Hp} {b : Addr} {o : HO} (e : Same H H') (h : H b = some o) : H' b = some o := e b o h
/-- a list that stands, seen past a list changed elsewhere -/
theorem sqL_upd {K : PySem.W.Frag} {H : Hp} {a p : Addr} {o : HO} {xs : List V} (n : a ≠ p) (h : SqL K H a xs) : SqL K (upd H p o) a xs := by
  rcases h with (h | ⟨u, h⟩) | h
  · exact .inl (.inl (by rw [upd_ne n]; exact h))
  · exact .inl (.inr ⟨u, by rw [upd_ne n]; exact h⟩)
  · exact .inr h
theorem sqT_updL {K : PySem.W.Frag} {H : Hp} {a p : Addr} {o : HO} {xs ys : List V} (hp : H p = some (.lst ys)) (h : SqT K H a xs) : SqT K (upd H p o) a xs := by
  rcases h with (h | ⟨u, h⟩) | h
  · exact .inl (.inl (by rw [upd_ne (ne_of h hp (by intro q; cases q))]; exact h))
  · exact .inl (.inr ⟨u, by rw [upd_ne (ne_of h hp (by intro q; cases q))]; exact h⟩)
  · exact .inr h
theorem stm_upd {H : Hp} {a p : Addr} {o : HO} (n : a ≠ p) (h : Stm H a) : Stm (upd H p o) a := by
  obtain ⟨x, y, z, h⟩ := h
  exact ⟨x, y, z, by rw [upd_ne n]; exact h⟩
theorem at_updL {H : Hp} {a p : Addr} {o u : HO} (n : a ≠ p) (h : H a = some u) : upd H p o a = some u := by rw [upd_ne n]; exact h

/-! ### readings, step by step -/
section
variable {K : PySem.W.Frag} {σ : L2.St} {H : Hp} {i : Nat} {v x y z : V} {ta tb tc te tv : TE} {Q : VK} {nx : L2.St → Hp → Prop} {rt : VK} {bk ct : L2.St → Hp → Prop} {t u : TS} {tt tu : TT}
theorem w_seq (k : t ⟨u ⟨nx, rt, bk, ct⟩, rt, bk, ct⟩ σ H) : tSeq t u ⟨nx, rt, bk, ct⟩ σ H := k
theorem w_asg {g : TG} (k : te σ H fun x H1 => g x σ H1 nx) : tAsg te g ⟨nx, rt, bk, ct⟩ σ H := k
theorem w_gName {R : L2.St → Hp → Prop} (k : R (σ.set i (some v)) H) : gName i v σ H R := k
theorem w_ret (k : te σ H rt) : tRet te ⟨nx, rt, bk, ct⟩ σ H := k
theorem w_retN (k : rt .non H) : tRetN ⟨nx, rt, bk, ct⟩ σ H := k
theorem w_drop (k : te σ H fun _ H1 => nx σ H1) : tDrop te ⟨nx, rt, bk, ct⟩ σ H := k
theorem w_next (k : nx σ H) : tNext ⟨nx, rt, bk, ct⟩ σ H := k
theorem w_break (k : bk σ H) : tBreak ⟨nx, rt, bk, ct⟩ σ H := k
theorem w_cont (k : ct σ H) : tCont ⟨nx, rt, bk, ct⟩ σ H := k
theorem w_ifS (k : tt σ H fun b H1 => if b = true then t ⟨nx, rt, bk, ct⟩ σ H1 else u ⟨nx, rt, bk, ct⟩ σ H1) : tIfS tt t u ⟨nx, rt, bk, ct⟩ σ H := k
theorem w_var (h : σ[i]? = some (some v)) (k : Q v H) : tVar i σ H Q := ⟨v, h, k⟩
theorem w_c (k : Q v H) : tC v σ H Q := k
theorem w_op {r : R2} (k : ta σ H fun x H1 => tb σ H1 fun y H2 => r x y H2 Q) : tOp r ta tb σ H Q := k
theorem w_un {r : V → Hp → VK → Prop} (k : ta σ H fun x H1 => r x H1 Q) : tUn r ta σ H Q := k
theorem w_rU {g : Int → V} {n : Int} (k : Q (g n) H) : rU g (.int n) H Q := ⟨n, rfl, k⟩
theorem w_rI0 {g : Int → Int → V} {m n : Int} (k : Q (g m n) H) : rI0 g (.int m) (.int n) H Q := ⟨m, n, rfl, rfl, k⟩
theorem w_rI {C : Int → Int → Prop} {g : Int → Int → V} {m n : Int} (c : C m n) (k : Q (g m n) H) : rI C g (.int m) (.int n) H Q := ⟨m, n, rfl, rfl, c, k⟩
theorem w_nil {R : List V → Hp → Prop} (k : R [] H) : tNil σ H R := k
theorem w_cons {tr : TA} {R : List V → Hp → Prop} (k : te σ H fun x H1 => tr σ H1 fun xs H2 => R (x :: xs) H2) : tCons te tr σ H R := k
/-- a new object -/
def NewO (o : HO) (H : Hp) (Q : VK) : Prop := ∀ p, H p = none → Q (.ref p) (upd H p o)
theorem w_new {o : HO} (k : ∀ p H', H p = none → Same H H' → H' p = some o → Q (.ref p) H') : NewO o H Q := fun p hp => k p _ hp (Same.one hp) upd_same
/-- an object changed -/
def ChgO (l : Addr) (o : HO) (H : Hp) (R : Hp → Prop) : Prop := R (upd H l o)
theorem w_chg {l : Addr} {o : HO} {R : Hp → Prop} (k : ∀ H', But l H H' → H' l = some o → R H') : ChgO l o H R := k _ (But.upd _ _ _) upd_same
theorem w_tup {tr : TA} (k : tr σ H fun xs H1 => xs.length ≤ sizeLine ∧ NewO (.tup xs) H1 Q) : tTup tr σ H Q := k
theorem w_lst {tr : TA} (k : tr σ H fun xs H1 => xs.length ≤ sizeLine ∧ NewO (.lst xs) H1 Q) : tLst tr σ H Q := k
theorem w_cb {r : List V → Hp → VK → Prop} {tr : TA} (k : tr σ H fun vs H1 => r vs H1 Q) : tCB r tr σ H Q := k
theorem w_call {sp : Sp} {E : XK} {tr : TA} (k : tr σ H fun vs H1 => sp vs H1 Q E) : tCall sp [] E tr σ H Q := by
  show tr σ H fun vs H1 => sp (vs ++ []) H1 Q E
  simp only [List.append_nil]
  exact k
theorem w_chain {r r' : R2} (k : ta σ H fun x H1 => tb σ H1 fun y H2 => r x y H2 fun z H3 => ∃ k, z = .bl k ∧ if k = true then tc σ H3 (fun w H4 => r' y w H4 Q) else Q (.bl false) H3) : tChain r r' ta tb tc σ H Q := k
theorem w_test {R : Bool → Hp → Prop} (k : te σ H fun x H' => ∃ b, x = .bl b ∧ R b H') : tTest te σ H R := k
theorem w_tB {R : Bool → Hp → Prop} (k : te σ H fun x H' => ∃ b, x = .bl b ∧ R b H') : tB te σ H R := k
theorem w_bl {b : Bool} {R : Bool → Prop} (k : R b) : ∃ c, V.bl b = .bl c ∧ R c := ⟨b, rfl, k⟩
theorem w_and {R : Bool → Hp → Prop} (k : tt σ H fun c H1 => if c = true then tu σ H1 R else R false H1) : tAnd tt tu σ H R := k
theorem w_or {R : Bool → Hp → Prop} (k : tt σ H fun c H1 => if c = true then R true H1 else tu σ H1 R) : tOr tt tu σ H R := k
theorem w_not {R : Bool → Hp → Prop} (k : tt σ H fun c H1 => R (!c) H1) : tNot tt σ H R := k
theorem w_andV (k : ta σ H fun x H1 => ∃ c, x = .bl c ∧ if c = true then tb σ H1 Q else Q (.bl false) H1) : tAndV ta tb σ H Q := k
theorem w_orV (k : ta σ H fun x H1 => ∃ c, x = .bl c ∧ if c = true then Q (.bl true) H1 else tb σ H1 Q) : tOrV ta tb σ H Q := k
theorem w_ifE (k : tt σ H fun c H1 => if c = true then ta σ H1 Q else tb σ H1 Q) : tIf tt ta tb σ H Q := k
theorem w_notV (k : ta σ H fun x H1 => ∃ c, x = .bl c ∧ Q (.bl (!c)) H1) : tNotV ta σ H Q := k

theorem w_nT {A B : Prop} (k : B) : if (!true) = true then A else B := k
theorem w_nF {A B : Prop} (k : A) : if (!false) = true then A else B := k
theorem w_decT {p A B : Prop} [Decidable p] (h : p) (k : A) : if decide p = true then A else B := by rw [decide_eq_true h]; exact iteT k
theorem w_decF {p A B : Prop} [Decidable p] (h : ¬ p) (k : B) : if decide p = true then A else B := by rw [decide_eq_false h]; exact iteF k
/-! ### operators, together -/
def rAddS : R2 := fun x y H Q => ∃ i j, x = .str i ∧ y = .str j ∧ i.length + j.length ≤ sizeLine ∧ Q (.str (i ++ j)) H
def rAddA (K : PySem.W.Frag) : R2 := fun x y H Q => rI0 (fun i j => .int (i + j)) x y H Q ∨ (rAddS x y H Q ∨ (rCat x y H Q ∨ rCatT K x y H Q))
theorem op_addA {X : Cx} {K : PySem.W.Frag} (hK : X.K = K) : OpR X (binaryOp .Add) (rAddA K) := by
  subst hK
  exact op_add.or (OpR.or (r := rAddS) op_add_str (op_cat.or op_catT))
theorem w_addI {m n : Int} (k : Q (.int (m + n)) H) : rAddA K (.int m) (.int n) H Q := .inl ⟨m, n, rfl, rfl, k⟩
theorem w_addS {a b : Str} (h : a.length + b.length ≤ sizeLine) (k : Q (.str (a ++ b)) H) : rAddA K (.str a) (.str b) H Q := .inr (.inl ⟨a, b, rfl, rfl, h, k⟩)
theorem w_addL {l b : Addr} {xs zs : List V} (h1 : H l = some (.lst xs)) (h2 : H b = some (.lst zs)) (h : xs.length + zs.length ≤ sizeLine) (k : NewO (.lst (xs ++ zs)) H Q) :
    rAddA K (.ref l) (.ref b) H Q := .inr (.inr (.inl ⟨l, b, xs, zs, rfl, rfl, h1, h2, h, k⟩))
def rMulA : R2 := fun x y H Q => rI CMul (fun i j => .int (i * j)) x y H Q ∨ rRep x y H Q
theorem op_mulA {X : Cx} : OpR X (binaryOp .Mult) rMulA := op_mul.or op_rep
theorem w_mulI {m n : Int} (c : CMul m n) (k : Q (.int (m * n)) H) : rMulA (.int m) (.int n) H Q := .inl ⟨m, n, rfl, rfl, c, k⟩
def rEqA (K : PySem.W.Frag) : R2 := fun x y H Q => rEq x y H Q ∨ rEqD K x y H Q
def rNeA (K : PySem.W.Frag) : R2 := fun x y H Q => rNe x y H Q ∨ rNeD K x y H Q
theorem op_eqA {X : Cx} {K : PySem.W.Frag} (hK : X.K = K) (hu : X.A.units + 64 < cLine) : OpR X (compareOp .Eq) (rEqA K) := by
  subst hK
  exact op_eq.or (op_eqD hu)
theorem op_neA {X : Cx} {K : PySem.W.Frag} (hK : X.K = K) (hu : X.A.units + 64 < cLine) : OpR X (compareOp .NotEq) (rNeA K) := by
  subst hK
  exact op_ne.or (op_neD hu)
theorem w_eqI {m n : Int} (k : Q (.bl (decide (m = n))) H) : rEqA K (.int m) (.int n) H Q := .inl ⟨rfl, by rw [show decide (V.int m = V.int n) = decide (m = n) by rw [dec_int]; rfl]; exact k⟩
theorem w_neI {m n : Int} (k : Q (.bl (!decide (m = n))) H) : rNeA K (.int m) (.int n) H Q := .inl ⟨rfl, by rw [show decide (V.int m = V.int n) = decide (m = n) by rw [dec_int]; rfl]; exact k⟩
theorem w_eqS {m n : Str} (k : Q (.bl (decide (m = n))) H) : rEqA K (.str m) (.str n) H Q := .inl ⟨rfl, by rw [dec_str]; exact k⟩
theorem w_neS {m n : Str} (k : Q (.bl (!decide (m = n))) H) : rNeA K (.str m) (.str n) H Q := .inl ⟨rfl, by rw [dec_str]; exact k⟩
theorem w_eqB {m n : Bool} (k : Q (.bl (m == n)) H) : rEqA K (.bl m) (.bl n) H Q := .inl ⟨rfl, by rw [dec_bl]; exact k⟩
theorem w_neB {m n : Bool} (k : Q (.bl (!(m == n))) H) : rNeA K (.bl m) (.bl n) H Q := .inl ⟨rfl, by rw [dec_bl]; exact k⟩
theorem w_eqD {d e : PyData} (hd : Dp K H x d) (he : Dp K H y e) (sd : SeqAt.shaped d = true) (se : SeqAt.shaped e = true) (k : Q (.bl (PyData.eqv d e)) H) : rEqA K x y H Q := .inr ⟨d, e, hd, he, sd, se, k⟩
theorem w_neD {d e : PyData} (hd : Dp K H x d) (he : Dp K H y e) (sd : SeqAt.shaped d = true) (se : SeqAt.shaped e = true) (k : Q (.bl (!PyData.eqv d e)) H) : rNeA K x y H Q := .inr ⟨d, e, hd, he, sd, se, k⟩
/-- in, of texts and of things in a list or a tuple -/
def rInStr (neg : Bool) : R2 := fun x y H Q => ∃ i j, x = .str i ∧ y = .str j ∧ Q (.bl (if neg then !(!(Builtin.Str.occurrences j i 0 j.length 1).isEmpty) else !(Builtin.Str.occurrences j i 0 j.length 1).isEmpty)) H
def rInA (K : PySem.W.Frag) (neg : Bool) : R2 := fun x y H Q => rIn K neg x y H Q ∨ rInStr neg x y H Q
theorem op_inA {X : Cx} {K : PySem.W.Frag} (hK : X.K = K) : OpR X (compareOp .In) (rInA K false) := by
  subst hK
  exact op_in_seq.or (fun pins s σ H x y v u Q I rx ry h => op_in_str pins s σ H x y v u Q I rx ry h)
theorem op_notInA {X : Cx} {K : PySem.W.Frag} (hK : X.K = K) : OpR X (compareOp .NotIn) (rInA K true) := by
  subst hK
  exact op_notIn_seq.or (fun pins s σ H x y v u Q I rx ry h => op_notIn_str pins s σ H x y v u Q I rx ry h)
theorem w_inL {p : Addr} {xs : List V} (h : SqL K H p xs) (hx : flatV x = true) (ha : xs.all flatV = true) (k : Q (.bl (inV x xs)) H) : rInA K false x (.ref p) H Q := .inl ⟨p, xs, rfl, .inl h, hx, ha, k⟩
theorem w_inT {p : Addr} {xs : List V} (h : SqT K H p xs) (hx : flatV x = true) (ha : xs.all flatV = true) (k : Q (.bl (inV x xs)) H) : rInA K false x (.ref p) H Q := .inl ⟨p, xs, rfl, .inr h, hx, ha, k⟩
theorem w_niL {p : Addr} {xs : List V} (h : SqL K H p xs) (hx : flatV x = true) (ha : xs.all flatV = true) (k : Q (.bl (!inV x xs)) H) : rInA K true x (.ref p) H Q := .inl ⟨p, xs, rfl, .inl h, hx, ha, k⟩
theorem w_niT {p : Addr} {xs : List V} (h : SqT K H p xs) (hx : flatV x = true) (ha : xs.all flatV = true) (k : Q (.bl (!inV x xs)) H) : rInA K true x (.ref p) H Q := .inl ⟨p, xs, rfl, .inr h, hx, ha, k⟩
/-- subscripts -/
theorem ix_any {X : Cx} {K : PySem.W.Frag} (hK : X.K = K) : IxR X (rIx K) := by
  subst hK
  exact ix_seq
theorem w_ixL {p : Addr} {xs : List V} {n : Int} (h : SqL K H p xs) (ha : atI xs n = some v) (k : Q v H) : rIx K (.ref p) (.int n) H Q := .inl ⟨p, xs, n, v, rfl, rfl, h, ha, k⟩
theorem w_ixT {p : Addr} {xs : List V} {n : Int} (h : SqT K H p xs) (ha : atI xs n = some v) (k : Q v H) : rIx K (.ref p) (.int n) H Q := .inr (.inl ⟨p, xs, n, v, rfl, rfl, h, ha, k⟩)
theorem w_ixS {a : Str} {c : Nat} {n : Int} (h : a.length ≤ sizeLine) (ha : atI a.cps.toList n = some c) (k : Q (.str ⟨#[c]⟩) H) : rIx K (.str a) (.int n) H Q := .inr (.inr ⟨a, n, c, rfl, rfl, h, ha, k⟩)
/-! slices -/
def rSlAny (K : PySem.W.Frag) : V → Option Int → Option Int → Hp → VK → Prop := fun x lo hi H Q => rSlL K x lo hi H Q ∨ (rSlS x lo hi H Q ∨ rSlA K x lo hi H Q)
/-- calls -/
def rInt1 : List V → Hp → VK → Prop := fun xs H Q => (∃ i, xs = [.int i] ∧ Q (.int i) H) ∨ ∃ k, xs = [.bl k] ∧ Q (.int (if k then 1 else 0)) H
theorem call_int1A {X : Cx} : CallR X (.type "int") rInt1 := call_int1
theorem w_int1 {n : Int} (k : Q (.int n) H) : rInt1 [.int n] H Q := .inl ⟨n, rfl, k⟩
theorem w_int1b {b : Bool} (k : Q (.int (if b then 1 else 0)) H) : rInt1 [.bl b] H Q := .inr ⟨b, rfl, k⟩
def rLenA (K : PySem.W.Frag) : List V → Hp → VK → Prop := fun xs H Q => ∃ x n, xs = [x] ∧ LenV K x H n ∧ Q (.int n) H
theorem call_lenA {X : Cx} {K : PySem.W.Frag} (hK : X.K = K) : CallR X (.builtin "len") (rLenA K) := by
  subst hK
  exact call_len
theorem w_lenL {p : Addr} {xs : List V} (h : SqL K H p xs) (k : Q (.int xs.length) H) : rLenA K [.ref p] H Q := ⟨_, _, rfl, .inl ⟨xs, h, rfl⟩, k⟩
theorem w_lenT {p : Addr} {xs : List V} (h : SqT K H p xs) (k : Q (.int xs.length) H) : rLenA K [.ref p] H Q := ⟨_, _, rfl, .inr ⟨xs, h, rfl⟩, k⟩
theorem w_lenS {a : Str} (h : a.length ≤ sizeLine) (k : Q (.int a.length) H) : rLenA K [.str a] H Q := ⟨_, _, rfl, ⟨h, rfl⟩, k⟩
def rAbsA : List V → Hp → VK → Prop := fun xs H Q => ∃ i, xs = [.int i] ∧ Q (.int (if i < 0 then -i else i)) H
theorem call_absA {X : Cx} : CallR X (.builtin "abs") rAbsA := call_abs
def rMax2 : List V → Hp → VK → Prop := fun xs H Q => ∃ i j, xs = [.int i, .int j] ∧ Q (.int (if j > i then j else i)) H
def rMin2 : List V → Hp → VK → Prop := fun xs H Q => ∃ i j, xs = [.int i, .int j] ∧ Q (.int (if j < i then j else i)) H
theorem call_max2A {X : Cx} (hc : X.calm = true) : CallR X (.builtin "max") rMax2 := call_max2 hc
theorem call_min2A {X : Cx} (hc : X.calm = true) : CallR X (.builtin "min") rMin2 := call_min2 hc
theorem max_if (i j : Int) : (if j > i then j else i) = max i j := by split <;> omega
theorem min_if (i j : Int) : (if j < i then j else i) = min i j := by split <;> omega
theorem w_max2 {i j : Int} (k : Q (.int (max i j)) H) : rMax2 [.int i, .int j] H Q := ⟨i, j, rfl, by rw [max_if]; exact k⟩
theorem w_min2 {i j : Int} (k : Q (.int (min i j)) H) : rMin2 [.int i, .int j] H Q := ⟨i, j, rfl, by rw [min_if]; exact k⟩
def rBool1 : List V → Hp → VK → Prop := fun xs H Q => (∃ i, xs = [.int i] ∧ Q (.bl (i != 0)) H) ∨ ∃ k, xs = [.bl k] ∧ Q (.bl k) H
theorem call_bool1A {X : Cx} : CallR X (.type "bool") rBool1 := call_bool1
def rStrI : List V → Hp → VK → Prop := fun xs H Q => ∃ i, xs = [.int i] ∧ i.natAbs.log2 < 1920 ∧ Q (.str (toString i)) H
theorem call_strA {X : Cx} : CallR X (.type "str") rStrI := call_str_int
theorem w_strI {n : Int} (h : n.natAbs.log2 < 1920) (k : Q (.str (toString n)) H) : rStrI [.int n] H Q := ⟨n, rfl, h, k⟩
theorem w_size {xs : List V} {R : Prop} (h : xs.length ≤ sizeLine) (k : R) : xs.length ≤ sizeLine ∧ R := ⟨h, k⟩
/-- stores by place -/
theorem w_gSub {to ti : TE} {ts : TSet} {R : L2.St → Hp → Prop} (k : to σ H fun o H1 => ti σ H1 fun i H2 => ts o i v H2 fun H3 => R σ H3) : gSub to ti ts v σ H R := k
theorem w_setL {l : Addr} {xs : List V} {n : Int} {j : Nat} {R : Hp → Prop} (h : H l = some (.lst xs)) (hj : ixN xs.length n = some j) (k : ChgO l (.lst (xs.set j v)) H R) : rSetL (.ref l) (.int n) v H R := ⟨l, xs, n, j, rfl, rfl, h, hj, k⟩
/-- methods of lists -/
theorem w_bm {T : String} {r : V → List V → Hp → VK → Prop} {tr : TA} (k : ta σ H fun x H1 => tyV K T x H1 ∧ tr σ H1 fun xs H2 => r x xs H2 Q) : tBM K T r ta tr σ H Q := k
theorem w_bm0 {T : String} {r : V → List V → Hp → VK → Prop} (k : ta σ H fun x H1 => tyV K T x H1 ∧ r x [] H1 Q) : tBM0 K T r ta σ H Q := k
theorem w_tyL {p : Addr} {xs : List V} {R : Prop} (h : SqL K H p xs) (k : R) : tyV K "list" (.ref p) H ∧ R := ⟨.inl ⟨rfl, xs, h⟩, k⟩
theorem w_tyS {a : Str} {R : Prop} (k : R) : tyV K "str" (.str a) H ∧ R := ⟨rfl, k⟩
theorem w_append {l : Addr} {xs : List V} (h : H l = some (.lst xs)) (hz : xs.length < sizeLine) (k : ChgO l (.lst (xs ++ [v])) H (Q .non)) : rAppend (.ref l) [v] H Q := ⟨l, xs, v, rfl, rfl, h, hz, k⟩
theorem w_clear {l : Addr} {xs : List V} (h : H l = some (.lst xs)) (k : ChgO l (.lst []) H (Q .non)) : rClear (.ref l) [] H Q := ⟨l, xs, rfl, rfl, h, k⟩
end

/-! ### loops -/
section
variable {K : PySem.W.Frag} {σ : L2.St} {H : Hp} {a D : Addr} {xs : List V} {g : TG} {tb : TS} {nx : L2.St → Hp → Prop} {rt : VK} {bk ct : L2.St → Hp → Prop} {tl te : TE} {ta : TA} {tt : TT} {Q : VK} {vs : List Nat} {j : Nat}
def WFor (J : It) (g : TG) (tb : TS) (nx : L2.St → Hp → Prop) (rt : VK) (σ : L2.St) (H : Hp) : Prop := ∃ W : Nat → Nat → L2.St → Hp → Prop, (∃ m, W 0 m σ H) ∧ ∀ i m σ H, W i m σ H →
  (J.stop i H ∧ nx σ H) ∨ (J.go i H ∧ ∃ N : L2.St → Hp → Prop, (∀ σ' H', N σ' H' → ∃ m', m' < m ∧ W (i + 1) m' σ' H') ∧ ∀ x H', J.yld i H x H' → g x σ H' fun σ2 H2 => tb ⟨N, rt, nx, N⟩ σ2 H2)
theorem w_forL (k : tl σ H fun x H1 => ∃ a, x = .ref a ∧ (∃ xs, SqL K H1 a xs) ∧ WFor (Itl K a) g tb nx rt σ H1) : tFor (iList K tl) g tb ⟨nx, rt, bk, ct⟩ σ H := k
theorem w_forT (k : tl σ H fun x H1 => ∃ a, x = .ref a ∧ (∃ xs, SqT K H1 a xs) ∧ WFor (Itt K a) g tb nx rt σ H1) : tFor (iTup K tl) g tb ⟨nx, rt, bk, ct⟩ σ H := k
theorem w_forR1 (k : ta σ H fun vs H1 => ∃ j : Int, vs = [.int j] ∧ -(2 ^ 62) ≤ j ∧ j < 2 ^ 62 ∧ WFor (Itr 0 j.toNat) g tb nx rt σ H1) : tFor (iRng1 ta) g tb ⟨nx, rt, bk, ct⟩ σ H := k
theorem w_forR2 (k : ta σ H fun vs H1 => ∃ i j : Int, vs = [.int i, .int j] ∧ (-(2 ^ 62) ≤ i ∧ i < 2 ^ 62 ∧ -(2 ^ 62) ≤ j ∧ j < 2 ^ 62) ∧ WFor (Itr i (j - i).toNat) g tb nx rt σ H1) : tFor (iRng2 ta) g tb ⟨nx, rt, bk, ct⟩ σ H := k
/-- over a list that stands: the word by the turn, the slots, the heap -/
theorem fl_list (xs : List V) (Pv : Nat → L2.St → Hp → Prop) (hS : SqL K H a xs) (h0 : Pv 0 σ H) (hl : ∀ i σ H, i ≤ xs.length → Pv i σ H → SqL K H a xs)
    (hs : ∀ i x σ H, xs[i]? = some x → Pv i σ H → g x σ H fun σ2 H2 => tb ⟨Pv (i + 1), rt, nx, Pv (i + 1)⟩ σ2 H2) (hd : ∀ σ H, Pv xs.length σ H → nx σ H) :
    ∃ b, V.ref a = .ref b ∧ (∃ xs, SqL K H b xs) ∧ WFor (Itl K b) g tb nx rt σ H := ⟨a, rfl, ⟨xs, hS⟩, for_list (D := ⟨nx, rt, fun _ _ => False, fun _ _ => False⟩) Pv h0 hl hs hd⟩
theorem fl_tup (xs : List V) (Pv : Nat → L2.St → Hp → Prop) (hS : SqT K H a xs) (h0 : Pv 0 σ H) (hl : ∀ i σ H, i ≤ xs.length → Pv i σ H → SqT K H a xs)
    (hs : ∀ i x σ H, xs[i]? = some x → Pv i σ H → g x σ H fun σ2 H2 => tb ⟨Pv (i + 1), rt, nx, Pv (i + 1)⟩ σ2 H2) (hd : ∀ σ H, Pv xs.length σ H → nx σ H) :
    ∃ b, V.ref a = .ref b ∧ (∃ xs, SqT K H b xs) ∧ WFor (Itt K b) g tb nx rt σ H := ⟨a, rfl, ⟨xs, hS⟩, for_tup (D := ⟨nx, rt, fun _ _ => False, fun _ _ => False⟩) Pv h0 hl hs hd⟩
theorem fl_rng1 {n : Int} (Pv : Nat → L2.St → Hp → Prop) (hb : n < 2 ^ 62) (hb0 : -(2 ^ 62) ≤ n) (h0 : Pv 0 σ H)
    (hs : ∀ i σ H, i < n.toNat → Pv i σ H → g (.int (i : Int)) σ H fun σ2 H2 => tb ⟨Pv (i + 1), rt, nx, Pv (i + 1)⟩ σ2 H2) (hd : ∀ σ H, Pv n.toNat σ H → nx σ H) :
    ∃ j : Int, [V.int n] = [.int j] ∧ -(2 ^ 62) ≤ j ∧ j < 2 ^ 62 ∧ WFor (Itr 0 j.toNat) g tb nx rt σ H := by
  refine ⟨n, rfl, hb0, hb, for_range (D := ⟨nx, rt, fun _ _ => False, fun _ _ => False⟩) Pv h0 (fun i σ H hi p => ?_) hd⟩
  rw [Int.zero_add]
  exact hs i σ H hi p
theorem fl_rng2 {m n : Int} (Pv : Nat → L2.St → Hp → Prop) (hb : -(2 ^ 62) ≤ m ∧ m < 2 ^ 62 ∧ -(2 ^ 62) ≤ n ∧ n < 2 ^ 62) (h0 : Pv 0 σ H)
    (hs : ∀ i σ H, i < (n - m).toNat → Pv i σ H → g (.int (m + (i : Int))) σ H fun σ2 H2 => tb ⟨Pv (i + 1), rt, nx, Pv (i + 1)⟩ σ2 H2) (hd : ∀ σ H, Pv (n - m).toNat σ H → nx σ H) :
    ∃ i j : Int, [V.int m, V.int n] = [.int i, .int j] ∧ (-(2 ^ 62) ≤ i ∧ i < 2 ^ 62 ∧ -(2 ^ 62) ≤ j ∧ j < 2 ^ 62) ∧ WFor (Itr i (j - i).toNat) g tb nx rt σ H :=
  ⟨m, n, rfl, hb, for_range (D := ⟨nx, rt, fun _ _ => False, fun _ _ => False⟩) Pv h0 hs hd⟩
/-- over a short list, turn by turn -/
def runL (K : PySem.W.Frag) (a : Addr) (all : List V) (g : TG) (tb : TS) (nx : L2.St → Hp → Prop) (rt : VK) : List V → L2.St → Hp → Prop
  | [], σ, H => nx σ H
  | x :: r, σ, H => g x σ H fun σ2 H2 => tb ⟨fun σ' H' => SqL K H' a all ∧ runL K a all g tb nx rt r σ' H', rt, nx, fun σ' H' => SqL K H' a all ∧ runL K a all g tb nx rt r σ' H'⟩ σ2 H2
theorem fl_run (xs : List V) (hS : SqL K H a xs) (k : runL K a xs g tb nx rt xs σ H) : ∃ b, V.ref a = .ref b ∧ (∃ xs, SqL K H b xs) ∧ WFor (Itl K b) g tb nx rt σ H := by
  refine fl_list xs (fun i σ H => SqL K H a xs ∧ runL K a xs g tb nx rt (xs.drop i) σ H) hS ⟨hS, by rw [List.drop_zero]; exact k⟩ (fun _ _ _ _ h => h.1) (fun i x σ H hi h => ?_) (fun σ H h => ?_)
  · have e : xs.drop i = x :: xs.drop (i + 1) := by
      obtain ⟨hl, rfl⟩ := List.getElem?_eq_some_iff.mp hi
      exact List.drop_eq_getElem_cons hl
    have h2 := h.2
    rw [e] at h2
    exact h2
  · have h2 := h.2
    rw [List.drop_length] at h2
    exact h2
theorem w_runN (k : nx σ H) : runL K a xs g tb nx rt [] σ H := k
theorem w_runC {x : V} {r : List V} (k : g x σ H fun σ2 H2 => tb ⟨fun σ' H' => SqL K H' a xs ∧ runL K a xs g tb nx rt r σ' H', rt, nx, fun σ' H' => SqL K H' a xs ∧ runL K a xs g tb nx rt r σ' H'⟩ σ2 H2) :
    runL K a xs g tb nx rt (x :: r) σ H := k
/-- the first of two, by what stands -/
theorem w_both {A B : Prop} (h : A) (k : B) : A ∧ B := ⟨h, k⟩
/-! comprehensions -/
def WLc (J : It) (g : TG) (tt : TT) (te : TE) (vs : List Nat) (σ : L2.St) (D : Addr) (H1 : Hp) (Q : VK) : Prop := ∃ W : Nat → Nat → Hp → Prop, (∃ m, W 0 m (upd H1 D (.lst []))) ∧ ∀ i m H, W i m H →
  (J.stop i H ∧ Q (.ref D) H) ∨ (J.go i H ∧ ∃ Nx : Hp → Prop, (∀ H', Nx H' → ∃ m', m' < m ∧ W (i + 1) m' H') ∧ ∀ x H', J.yld i H x H' → g x (wipe σ vs) H' fun σ2 H2 => wipe σ2 vs = wipe σ vs ∧ tt σ2 H2 fun b H3 =>
    if b = true then te σ2 H3 fun y H4 => ∃ acc, H4 D = some (.lst acc) ∧ acc.length < sizeLine ∧ Nx (upd H4 D (.lst (acc ++ [y]))) else Nx H3)
theorem w_lcL (k : tl σ H fun x H1 => ∃ a, x = .ref a ∧ (∃ xs, SqL K H1 a xs) ∧ ∀ D, H1 D = none → WLc (Itl K a) g tt te vs σ D H1 Q) : tLc (iList K tl) g tt te vs σ H Q := k
theorem w_lcT (k : tl σ H fun x H1 => ∃ a, x = .ref a ∧ (∃ xs, SqT K H1 a xs) ∧ ∀ D, H1 D = none → WLc (Itt K a) g tt te vs σ D H1 Q) : tLc (iTup K tl) g tt te vs σ H Q := k
theorem w_lcR1 (k : ta σ H fun us H1 => ∃ j : Int, us = [.int j] ∧ -(2 ^ 62) ≤ j ∧ j < 2 ^ 62 ∧ ∀ D, H1 D = none → WLc (Itr 0 j.toNat) g tt te vs σ D H1 Q) : tLc (iRng1 ta) g tt te vs σ H Q := k
theorem wipe1 (σ : L2.St) (j : Nat) (x : Option V) : wipe ((wipe σ [j]).set j x) [j] = wipe σ [j] := by
  show (((σ.set j none).set j x).set j none) = σ.set j none
  rw [List.set_set, List.set_set]
def LcEnd (D : Addr) (Pv : Nat → List V → Hp → Prop) (i : Nat) (y : V) (H4 : Hp) : Prop := ∃ acc, H4 D = some (.lst acc) ∧ acc.length < sizeLine ∧
  ∃ ys, ys.length ≤ i + 1 ∧ upd H4 D (.lst (acc ++ [y])) D = some (.lst ys) ∧ Pv (i + 1) ys (upd H4 D (.lst (acc ++ [y])))
theorem lc_end {D : Addr} {Pv : Nat → List V → Hp → Prop} {i : Nat} {y : V} {H4 : Hp} {ys : List V} (h : H4 D = some (.lst ys)) (hl : ys.length ≤ i) (hz : ys.length < sizeLine) (k : ∀ H', But D H4 H' → H' D = some (.lst (ys ++ [y])) → Pv (i + 1) (ys ++ [y]) H') : LcEnd D Pv i y H4 :=
  ⟨ys, h, hz, ys ++ [y], by rw [List.length_append]; exact Nat.succ_le_succ hl, upd_same, k _ (But.upd _ _ _) upd_same⟩
def LcSkip (D : Addr) (Pv : Nat → List V → Hp → Prop) (i : Nat) (H4 : Hp) : Prop := ∃ ys, ys.length ≤ i + 1 ∧ H4 D = some (.lst ys) ∧ Pv (i + 1) ys H4
theorem lc_skip {D : Addr} {Pv : Nat → List V → Hp → Prop} {i : Nat} {H4 : Hp} {ys : List V} (h : H4 D = some (.lst ys)) (hl : ys.length ≤ i) (k : Pv (i + 1) ys H4) : LcSkip D Pv i H4 := ⟨ys, Nat.le_succ_of_le hl, h, k⟩
/-- over a list: the word by the turn, the list so far, the heap; any test -/
theorem lc_L (xs : List V) (Pv : Addr → Nat → List V → Hp → Prop) (hS : SqL K H a xs) (h0 : ∀ D H', H D = none → Same H H' → H' D = some (.lst []) → Pv D 0 [] H')
    (hl : ∀ D, H D = none → ∀ i ys H', i ≤ xs.length → H' D = some (.lst ys) → Pv D i ys H' → SqL K H' a xs)
    (hs : ∀ D, H D = none → ∀ i x ys H', xs[i]? = some x → ys.length ≤ i → H' D = some (.lst ys) → Pv D i ys H' → tt ((wipe σ [j]).set j (some x)) H' fun b H3 => if b = true then te ((wipe σ [j]).set j (some x)) H3 fun y H4 => LcEnd D (Pv D) i y H4 else LcSkip D (Pv D) i H3)
    (hd : ∀ D, H D = none → ∀ ys H', ys.length ≤ xs.length → H' D = some (.lst ys) → Pv D xs.length ys H' → Q (.ref D) H') :
    ∃ b, V.ref a = .ref b ∧ (∃ xs, SqL K H b xs) ∧ ∀ D, H D = none → WLc (Itl K b) (gName j) tt te [j] σ D H Q :=
  ⟨a, rfl, ⟨xs, hS⟩, fun D hD => lc_list (xs := xs) (fun i H' => ∃ ys, ys.length ≤ i ∧ H' D = some (.lst ys) ∧ Pv D i ys H') ⟨[], Nat.le_refl _, upd_same, h0 D _ hD (Same.one hD) upd_same⟩ (fun i H' hi ⟨ys, _, e, p⟩ => hl D hD i ys H' hi e p)
    (fun i x H' hi ⟨ys, e, e2, p⟩ => ⟨wipe1 _ _ _, hs D hD i x ys H' hi e e2 p⟩) (fun H' ⟨ys, e, e2, p⟩ => hd D hD ys H' e e2 p)⟩
theorem lc_T (xs : List V) (Pv : Addr → Nat → List V → Hp → Prop) (hS : SqT K H a xs) (h0 : ∀ D H', H D = none → Same H H' → H' D = some (.lst []) → Pv D 0 [] H')
    (hl : ∀ D, H D = none → ∀ i ys H', i ≤ xs.length → H' D = some (.lst ys) → Pv D i ys H' → SqT K H' a xs)
    (hs : ∀ D, H D = none → ∀ i x ys H', xs[i]? = some x → ys.length ≤ i → H' D = some (.lst ys) → Pv D i ys H' → tt ((wipe σ [j]).set j (some x)) H' fun b H3 => if b = true then te ((wipe σ [j]).set j (some x)) H3 fun y H4 => LcEnd D (Pv D) i y H4 else LcSkip D (Pv D) i H3)
    (hd : ∀ D, H D = none → ∀ ys H', ys.length ≤ xs.length → H' D = some (.lst ys) → Pv D xs.length ys H' → Q (.ref D) H') :
    ∃ b, V.ref a = .ref b ∧ (∃ xs, SqT K H b xs) ∧ ∀ D, H D = none → WLc (Itt K b) (gName j) tt te [j] σ D H Q :=
  ⟨a, rfl, ⟨xs, hS⟩, fun D hD => lc_tup (xs := xs) (fun i H' => ∃ ys, ys.length ≤ i ∧ H' D = some (.lst ys) ∧ Pv D i ys H') ⟨[], Nat.le_refl _, upd_same, h0 D _ hD (Same.one hD) upd_same⟩ (fun i H' hi ⟨ys, _, e, p⟩ => hl D hD i ys H' hi e p)
    (fun i x H' hi ⟨ys, e, e2, p⟩ => ⟨wipe1 _ _ _, hs D hD i x ys H' hi e e2 p⟩) (fun H' ⟨ys, e, e2, p⟩ => hd D hD ys H' e e2 p)⟩
theorem lc_R1 {n : Int} (Pv : Addr → Nat → List V → Hp → Prop) (hb0 : -(2 ^ 62) ≤ n) (hb : n < 2 ^ 62) (h0 : ∀ D H', H D = none → Same H H' → H' D = some (.lst []) → Pv D 0 [] H')
    (hs : ∀ D, H D = none → ∀ (i : Nat) ys H', i < n.toNat → ys.length ≤ i → H' D = some (.lst ys) → Pv D i ys H' → tt ((wipe σ [j]).set j (some (.int (i : Int)))) H' fun b H3 => if b = true then te ((wipe σ [j]).set j (some (.int (i : Int)))) H3 fun y H4 => LcEnd D (Pv D) i y H4 else LcSkip D (Pv D) i H3)
    (hd : ∀ D, H D = none → ∀ ys H', ys.length ≤ n.toNat → H' D = some (.lst ys) → Pv D n.toNat ys H' → Q (.ref D) H') :
    ∃ m : Int, [V.int n] = [.int m] ∧ -(2 ^ 62) ≤ m ∧ m < 2 ^ 62 ∧ ∀ D, H D = none → WLc (Itr 0 m.toNat) (gName j) tt te [j] σ D H Q :=
  ⟨n, rfl, hb0, hb, fun D hD => lc_range (lo := 0) (n := n.toNat) (fun i H' => ∃ ys, ys.length ≤ i ∧ H' D = some (.lst ys) ∧ Pv D i ys H') ⟨[], Nat.le_refl _, upd_same, h0 D _ hD (Same.one hD) upd_same⟩
    (fun i H' hi ⟨ys, e, e2, p⟩ => by
      rw [Int.zero_add]
      exact ⟨wipe1 _ _ _, hs D hD i ys H' hi e e2 p⟩) (fun H' ⟨ys, e, e2, p⟩ => hd D hD ys H' e e2 p)⟩
theorem w_yes {R : Bool → Hp → Prop} (k : R true H) : tYes σ H R := k
end

/-! ### data -/
mutual
/-- data of None, ints, texts, lists, tuples, not too deep: what == tells of it is whether it is the same -/
def clean : PyData → Bool
  | .none => true
  | .int _ => true
  | .str x => PyData.strOk x
  | .list xs => cleanAll xs
  | .tuple xs => cleanAll xs
  | .bool _ => false
  | .dict _ => false
def cleanAll : List PyData → Bool
  | [] => true
  | x :: xs => clean x && cleanAll xs
end
mutual
theorem clean_lay : ∀ d : PyData, clean d = true → d.canLay0 = true
  | .none, _ => by rw [PyData.canLay0]
  | .int _, _ => by rw [PyData.canLay0]
  | .str x, h => by rw [PyData.canLay0]; rw [clean] at h; exact h
  | .list xs, h => by rw [PyData.canLay0]; rw [clean] at h; exact cleanAll_lay xs h
  | .tuple xs, h => by rw [PyData.canLay0]; rw [clean] at h; exact cleanAll_lay xs h
  | .bool _, h => by rw [clean] at h; cases h
  | .dict _, h => by rw [clean] at h; cases h
theorem cleanAll_lay : ∀ ds : List PyData, cleanAll ds = true → PyData.canLayAll0 ds = true
  | [], _ => by rw [PyData.canLayAll0]
  | x :: xs, h => by
    rw [cleanAll, Bool.and_eq_true] at h
    rw [PyData.canLayAll0, clean_lay x h.1, cleanAll_lay xs h.2]; rfl
end
mutual
theorem clean_eqv : ∀ d e : PyData, clean d = true → clean e = true → (PyData.eqv d e = true ↔ d = e)
  | .none, e, _, _ => by cases e <;> simp [PyData.eqv]
  | .int i, e, _, he => by cases e <;> simp [PyData.eqv]; simp [clean] at he
  | .str x, e, _, _ => by cases e <;> simp [PyData.eqv]
  | .list xs, e, h, he => by
    cases e <;> simp [PyData.eqv]
    simp only [clean] at h he
    exact cleanAll_eqv xs _ h he
  | .tuple xs, e, h, he => by
    cases e <;> simp [PyData.eqv]
    simp only [clean] at h he
    exact cleanAll_eqv xs _ h he
  | .bool _, _, h, _ => by simp [clean] at h
  | .dict _, _, h, _ => by simp [clean] at h
theorem cleanAll_eqv : ∀ ds es : List PyData, cleanAll ds = true → cleanAll es = true → (PyData.eqvAll ds es = true ↔ ds = es)
  | [], es, _, _ => by cases es <;> simp [PyData.eqvAll]
  | x :: xs, [], _, _ => by simp [PyData.eqvAll]
  | x :: xs, y :: ys, h, he => by
    simp only [cleanAll, Bool.and_eq_true] at h he
    simp only [PyData.eqvAll, Bool.and_eq_true, clean_eqv x y h.1 he.1, cleanAll_eqv xs ys h.2 he.2, List.cons.injEq]
end
/-- to be compared by == -/
structure Cmp (d : PyData) : Prop where
  clean : clean d = true
  depth : d.depth ≤ 64
theorem Cmp.shaped {d : PyData} (c : Cmp d) : SeqAt.shaped d = true := by
  unfold SeqAt.shaped
  rw [clean_lay d c.clean, Bool.true_and, decide_eq_true_eq]
  exact c.depth
theorem eqv_iff {d e : PyData} (c : Cmp d) (c' : Cmp e) : PyData.eqv d e = true ↔ d = e := clean_eqv d e c.clean c'.clean
open Classical in
theorem w_eqP {K : PySem.W.Frag} {H : Hp} {x y : V} {Q : VK} {d e : PyData} (hd : Dp K H x d) (he : Dp K H y e) (cd : Cmp d) (ce : Cmp e) (k : ∀ b : Bool, (b = true ↔ d = e) → Q (.bl b) H) : rEqA K x y H Q :=
  w_eqD hd he cd.shaped ce.shaped (k _ (eqv_iff cd ce))
theorem w_neP {K : PySem.W.Frag} {H : Hp} {x y : V} {Q : VK} {d e : PyData} (hd : Dp K H x d) (he : Dp K H y e) (cd : Cmp d) (ce : Cmp e) (k : ∀ b : Bool, (b = true ↔ d ≠ e) → Q (.bl b) H) : rNeA K x y H Q :=
  w_neD hd he cd.shaped ce.shaped (k _ (by
    have h := eqv_iff cd ce
    cases hb : PyData.eqv d e <;> rw [hb] at h <;> simp at h ⊢ <;> exact h))
theorem dpAll_ints {K : PySem.W.Frag} {H : Hp} : ∀ ns : List Int, DpAll K H (ns.map V.int) (ns.map PyData.int)
  | [] => .nil
  | n :: ns => .cons (.int n) (dpAll_ints ns)
theorem dp_ints {K : PySem.W.Frag} {H : Hp} {a : Addr} {ns : List Int} (h : SqL K H a (ns.map V.int)) : Dp K H (.ref a) (.list (ns.map PyData.int)) := .lst h (dpAll_ints ns)
theorem cleanAll_ints : ∀ ns : List Int, cleanAll (ns.map PyData.int) = true
  | [] => by simp [cleanAll]
  | n :: ns => by rw [List.map_cons, cleanAll, cleanAll_ints ns, clean]; rfl
theorem depthAll_ints : ∀ ns : List Int, PyData.depthAll (ns.map PyData.int) = 0
  | [] => by simp [PyData.depthAll]
  | n :: ns => by rw [List.map_cons, PyData.depthAll, depthAll_ints ns, PyData.depth]; rfl
theorem cmp_ints (ns : List Int) : Cmp (.list (ns.map PyData.int)) := ⟨by rw [clean]; exact cleanAll_ints ns, by rw [PyData.depth, depthAll_ints]; decide⟩
theorem map_int_inj {ns ms : List Int} : PyData.list (ns.map PyData.int) = .list (ms.map PyData.int) ↔ ns = ms := by
  constructor
  · intro h
    have h2 : ns.map PyData.int = ms.map PyData.int := by injection h
    exact (List.map_inj_right (f := PyData.int) (fun x y e => by injection e)).mp h2
  · intro h; rw [h]
theorem w_eqIL {K : PySem.W.Frag} {H : Hp} {p q : Addr} {Q : VK} {ns ms : List Int} (h1 : SqL K H p (ns.map V.int)) (h2 : SqL K H q (ms.map V.int)) (k : Q (.bl (decide (ns = ms))) H) : rEqA K (.ref p) (.ref q) H Q :=
  w_eqP (dp_ints h1) (dp_ints h2) (cmp_ints _) (cmp_ints _) fun b hb => by
    rw [map_int_inj] at hb
    rw [show b = decide (ns = ms) by rw [Bool.eq_iff_iff, hb, decide_eq_true_eq]]
    exact k
theorem w_neIL {K : PySem.W.Frag} {H : Hp} {p q : Addr} {Q : VK} {ns ms : List Int} (h1 : SqL K H p (ns.map V.int)) (h2 : SqL K H q (ms.map V.int)) (k : Q (.bl (!decide (ns = ms))) H) : rNeA K (.ref p) (.ref q) H Q :=
  w_neP (dp_ints h1) (dp_ints h2) (cmp_ints _) (cmp_ints _) fun b hb => by
    rw [ne_eq, map_int_inj] at hb
    rw [show b = !decide (ns = ms) by rw [Bool.eq_iff_iff, hb]; simp]
    exact k
/-! slices -/
section
variable {K : PySem.W.Frag} {σ : L2.St} {H : Hp} {te : TE} {tl th : TO} {Q : VK} {a : Addr} {xs : List V} {lo hi : Option Int}
theorem sl_any {X : Cx} {K : PySem.W.Frag} (hK : X.K = K) : SlR X (rSlAny K) := by
  subst hK
  exact sl_list.or (sl_str.or sl_tupA)
theorem w_sl {r : V → Option Int → Option Int → Hp → VK → Prop} (k : te σ H fun x H1 => tl σ H1 fun l H2 => th σ H2 fun u H3 => r x l u H3 Q) : tSl r te tl th σ H Q := k
theorem w_noPart {R : Option Int → Hp → Prop} (k : R none H) : tNoPart σ H R := k
theorem w_part {R : Option Int → Hp → Prop} (k : te σ H fun x H1 => ∃ i, x = .int i ∧ R (some i) H1) : tPart te σ H R := k
theorem w_int {R : Int → Prop} {n : Int} (k : R n) : ∃ i, V.int n = .int i ∧ R i := ⟨n, rfl, k⟩
theorem w_slL (h : SqL K H a xs) (k : NewO (.lst (cutV xs lo hi)) H Q) : rSlAny K (.ref a) lo hi H Q := .inl ⟨a, xs, rfl, h, k⟩
theorem w_slS {z : Str} (h : z.length ≤ sizeLine) (k : Q (.str (cutS z lo hi)) H) : rSlAny K (.str z) lo hi H Q := .inr (.inl ⟨z, rfl, h, k⟩)
theorem w_rep {l : Addr} {n : Int} (h : H l = some (.lst xs)) (h0 : -(2 ^ 63) ≤ n) (h1 : n < 2 ^ 63) (hz : xs.length * n.toNat ≤ sizeLine) (k : NewO (.lst (List.replicate n.toNat xs).flatten) H Q) : rMulA (.ref l) (.int n) H Q :=
  .inr ⟨l, n, xs, rfl, rfl, h, h0, h1, hz, k⟩
end

/-! ### unpacking: a tuple or a list -/
def gSeq (K : PySem.W.Frag) (n : Nat) (t : TGs) : TG := fun v σ H Q => gLst K n t v σ H Q ∨ gTup K n t v σ H Q
theorem pg_seq {X : Cx} {K : PySem.W.Frag} {pos : Pos} {es : List Expr} {k : Nat} {t : TGs} (n : Nat) (hK : X.K = K) (hc : X.calm = true) (h : PGs X es t)
    (hn : (assignEach es X.env).length = n := by rfl) (hst : (assignEach es X.env).findIdx? (·.1) = none := by rfl) : PG X (.Tuple es k pos) (gSeq K n t) := by
  subst hK
  refine ⟨fun pins s σ H v u Q I r hw => ?_⟩
  rcases hw with hw | hw
  · exact (pg_lst hc h hn hst).run pins s σ H v u Q I r hw
  · exact (pg_tup hc h hn hst).run pins s σ H v u Q I r hw
section
variable {K : PySem.W.Frag} {σ : L2.St} {H : Hp} {R : L2.St → Hp → Prop} {t : TGs} {g : TG} {xs : List V} {a : Addr} {v : V} {n : Nat}
theorem w_seqL (h : SqL K H a xs) (hl : xs.length = n) (k : t xs σ H R) : gSeq K n t (.ref a) σ H R := .inl ⟨a, xs, rfl, h, hl, k⟩
theorem w_seqT (h : SqT K H a xs) (hl : xs.length = n) (k : t xs σ H R) : gSeq K n t (.ref a) σ H R := .inr ⟨a, xs, rfl, h, hl, k⟩
theorem w_gNil (k : R σ H) : gNil [] σ H R := ⟨rfl, k⟩
theorem w_gCons (k : g v σ H fun σ' H' => t xs σ' H' R) : gCons g t (v :: xs) σ H R := ⟨v, xs, rfl, k⟩
end

/-! ### walks of any kind -/
section
variable {K : PySem.W.Frag} {σ : L2.St} {H : Hp} {a b D : Addr} {xs ys : List V} {g : TG} {tb : TS} {nx : L2.St → Hp → Prop} {rt : VK} {bk ct : L2.St → Hp → Prop} {tl te : TE} {ta : TA} {tt : TT} {Q : VK} {vs : List Nat} {J : It} {n : Nat} {G : Hp → Prop} {Y : Nat → Hp → V → Hp → Prop}
theorem wfor_it (w : Walk J n G Y) (Pv : Nat → L2.St → Hp → Prop) (h0 : Pv 0 σ H) (hG : ∀ i σ H, i ≤ n → Pv i σ H → G H)
    (hs : ∀ i x σ H H', i < n → Pv i σ H → Y i H x H' → g x σ H' fun σ2 H2 => tb ⟨Pv (i + 1), rt, nx, Pv (i + 1)⟩ σ2 H2) (hd : ∀ σ H, Pv n σ H → nx σ H) : WFor J g tb nx rt σ H :=
  for_it (D := ⟨nx, rt, fun _ _ => False, fun _ _ => False⟩) w Pv h0 hG hs hd
theorem wlc_it (w : Walk J n G Y) (Pv : Addr → Nat → List V → Hp → Prop) (h0 : ∀ D H', H D = none → Same H H' → H' D = some (.lst []) → Pv D 0 [] H') (hG : ∀ D, H D = none → ∀ i ys H', i ≤ n → H' D = some (.lst ys) → Pv D i ys H' → G H')
    (hs : ∀ D, H D = none → ∀ i x ys H0 H', i < n → ys.length ≤ i → H0 D = some (.lst ys) → Pv D i ys H0 → Y i H0 x H' → g x (wipe σ vs) H' fun σ2 H2 => wipe σ2 vs = wipe σ vs ∧ tt σ2 H2 fun b H3 => if b = true then te σ2 H3 fun y H4 => LcEnd D (Pv D) i y H4 else LcSkip D (Pv D) i H3)
    (hd : ∀ D, H D = none → ∀ ys H', ys.length ≤ n → H' D = some (.lst ys) → Pv D n ys H' → Q (.ref D) H') : ∀ D, H D = none → WLc J g tt te vs σ D H Q := fun D hD =>
  lc_it w (fun i H' => ∃ ys, ys.length ≤ i ∧ H' D = some (.lst ys) ∧ Pv D i ys H') ⟨[], Nat.le_refl _, upd_same, h0 D _ hD (Same.one hD) upd_same⟩ (fun i H' hi ⟨ys, _, e, p⟩ => hG D hD i ys H' hi e p)
    (fun i x H0 H' hi ⟨ys, e, e2, p⟩ y => hs D hD i x ys H0 H' hi e e2 p y) (fun H' ⟨ys, e, e2, p⟩ => hd D hD ys H' e e2 p)
theorem w_forZ (k : ta σ H fun vs H1 => ∃ a b xs ys, vs = [.ref a, .ref b] ∧ SqL K H1 a xs ∧ SqL K H1 b ys ∧ WFor (Itz K a b) g tb nx rt σ H1) : tFor (iZip K ta) g tb ⟨nx, rt, bk, ct⟩ σ H := k
theorem w_forE (k : ta σ H fun vs H1 => ∃ a xs, vs = [.ref a] ∧ SqL K H1 a xs ∧ WFor (Ite K a) g tb nx rt σ H1) : tFor (iEnum K ta) g tb ⟨nx, rt, bk, ct⟩ σ H := k
theorem w_forV (k : te σ H fun v H1 => ∃ (a : Addr) (xs : List V), v = .ref a ∧ ((SqL K H1 a xs ∧ WFor (Itv K a xs.length) g tb nx rt σ H1) ∨ (SqT K H1 a xs ∧ WFor (RT.ItvT K a xs.length) g tb nx rt σ H1))) : tFor (RT.iRevA K te) g tb ⟨nx, rt, bk, ct⟩ σ H := k
theorem w_lcZ (k : ta σ H fun us H1 => ∃ a b xs ys, us = [.ref a, .ref b] ∧ SqL K H1 a xs ∧ SqL K H1 b ys ∧ ∀ D, H1 D = none → WLc (Itz K a b) g tt te vs σ D H1 Q) : tLc (iZip K ta) g tt te vs σ H Q := k
theorem w_lcE (k : ta σ H fun us H1 => ∃ a xs, us = [.ref a] ∧ SqL K H1 a xs ∧ ∀ D, H1 D = none → WLc (Ite K a) g tt te vs σ D H1 Q) : tLc (iEnum K ta) g tt te vs σ H Q := k
/-- zip of two lists, each turn a new pair -/
theorem fl_zip (Pv : Nat → L2.St → Hp → Prop) (hx : SqL K H a xs) (hy : SqL K H b ys) (h0 : Pv 0 σ H) (hG : ∀ i σ H, i ≤ min xs.length ys.length → Pv i σ H → SqL K H a xs ∧ SqL K H b ys)
    (hs : ∀ i x y T σ H H', xs[i]? = some x → ys[i]? = some y → Pv i σ H → H T = none → Same H H' → H' T = some (.tup [x, y]) → g (.ref T) σ H' fun σ2 H2 => tb ⟨Pv (i + 1), rt, nx, Pv (i + 1)⟩ σ2 H2) (hd : ∀ σ H, Pv (min xs.length ys.length) σ H → nx σ H) :
    ∃ p q us ws, [V.ref a, .ref b] = [.ref p, .ref q] ∧ SqL K H p us ∧ SqL K H q ws ∧ WFor (Itz K p q) g tb nx rt σ H :=
  ⟨a, b, xs, ys, rfl, hx, hy, wfor_it (walk_zip rfl) Pv h0 hG (fun i v σ H H' hi p ⟨T, x, y, e, nT, e2, h1, h2⟩ => by subst e e2; exact hs i x y T σ H _ h1 h2 p nT (Same.one nT) upd_same) hd⟩
theorem fl_enum (Pv : Nat → L2.St → Hp → Prop) (hx : SqL K H a xs) (h0 : Pv 0 σ H) (hG : ∀ i σ H, i ≤ xs.length → Pv i σ H → SqL K H a xs)
    (hs : ∀ i x T σ H H', xs[i]? = some x → Pv i σ H → H T = none → Same H H' → H' T = some (.tup [.int (i : Nat), x]) → g (.ref T) σ H' fun σ2 H2 => tb ⟨Pv (i + 1), rt, nx, Pv (i + 1)⟩ σ2 H2) (hd : ∀ σ H, Pv xs.length σ H → nx σ H) :
    ∃ p us, [V.ref a] = [.ref p] ∧ SqL K H p us ∧ WFor (Ite K p) g tb nx rt σ H :=
  ⟨a, xs, rfl, hx, wfor_it walk_enum Pv h0 hG (fun i v σ H H' hi p ⟨T, x, y, e, nT, e2, h1, h2⟩ => by
    subst e e2
    obtain rfl : V.int (i : Nat) = x := Option.some.inj h1
    exact hs i y T σ H _ h2 p nT (Same.one nT) upd_same) hd⟩
theorem fl_rev (Pv : Nat → L2.St → Hp → Prop) (hx : SqL K H a xs) (h0 : Pv 0 σ H) (hG : ∀ i σ H, i ≤ xs.length → Pv i σ H → SqL K H a xs)
    (hs : ∀ i x σ H, i < xs.length → xs[xs.length - 1 - i]? = some x → Pv i σ H → g x σ H fun σ2 H2 => tb ⟨Pv (i + 1), rt, nx, Pv (i + 1)⟩ σ2 H2) (hd : ∀ σ H, Pv xs.length σ H → nx σ H) :
    ∃ (p : Addr) (us : List V), V.ref a = .ref p ∧ ((SqL K H p us ∧ WFor (Itv K p us.length) g tb nx rt σ H) ∨ (SqT K H p us ∧ WFor (RT.ItvT K p us.length) g tb nx rt σ H)) :=
  ⟨a, xs, rfl, .inl ⟨hx, wfor_it walk_rev Pv h0 hG (fun i x σ H H' hi p ⟨e, h⟩ => by subst e; exact hs i x σ _ hi h p) hd⟩⟩
/-- [e for x, y in zip(xs, ys) if ..], its names at i and j -/
theorem wipe2 (σ : L2.St) (i j : Nat) (x y : Option V) (h : i ≠ j) : wipe (((wipe σ [i, j]).set i x).set j y) [i, j] = wipe σ [i, j] := by
  show ((((((σ.set j none).set i none).set i x).set j y).set j none).set i none) = (σ.set j none).set i none
  apply List.ext_getElem?
  intro k
  simp only [List.getElem?_set, List.length_set]
  grind
theorem lc_zip {i0 j0 : Nat} (hij : i0 ≠ j0) (Pv : Addr → Nat → List V → Hp → Prop) (hx : SqL K H a xs) (hy : SqL K H b ys) (h0 : ∀ D H', H D = none → Same H H' → H' D = some (.lst []) → Pv D 0 [] H')
    (hG : ∀ D, H D = none → ∀ i zs H', i ≤ min xs.length ys.length → H' D = some (.lst zs) → Pv D i zs H' → SqL K H' a xs ∧ SqL K H' b ys)
    (hs : ∀ D, H D = none → ∀ i x y zs H0 H', xs[i]? = some x → ys[i]? = some y → zs.length ≤ i → H0 D = some (.lst zs) → Pv D i zs H0 → Same H0 H' → tt (((wipe σ [i0, j0]).set i0 (some x)).set j0 (some y)) H' fun b H3 => if b = true then te (((wipe σ [i0, j0]).set i0 (some x)).set j0 (some y)) H3 fun y H4 => LcEnd D (Pv D) i y H4 else LcSkip D (Pv D) i H3)
    (hd : ∀ D, H D = none → ∀ zs H', zs.length ≤ min xs.length ys.length → H' D = some (.lst zs) → Pv D (min xs.length ys.length) zs H' → Q (.ref D) H') :
    ∃ p q us ws, [V.ref a, .ref b] = [.ref p, .ref q] ∧ SqL K H p us ∧ SqL K H q ws ∧ ∀ D, H D = none → WLc (Itz K p q) (gSeq K 2 (gCons (gName i0) (gCons (gName j0) gNil))) tt te [i0, j0] σ D H Q :=
  ⟨a, b, xs, ys, rfl, hx, hy, wlc_it (walk_zip rfl) Pv h0 hG (fun D hD i v zs H0 H' hi hl e p ⟨T, x, y, ev, nT, e2, h1, h2⟩ => by
    subst ev e2
    exact w_seqT (SqT.of upd_same) rfl (w_gCons (w_gName (w_gCons (w_gName (w_gNil ⟨wipe2 _ _ _ _ _ hij, hs D hD i x y zs H0 _ h1 h2 hl e p (Same.one nT)⟩)))))) hd⟩
end
/-! ### isinstance -/
section
variable {K : PySem.W.Frag} {H : Hp} {Q : VK} {x : V}
theorem call_isiA {X : Cx} {K : PySem.W.Frag} (hK : X.K = K) : CallR X (.builtin "isinstance") (rIsi K) := by
  subst hK
  exact call_isi
theorem pe_gS {X : Cx} {x z : Str} {pos : Pos} (hg : Gl X x) (hm : ∃ t, X.mg x = some (.str z t)) (hd : (x == ("__debug__" : Str)) = false := by decide) : PE X (.Name x pos) (tC (.str z)) := by
  obtain ⟨t, hm⟩ := hm
  exact pe_glob hg hm ⟨t, rfl⟩ hd
theorem pe_gI {X : Cx} {x : Str} {z : Int} {pos : Pos} (hg : Gl X x) (hm : ∃ t, X.mg x = some (.int z t)) (hd : (x == ("__debug__" : Str)) = false := by decide) : PE X (.Name x pos) (tC (.int z)) := by
  obtain ⟨t, hm⟩ := hm
  exact pe_glob hg hm ⟨t, rfl⟩ hd
theorem w_isi {T : String} {a : String} {b : Bool} (h : TyX K H x (.type a)) (e : kitB a T = some b) (k : Q (.bl b) H) : rIsi K [x, .ty T] H Q := ⟨x, .ty T, .type a, .type T, b, rfl, .ty T, h, kit_ty e, k⟩
theorem ty_int {n : Int} : TyX K H (.int n) (.type "int") := .base (.int n)
theorem ty_bl {n : Bool} : TyX K H (.bl n) (.type "bool") := .base (.bl n)
theorem ty_str {n : Str} : TyX K H (.str n) (.type "str") := .base (.str n)
theorem ty_non : TyX K H .non (.type "NoneType") := .base .non
theorem ty_lst {a : Addr} {xs : List V} (h : H a = some (.lst xs)) : TyX K H (.ref a) (.type "list") := .base (.lst h)
theorem ty_tup {a : Addr} {xs : List V} (h : H a = some (.tup xs)) : TyX K H (.ref a) (.type "tuple") := .base (.tup h)
theorem ty_dic {a : Addr} {xs : List (Key × V)} (h : H a = some (.dK xs)) : TyX K H (.ref a) (.type "dict") := .base (.dK h)
/-- xs[::-1] -/
theorem w_revL {σ : L2.St} {te : TE} (k : te σ H fun x H1 => ∃ a xs, x = .ref a ∧ SqL K H1 a xs ∧ NewO (.lst xs.reverse) H1 Q) : tRevL K te σ H Q := k
theorem w_ref2 {a : Addr} {xs : List V} {R : Addr → List V → Prop} (k : R a xs) : ∃ b ys, V.ref a = .ref b ∧ R b ys := ⟨a, xs, rfl, k⟩
/-- dicts: displays, look-ups -/
theorem w_disp {σ : L2.St} {trs : List (TE × TE)} (k : ∀ p H', H p = none → Same H H' → H' p = some (.dK []) → tPairs trs σ H' fun ps H2 => H2 p = some (.dK []) ∧ ∃ kvs : List (Key × V), ps = kvs.map (fun kv => (kV kv.1, kv.2)) ∧ kvs.length ≤ 15 ∧ ChgO p (.dK (mergeK [] kvs)) H2 (Q (.ref p))) : tDisp trs σ H Q :=
  fun p hp => k p _ hp (Same.one hp) upd_same
theorem w_pairN {σ : L2.St} {R : List (V × V) → Hp → Prop} (k : R [] H) : tPairs [] σ H R := k
theorem w_pairC {σ : L2.St} {tk tv : TE} {r : List (TE × TE)} {R : List (V × V) → Hp → Prop} (k : tk σ H fun x H1 => tv σ H1 fun y H2 => tPairs r σ H2 fun ps H3 => R ((x, y) :: ps) H3) : tPairs ((tk, tv) :: r) σ H R := k
theorem w_dget {σ : L2.St} {td ty : TE} (k : td σ H fun x H1 => ty σ H1 fun y H2 => ∃ a v, x = .ref a ∧ DGet H2 a y (some v) ∧ Q v H2) : tDGet td ty σ H Q := k
theorem w_dgotS {a : Addr} {kvs : List (Key × V)} {z : Str} {v : V} {R : V → Prop} (h : H a = some (.dK kvs)) (e : valV kvs (.inr z) = some v) (k : R v) : ∃ b v, V.ref a = .ref b ∧ DGet H b (.str z) (some v) ∧ R v := ⟨a, v, rfl, by rw [← e]; exact DGet.k (k := .inr z) h, k⟩
theorem w_dgotI {a : Addr} {kvs : List (Key × V)} {z : Int} {v : V} {R : V → Prop} (h : H a = some (.dK kvs)) (e : valV kvs (.inl z) = some v) (k : R v) : ∃ b v, V.ref a = .ref b ∧ DGet H b (.int z) (some v) ∧ R v := ⟨a, v, rfl, by rw [← e]; exact DGet.k (k := .inl z) h, k⟩
/-- texts in lists, and their == -/
theorem dpAll_strs : ∀ ns : List Str, DpAll K H (ns.map V.str) (ns.map PyData.str)
  | [] => .nil
  | n :: ns => .cons (.str n) (dpAll_strs ns)
theorem dp_strs {a : Addr} {ns : List Str} (h : SqL K H a (ns.map V.str)) : Dp K H (.ref a) (.list (ns.map PyData.str)) := .lst h (dpAll_strs ns)
theorem cleanAll_strs : ∀ ns : List Str, (ns.all PyData.strOk) = true → cleanAll (ns.map PyData.str) = true
  | [], _ => by simp [cleanAll]
  | n :: ns, h => by
    rw [List.all_cons, Bool.and_eq_true] at h
    rw [List.map_cons, cleanAll, cleanAll_strs ns h.2, clean, h.1]; rfl
theorem depthAll_strs : ∀ ns : List Str, PyData.depthAll (ns.map PyData.str) = 0
  | [] => by simp [PyData.depthAll]
  | n :: ns => by rw [List.map_cons, PyData.depthAll, depthAll_strs ns, PyData.depth]; rfl
theorem cmp_strs {ns : List Str} (h : (ns.all PyData.strOk) = true) : Cmp (.list (ns.map PyData.str)) := ⟨by rw [clean]; exact cleanAll_strs ns h, by rw [PyData.depth, depthAll_strs]; decide⟩
theorem map_str_inj {ns ms : List Str} : PyData.list (ns.map PyData.str) = .list (ms.map PyData.str) ↔ ns = ms := by
  constructor
  · intro h
    have h2 : ns.map PyData.str = ms.map PyData.str := by injection h
    exact (List.map_inj_right (f := PyData.str) (fun x y e => by injection e)).mp h2
  · intro h; rw [h]
theorem w_eqSL {p q : Addr} {ns ms : List Str} (h1 : SqL K H p (ns.map V.str)) (h2 : SqL K H q (ms.map V.str)) (o1 : (ns.all PyData.strOk) = true) (o2 : (ms.all PyData.strOk) = true) (k : Q (.bl (decide (ns = ms))) H) : rEqA K (.ref p) (.ref q) H Q :=
  w_eqP (dp_strs h1) (dp_strs h2) (cmp_strs o1) (cmp_strs o2) fun b hb => by
    rw [map_str_inj] at hb
    rw [show b = decide (ns = ms) by rw [Bool.eq_iff_iff, hb, decide_eq_true_eq]]
    exact k
theorem w_neSL {p q : Addr} {ns ms : List Str} (h1 : SqL K H p (ns.map V.str)) (h2 : SqL K H q (ms.map V.str)) (o1 : (ns.all PyData.strOk) = true) (o2 : (ms.all PyData.strOk) = true) (k : Q (.bl (!decide (ns = ms))) H) : rNeA K (.ref p) (.ref q) H Q :=
  w_neP (dp_strs h1) (dp_strs h2) (cmp_strs o1) (cmp_strs o2) fun b hb => by
    rw [ne_eq, map_str_inj] at hb
    rw [show b = !decide (ns = ms) by rw [Bool.eq_iff_iff, hb]; simp]
    exact k
/-- a text cut by another one -/
def rSplit : V → List V → Hp → VK → Prop := fun x xs H Q => ∃ a b, x = .str a ∧ xs = [.str b] ∧ (b.length == 0) = false ∧ a.length + 2 ≤ sizeLine ∧ rNewStrs (Txt.split a b) H Q
theorem mt_splitA {X : Cx} : MtR X "str.split" rSplit := mt_split
theorem w_split {a b : Str} {ys : List Str} (e : Txt.split a b = ys) (hb : (b.length == 0) = false) (ha : a.length + 2 ≤ sizeLine) (k : NewO (.lst (ys.map V.str)) H Q) : rSplit (.str a) [.str b] H Q := ⟨a, b, rfl, rfl, hb, ha, by rw [e]; exact k⟩
end

/-! ### places -/
theorem atI_of {α : Type} {xs : List α} {n : Int} {v : α} (h0 : 0 ≤ n) (h : xs[n.toNat]? = some v) : atI xs n = some v := by
  have e : ((n.toNat : Nat) : Int) = n := Int.toNat_of_nonneg h0
  have q := atI_nat h
  rw [e] at q
  exact q
theorem at0 {α : Type} {a : α} {xs : List α} : atI (a :: xs) 0 = some a := atI_of (Int.le_refl 0) rfl
theorem at1 {α : Type} {a b : α} {xs : List α} : atI (a :: b :: xs) 1 = some b := atI_of (by decide) rfl
theorem at2 {α : Type} {a b c : α} {xs : List α} : atI (a :: b :: c :: xs) 2 = some c := atI_of (by decide) rfl
theorem atI_some {α : Type} {xs : List α} {n : Int} (h0 : 0 ≤ n) (h : n < xs.length) : ∃ v, atI xs n = some v ∧ v ∈ xs ∧ xs[n.toNat]? = some v := by
  have hl : n.toNat < xs.length := by omega
  refine ⟨xs[n.toNat], atI_of h0 (List.getElem?_eq_getElem hl), List.getElem_mem hl, List.getElem?_eq_getElem hl⟩

theorem cdw {i j : Int} (h : 0 < j) (h2 : j < 2 ^ 200) : CDivW i j := wide_div (b := 200) h (by omega) (by decide) (by decide)
/-! ### defs by names -/
/-- the def of the name x keeps the promise sp -/
structure Fn (P : Program) (w : World) (K : PySem.W.Frag) (mg : Str → Option Value) (x : Str) (k : Nat) (ps : List Str) (sp : Sp) : Prop where
  ex : ∃ fd, (∀ base, FnOk P w K mg base CX0 k (He.ga K x) fd ps sp) ∧ Binds K fd ps [] ∧ ∀ (s : Shared) (us : List Value), us.length = ps.length → BindsTo s fd ⟨us, []⟩ (ps.zip us)
  gl : mg x = some (.ref (He.ga K x))
  kp : PySem.W.keepIn K (.ref (He.ga K x)) = true
section
variable {X : Cx} {k : Nat} {x : Str} {ps : List Str} {sp : Sp} {p pos : Pos} {e : Expr} {es : List Expr} {t : TA}
theorem pe_fn (F : Fn X.prog X.w X.K X.mg x k ps sp) (hr : Room k X.A) (hg : Gl X x) (ha : PA X (e :: es) t)
    (hdb : (x == ("__debug__" : Str)) = false := by decide) (he : starEach (e :: es) X.env = (false, eval e X.env) :: starEach es X.env := by rfl) (hpl : (backTo pos (starEach es X.env)).any (·.1) = false := by rfl) :
    PE X (.Call (.Name x p) (e :: es) [] pos) (tCall sp [] E0 t) := by
  obtain ⟨fd, G, b, _⟩ := F.ex
  exact pe_call (G X.base) hr hg F.gl F.kp b .nil pass0 ha hdb he hpl
theorem pe_fn0 (F : Fn X.prog X.w X.K X.mg x k ps sp) (hr : Room k X.A) (hg : Gl X x) (hdb : (x == ("__debug__" : Str)) = false := by decide) :
    PE X (.Call (.Name x p) [] [] pos) (tCall sp [] E0 tNil) := by
  obtain ⟨fd, G, b, _⟩ := F.ex
  exact pe_call0 (G X.base) hr hg F.gl F.kp b .nil pass0 hdb
end
/-- a def's data as the head tells it -/
theorem Fn.mk' {P : Program} {w : World} {K : PySem.W.Frag} {mg : Str → Option Value} {x : Str} {k : Nat} {N ps : List Str} {sp : Sp} {args : Arguments} {body : List Stmt} {sc : Scope} {fd : FuncData}
    (F : FunD K x x args body sc [] [] (He.ga K x) fd) (gl : mg x = some (.ref (He.ga K x))) (S : FnScope N ps sc) (len : ∀ vs H Q E, sp vs H Q E → vs.length = ps.length)
    (hb : ∀ (kV doc pm : Value) (an : Option Addr) (cdv ct : Value) (us : List Value), us.length = ps.length → bindArgs (PySem.W.fnOf x x args body sc .none kV doc pm an cdv ct) ⟨us, []⟩ = pure (ps.zip us))
    (hbody : ∀ (base : Heap) (cdv : Value) (A : Around) (outer : List Env) (s : Shared) (H : Hp) (vs : List V) (Q : VK) (E : XK), Room k (A.deeper (envOfC x sc s.heap.objs.size (He.ga K x) cdv)) → sp vs H Q E →
      ∃ t, PSs (cxOf CX0 P w K mg base N x sc (He.ga K x) cdv A outer s H E).nox body t ∧ t ⟨fun _ H' => Q .non H', Q, fun _ _ => False, fun _ _ => False⟩ (start N vs) H) : Fn P w K mg x (k + 1) ps sp :=
  ⟨⟨fd, fun base => F.ok S len fun cdv A outer s H vs Q E hr h => by
      obtain ⟨t, d, q⟩ := hbody base cdv A outer s H vs Q E hr h
      exact ⟨t, d.nox, q⟩, F.bindsN hb, F.bindsA hb⟩, gl, F.kp⟩

end J
namespace J
open PySem PySem.Spec PyProof.Rows L2
def top (i : Nat) : Stmt := PySem.Challenge.pw_rowsjoined_k02_sums_bit_by_bit.main.body.getD i (.Pass ⟨0, 0, 0, 0⟩)
abbrev s_ops_told : Stmt := top 2
abbrev N_ops_told : List Str := []
theorem sc_ops_told : FnScope N_ops_told [] (defScope s_ops_told) := ⟨rfl, rfl, rfl, by decide +kernel, rfl, by decide +kernel, by decide +kernel⟩
abbrev s_truth_of : Stmt := top 3
abbrev N_truth_of : List Str := ["word"]
theorem sc_truth_of : FnScope N_truth_of ["word"] (defScope s_truth_of) := ⟨rfl, rfl, rfl, by decide +kernel, rfl, by decide +kernel, by decide +kernel⟩
abbrev s_top_of : Stmt := top 4
abbrev N_top_of : List Str := ["word", "width"]
theorem sc_top_of : FnScope N_top_of ["word", "width"] (defScope s_top_of) := ⟨rfl, rfl, rfl, by decide +kernel, rfl, by decide +kernel, by decide +kernel⟩
abbrev s_told_by_bits : Stmt := top 5
abbrev N_told_by_bits : List Str := ["op", "one", "other"]
theorem sc_told_by_bits : FnScope N_told_by_bits ["op", "one", "other"] (defScope s_told_by_bits) := ⟨rfl, rfl, rfl, by decide +kernel, rfl, by decide +kernel, by decide +kernel⟩
abbrev s_reckoned : Stmt := top 6
abbrev N_reckoned : List Str := ["op", "one", "other", "width", "whole"]
theorem sc_reckoned : FnScope N_reckoned ["op", "one", "other", "width"] (defScope s_reckoned) := ⟨rfl, rfl, rfl, by decide +kernel, rfl, by decide +kernel, by decide +kernel⟩
abbrev s_law_cell : Stmt := top 8
abbrev N_law_cell : List Str := ["script", "k"]
theorem sc_law_cell : FnScope N_law_cell ["script", "k"] (defScope s_law_cell) := ⟨rfl, rfl, rfl, by decide +kernel, rfl, by decide +kernel, by decide +kernel⟩
abbrev s_law_stream : Stmt := top 9
abbrev N_law_stream : List Str := ["cell"]
theorem sc_law_stream : FnScope N_law_stream ["cell"] (defScope s_law_stream) := ⟨rfl, rfl, rfl, by decide +kernel, rfl, by decide +kernel, by decide +kernel⟩
abbrev s_law_take : Stmt := top 10
abbrev N_law_take : List Str := ["stream", "many", "digit", "number"]
theorem sc_law_take : FnScope N_law_take ["stream", "many"] (defScope s_law_take) := ⟨rfl, rfl, rfl, by decide +kernel, rfl, by decide +kernel, by decide +kernel⟩
abbrev s_law_bits : Stmt := top 11
abbrev N_law_bits : List Str := ["word", "width", "found", "k"]
theorem sc_law_bits : FnScope N_law_bits ["word", "width"] (defScope s_law_bits) := ⟨rfl, rfl, rfl, by decide +kernel, rfl, by decide +kernel, by decide +kernel⟩
abbrev s_law_joined : Stmt := top 12
abbrev N_law_joined : List Str := ["bits", "found", "bit"]
theorem sc_law_joined : FnScope N_law_joined ["bits"] (defScope s_law_joined) := ⟨rfl, rfl, rfl, by decide +kernel, rfl, by decide +kernel, by decide +kernel⟩
abbrev s_law_carried : Stmt := top 13
abbrev N_law_carried : List Str := ["one", "other", "kept", "found", "here", "there", "total"]
theorem sc_law_carried : FnScope N_law_carried ["one", "other", "kept"] (defScope s_law_carried) := ⟨rfl, rfl, rfl, by decide +kernel, rfl, by decide +kernel, by decide +kernel⟩
abbrev s_law_less : Stmt := top 14
abbrev N_law_less : List Str := ["one", "other", "here", "there"]
theorem sc_law_less : FnScope N_law_less ["one", "other"] (defScope s_law_less) := ⟨rfl, rfl, rfl, by decide +kernel, rfl, by decide +kernel, by decide +kernel⟩
abbrev s_law_moved : Stmt := top 15
abbrev N_law_moved : List Str := ["bits", "many", "up", "k"]
theorem sc_law_moved : FnScope N_law_moved ["bits", "many", "up"] (defScope s_law_moved) := ⟨rfl, rfl, rfl, by decide +kernel, rfl, by decide +kernel, by decide +kernel⟩
abbrev s_law_due : Stmt := top 16
abbrev N_law_due : List Str := ["op", "one", "other", "width", "mine", "others", "least", "most", "bit", "here", "there"]
theorem sc_law_due : FnScope N_law_due ["op", "one", "other", "width"] (defScope s_law_due) := ⟨rfl, rfl, rfl, by decide +kernel, rfl, by decide +kernel, by decide +kernel⟩
abbrev s_law_word : Stmt := top 17
abbrev N_law_word : List Str := ["stream", "width", "way", "some"]
theorem sc_law_word : FnScope N_law_word ["stream", "width"] (defScope s_law_word) := ⟨rfl, rfl, rfl, by decide +kernel, rfl, by decide +kernel, by decide +kernel⟩
abbrev s_law_whole : Stmt := top 18
abbrev N_law_whole : List Str := ["found", "due"]
theorem sc_law_whole : FnScope N_law_whole ["found", "due"] (defScope s_law_whole) := ⟨rfl, rfl, rfl, by decide +kernel, rfl, by decide +kernel, by decide +kernel⟩
abbrev s_law : Stmt := top 19
abbrev N_law : List Str := ["script", "due", "k", "stream", "width", "one", "other", "ops", "op"]
theorem sc_law : FnScope N_law ["script"] (defScope s_law) := ⟨rfl, rfl, rfl, by decide +kernel, rfl, by decide +kernel, by decide +kernel⟩
def fn : List He.DefD := [⟨("ops_told", none), "ops_told", "ops_told", defArgs s_ops_told, defBody s_ops_told, defScope s_ops_told, [], []⟩,
  ⟨("truth_of", none), "truth_of", "truth_of", defArgs s_truth_of, defBody s_truth_of, defScope s_truth_of, [], []⟩,
  ⟨("top_of", none), "top_of", "top_of", defArgs s_top_of, defBody s_top_of, defScope s_top_of, [], []⟩,
  ⟨("told_by_bits", none), "told_by_bits", "told_by_bits", defArgs s_told_by_bits, defBody s_told_by_bits, defScope s_told_by_bits, [], []⟩,
  ⟨("reckoned", none), "reckoned", "reckoned", defArgs s_reckoned, defBody s_reckoned, defScope s_reckoned, [], []⟩,
  ⟨("_law_cell", none), "_law_cell", "_law_cell", defArgs s_law_cell, defBody s_law_cell, defScope s_law_cell, [], []⟩,
  ⟨("_law_stream", none), "_law_stream", "_law_stream", defArgs s_law_stream, defBody s_law_stream, defScope s_law_stream, [], []⟩,
  ⟨("_law_take", none), "_law_take", "_law_take", defArgs s_law_take, defBody s_law_take, defScope s_law_take, [], []⟩,
  ⟨("_law_bits", none), "_law_bits", "_law_bits", defArgs s_law_bits, defBody s_law_bits, defScope s_law_bits, [], []⟩,
  ⟨("_law_joined", none), "_law_joined", "_law_joined", defArgs s_law_joined, defBody s_law_joined, defScope s_law_joined, [], []⟩,
  ⟨("_law_carried", none), "_law_carried", "_law_carried", defArgs s_law_carried, defBody s_law_carried, defScope s_law_carried, [], []⟩,
  ⟨("_law_less", none), "_law_less", "_law_less", defArgs s_law_less, defBody s_law_less, defScope s_law_less, [], []⟩,
  ⟨("_law_moved", none), "_law_moved", "_law_moved", defArgs s_law_moved, defBody s_law_moved, defScope s_law_moved, [], []⟩,
  ⟨("_law_due", none), "_law_due", "_law_due", defArgs s_law_due, defBody s_law_due, defScope s_law_due, [], []⟩,
  ⟨("_law_word", none), "_law_word", "_law_word", defArgs s_law_word, defBody s_law_word, defScope s_law_word, [], []⟩,
  ⟨("_law_whole", none), "_law_whole", "_law_whole", defArgs s_law_whole, defBody s_law_whole, defScope s_law_whole, [], []⟩,
  ⟨("law", none), "law", "law", defArgs s_law, defBody s_law, defScope s_law, [], []⟩]
def fa : List He.Fa := [.glo "ops_told", .glo "truth_of", .glo "top_of", .glo "told_by_bits", .glo "reckoned", .glo "_law_cell", .glo "_law_stream", .glo "_law_take", .glo "_law_bits", .glo "_law_joined", .glo "_law_carried", .glo "_law_less", .glo "_law_moved", .glo "_law_due", .glo "_law_word", .glo "_law_whole", .glo "law", .free "bool", .free "int", .free "isinstance", .free "len", .free "list", .free "max", .free "min", .free "range", .free "reversed", .free "zip", .str "OPS" "+ - & | ^ << >> < ="]
/-- what the head tells of the text -/
structure Facts (K : PySem.W.Frag) (mg : Str → Option Value) : Prop where
  d_ops_told : ∃ fd, FunD K "ops_told" "ops_told" (defArgs s_ops_told) (defBody s_ops_told) (defScope s_ops_told) [] [] (He.ga K "ops_told") fd
  g_ops_told : mg "ops_told" = some (.ref (He.ga K "ops_told"))
  d_truth_of : ∃ fd, FunD K "truth_of" "truth_of" (defArgs s_truth_of) (defBody s_truth_of) (defScope s_truth_of) [] [] (He.ga K "truth_of") fd
  g_truth_of : mg "truth_of" = some (.ref (He.ga K "truth_of"))
  d_top_of : ∃ fd, FunD K "top_of" "top_of" (defArgs s_top_of) (defBody s_top_of) (defScope s_top_of) [] [] (He.ga K "top_of") fd
  g_top_of : mg "top_of" = some (.ref (He.ga K "top_of"))
  d_told_by_bits : ∃ fd, FunD K "told_by_bits" "told_by_bits" (defArgs s_told_by_bits) (defBody s_told_by_bits) (defScope s_told_by_bits) [] [] (He.ga K "told_by_bits") fd
  g_told_by_bits : mg "told_by_bits" = some (.ref (He.ga K "told_by_bits"))
  d_reckoned : ∃ fd, FunD K "reckoned" "reckoned" (defArgs s_reckoned) (defBody s_reckoned) (defScope s_reckoned) [] [] (He.ga K "reckoned") fd
  g_reckoned : mg "reckoned" = some (.ref (He.ga K "reckoned"))
  d_law_cell : ∃ fd, FunD K "_law_cell" "_law_cell" (defArgs s_law_cell) (defBody s_law_cell) (defScope s_law_cell) [] [] (He.ga K "_law_cell") fd
  g_law_cell : mg "_law_cell" = some (.ref (He.ga K "_law_cell"))
  d_law_stream : ∃ fd, FunD K "_law_stream" "_law_stream" (defArgs s_law_stream) (defBody s_law_stream) (defScope s_law_stream) [] [] (He.ga K "_law_stream") fd
  g_law_stream : mg "_law_stream" = some (.ref (He.ga K "_law_stream"))
  d_law_take : ∃ fd, FunD K "_law_take" "_law_take" (defArgs s_law_take) (defBody s_law_take) (defScope s_law_take) [] [] (He.ga K "_law_take") fd
  g_law_take : mg "_law_take" = some (.ref (He.ga K "_law_take"))
  d_law_bits : ∃ fd, FunD K "_law_bits" "_law_bits" (defArgs s_law_bits) (defBody s_law_bits) (defScope s_law_bits) [] [] (He.ga K "_law_bits") fd
  g_law_bits : mg "_law_bits" = some (.ref (He.ga K "_law_bits"))
  d_law_joined : ∃ fd, FunD K "_law_joined" "_law_joined" (defArgs s_law_joined) (defBody s_law_joined) (defScope s_law_joined) [] [] (He.ga K "_law_joined") fd
  g_law_joined : mg "_law_joined" = some (.ref (He.ga K "_law_joined"))
  d_law_carried : ∃ fd, FunD K "_law_carried" "_law_carried" (defArgs s_law_carried) (defBody s_law_carried) (defScope s_law_carried) [] [] (He.ga K "_law_carried") fd
  g_law_carried : mg "_law_carried" = some (.ref (He.ga K "_law_carried"))
  d_law_less : ∃ fd, FunD K "_law_less" "_law_less" (defArgs s_law_less) (defBody s_law_less) (defScope s_law_less) [] [] (He.ga K "_law_less") fd
  g_law_less : mg "_law_less" = some (.ref (He.ga K "_law_less"))
  d_law_moved : ∃ fd, FunD K "_law_moved" "_law_moved" (defArgs s_law_moved) (defBody s_law_moved) (defScope s_law_moved) [] [] (He.ga K "_law_moved") fd
  g_law_moved : mg "_law_moved" = some (.ref (He.ga K "_law_moved"))
  d_law_due : ∃ fd, FunD K "_law_due" "_law_due" (defArgs s_law_due) (defBody s_law_due) (defScope s_law_due) [] [] (He.ga K "_law_due") fd
  g_law_due : mg "_law_due" = some (.ref (He.ga K "_law_due"))
  d_law_word : ∃ fd, FunD K "_law_word" "_law_word" (defArgs s_law_word) (defBody s_law_word) (defScope s_law_word) [] [] (He.ga K "_law_word") fd
  g_law_word : mg "_law_word" = some (.ref (He.ga K "_law_word"))
  d_law_whole : ∃ fd, FunD K "_law_whole" "_law_whole" (defArgs s_law_whole) (defBody s_law_whole) (defScope s_law_whole) [] [] (He.ga K "_law_whole") fd
  g_law_whole : mg "_law_whole" = some (.ref (He.ga K "_law_whole"))
  d_law : ∃ fd, FunD K "law" "law" (defArgs s_law) (defBody s_law) (defScope s_law) [] [] (He.ga K "law") fd
  g_law : mg "law" = some (.ref (He.ga K "law"))
  f_bool : mg "bool" = none
  f_int : mg "int" = none
  f_isinstance : mg "isinstance" = none
  f_len : mg "len" = none
  f_list : mg "list" = none
  f_max : mg "max" = none
  f_min : mg "min" = none
  f_range : mg "range" = none
  f_reversed : mg "reversed" = none
  f_zip : mg "zip" = none
  g_OPS : ∃ t, mg "OPS" = some (.str "+ - & | ^ << >> < =" t)
theorem facts_of {h : Heap} {K : PySem.W.Frag} {mg : Str → Option Value} (X : K.In h) (G : h.Ns mainGlobals mg) (c : He.SaysD fa fn K) : Facts K mg where
  d_ops_told := c.def_ 0 rfl
  g_ops_told := He.glo_ok X G (c.fact 0 rfl)
  d_truth_of := c.def_ 1 rfl
  g_truth_of := He.glo_ok X G (c.fact 1 rfl)
  d_top_of := c.def_ 2 rfl
  g_top_of := He.glo_ok X G (c.fact 2 rfl)
  d_told_by_bits := c.def_ 3 rfl
  g_told_by_bits := He.glo_ok X G (c.fact 3 rfl)
  d_reckoned := c.def_ 4 rfl
  g_reckoned := He.glo_ok X G (c.fact 4 rfl)
  d_law_cell := c.def_ 5 rfl
  g_law_cell := He.glo_ok X G (c.fact 5 rfl)
  d_law_stream := c.def_ 6 rfl
  g_law_stream := He.glo_ok X G (c.fact 6 rfl)
  d_law_take := c.def_ 7 rfl
  g_law_take := He.glo_ok X G (c.fact 7 rfl)
  d_law_bits := c.def_ 8 rfl
  g_law_bits := He.glo_ok X G (c.fact 8 rfl)
  d_law_joined := c.def_ 9 rfl
  g_law_joined := He.glo_ok X G (c.fact 9 rfl)
  d_law_carried := c.def_ 10 rfl
  g_law_carried := He.glo_ok X G (c.fact 10 rfl)
  d_law_less := c.def_ 11 rfl
  g_law_less := He.glo_ok X G (c.fact 11 rfl)
  d_law_moved := c.def_ 12 rfl
  g_law_moved := He.glo_ok X G (c.fact 12 rfl)
  d_law_due := c.def_ 13 rfl
  g_law_due := He.glo_ok X G (c.fact 13 rfl)
  d_law_word := c.def_ 14 rfl
  g_law_word := He.glo_ok X G (c.fact 14 rfl)
  d_law_whole := c.def_ 15 rfl
  g_law_whole := He.glo_ok X G (c.fact 15 rfl)
  d_law := c.def_ 16 rfl
  g_law := He.glo_ok X G (c.fact 16 rfl)
  f_bool := He.free_ok X G (c.fact 17 rfl)
  f_int := He.free_ok X G (c.fact 18 rfl)
  f_isinstance := He.free_ok X G (c.fact 19 rfl)
  f_len := He.free_ok X G (c.fact 20 rfl)
  f_list := He.free_ok X G (c.fact 21 rfl)
  f_max := He.free_ok X G (c.fact 22 rfl)
  f_min := He.free_ok X G (c.fact 23 rfl)
  f_range := He.free_ok X G (c.fact 24 rfl)
  f_reversed := He.free_ok X G (c.fact 25 rfl)
  f_zip := He.free_ok X G (c.fact 26 rfl)
  g_OPS := He.str_ok X G (c.fact 27 rfl)
end J
namespace J
open PySem PySem.Spec PyProof.Rows L2
local macro_rules | `(tactic| walk_at "ty") => `(tactic| first
  | with_reducible exact ty_int
  | with_reducible exact ty_bl
  | with_reducible exact ty_str
  | with_reducible exact ty_non
  | ((with_reducible refine' ty_lst ?vv); (case vv => walk_at "tr"))
  | ((with_reducible refine' ty_tup ?vv); (case vv => walk_at "tr"))
  | ((with_reducible refine' ty_dic ?vv); (case vv => walk_at "tr")))
local macro_rules | `(tactic| walk_at "ix") => `(tactic| first | exact at0 | exact at1 | exact at2 | assumption)
local macro_rules | `(tactic| walk_at "size") => `(tactic| first
  | assumption
  | (show _ < sizeLine; rw [sizeLine_eq]; simp only [List.length_cons, List.length_nil, List.length_append, List.length_map]; omega)
  | (show _ ≤ sizeLine; rw [sizeLine_eq]; simp only [List.length_cons, List.length_nil, List.length_append, List.length_map]; omega))
local macro_rules | `(tactic| walk_at "side") => `(tactic| first
  | assumption
  | ((with_reducible refine cdw ?_ ?_) <;> omega)
  | omega
  | (exact ⟨by omega, by omega⟩)
  | (exact Or.inl ⟨by omega, by omega⟩)
  | (exact Or.inr ⟨by omega, by omega⟩)
  | decide
  | (simp only [List.length_cons, List.length_nil, List.length_append, List.length_map]; omega)
  | (show _ ≤ _; decide))
local macro_rules | `(tactic| walk_at "as") => `(tactic| with_reducible assumption)
local macro_rules | `(tactic| walk_at "tr") => `(tactic| first
  | with_reducible assumption
  | with_reducible exact upd_same
  | ((with_reducible refine' SqL.of ?hh); (case hh => walk_at "as"))
  | ((with_reducible refine' SqT.of ?hh); (case hh => walk_at "as"))
  | ((with_reducible refine' Same.stm ?ee ?gg); (case ee => walk_at "as"); (case gg => walk_at "tr"))
  | ((with_reducible refine' Same.sqT ?ee ?gg); (case ee => walk_at "as"); (case gg => walk_at "tr"))
  | ((with_reducible refine' Same.sqL ?ee ?gg); (case ee => walk_at "as"); (case gg => walk_at "tr"))
  | ((with_reducible refine' Same.at ?ee ?gg); (case ee => walk_at "as"); (case gg => walk_at "tr"))
  | ((with_reducible refine' But.stm ?ee ?ff ?gg); (case ee => walk_at "as"); (case ff => walk_at "ne"); (case gg => walk_at "tr"))
  | ((with_reducible refine' But.tup ?ee ?ff ?gg); (case ee => walk_at "as"); (case ff => walk_at "tr1"); (case gg => walk_at "tr"))
  | ((with_reducible refine' But.sqT ?ee ?ff ?gg); (case ee => walk_at "as"); (case ff => walk_at "tr1"); (case gg => walk_at "tr"))
  | ((with_reducible refine' But.tupL ?ee ?ff ?gg); (case ee => walk_at "as"); (case ff => walk_at "tr1"); (case gg => walk_at "tr"))
  | ((with_reducible refine' But.sqTL ?ee ?ff ?gg); (case ee => walk_at "as"); (case ff => walk_at "tr1"); (case gg => walk_at "tr"))
  | ((with_reducible refine' But.sqL ?ee ?ff ?gg); (case ee => walk_at "as"); (case ff => walk_at "ne"); (case gg => walk_at "tr"))
  | ((with_reducible refine' But.at ?ee ?ff ?gg); (case ee => walk_at "as"); (case ff => walk_at "ne"); (case gg => walk_at "tr")))
local macro_rules | `(tactic| walk_at "tr1") => `(tactic| first
  | with_reducible assumption
  | ((with_reducible refine' Same.stm ?ee ?gg); (case ee => walk_at "as"); (case gg => walk_at "tr1"))
  | ((with_reducible refine' Same.at ?ee ?gg); (case ee => walk_at "as"); (case gg => walk_at "tr1"))
  | ((with_reducible refine' But.at ?ee ?ff ?gg); (case ee => walk_at "as"); (case ff => walk_at "ne0"); (case gg => walk_at "tr1"))
  | ((with_reducible refine' But.stm ?ee ?ff ?gg); (case ee => walk_at "as"); (case ff => walk_at "ne0"); (case gg => walk_at "tr1")))
local macro_rules | `(tactic| walk_at "ne0") => `(tactic| first
  | with_reducible assumption
  | (with_reducible apply Ne.symm; with_reducible assumption))
local macro_rules | `(tactic| walk_at "ne") => `(tactic| first
  | with_reducible assumption
  | (with_reducible apply Ne.symm; with_reducible assumption)
  | ((with_reducible refine' ne_of_none ?hh ?nn); (case nn => walk_at "as"); (case hh => walk_at "tr1"))
  | ((with_reducible apply Ne.symm); (with_reducible refine' ne_of_none ?hh ?nn); (case nn => walk_at "as"); (case hh => walk_at "tr1")))
local macro_rules | `(tactic| walk_at "w") => `(tactic| first
  | with_reducible refine w_seq ?_
  | ((with_reducible refine' w_var ?vv ?_); (case vv => exact rfl))
  | with_reducible refine w_c ?_
  | with_reducible refine w_op ?_
  | with_reducible refine w_asg ?_
  | with_reducible refine w_gName ?_
  | with_reducible refine w_ret ?_
  | with_reducible refine w_ifS ?_
  | with_reducible refine w_drop ?_
  | with_reducible refine w_next ?_
  | with_reducible refine w_cons ?_
  | with_reducible refine w_nil ?_
  | with_reducible refine w_call ?_
  | with_reducible refine w_cb ?_
  | with_reducible refine w_rI0 ?_
  | with_reducible refine w_addI ?_
  | with_reducible refine w_eqI ?_
  | with_reducible refine w_neI ?_
  | with_reducible refine w_eqS ?_
  | with_reducible refine w_neS ?_
  | with_reducible refine w_eqB ?_
  | with_reducible refine w_neB ?_
  | with_reducible refine w_chain ?_
  | with_reducible refine w_test ?_
  | with_reducible refine w_tB ?_
  | with_reducible refine w_bl ?_
  | ((with_reducible refine' w_mulI ?vv ?_); (case vv => walk_at "side"))
  | ((with_reducible refine' w_rI ?vv ?_); (case vv => walk_at "side"))
  | with_reducible refine w_int1 ?_
  | with_reducible refine w_int1b ?_
  | with_reducible refine w_tup ?_
  | with_reducible refine w_lst ?_
  | with_reducible refine w_un ?_
  | with_reducible refine w_rU ?_
  | with_reducible refine w_and ?_
  | with_reducible refine w_or ?_
  | with_reducible refine w_not ?_
  | with_reducible refine w_andV ?_
  | with_reducible refine w_orV ?_
  | with_reducible refine w_notV ?_
  | with_reducible refine w_ifE ?_
  | with_reducible refine w_nT ?_
  | with_reducible refine w_nF ?_
  | with_reducible refine iteT ?_
  | with_reducible refine iteF ?_
  | ((with_reducible refine' w_ixT ?vv ?ww ?_); (case vv => walk_at "tr"); (case ww => walk_at "ix"))
  | ((with_reducible refine' w_ixL ?vv ?ww ?_); (case vv => walk_at "tr"); (case ww => walk_at "ix"))
  | with_reducible refine w_gSub ?_
  | ((with_reducible refine' w_setL ?vv ?ww ?_); (case vv => walk_at "tr"); (case ww => first | rfl | decide | assumption))
  | ((with_reducible refine' w_lenL ?vv ?_); (case vv => walk_at "tr"))
  | ((with_reducible refine' w_lenT ?vv ?_); (case vv => walk_at "tr"))
  | with_reducible refine w_max2 ?_
  | with_reducible refine w_min2 ?_
  | with_reducible refine w_bm ?_
  | with_reducible refine w_bm0 ?_
  | ((with_reducible refine' w_tyL ?vv ?_); (case vv => walk_at "tr"))
  | ((with_reducible refine' w_append ?vv ?ww ?_); (case vv => walk_at "tr"); (case ww => walk_at "size"))
  | ((with_reducible refine' w_size ?vv ?_); (case vv => walk_at "size"))
  | with_reducible refine w_forL ?_
  | with_reducible refine w_forT ?_
  | with_reducible refine w_forR1 ?_
  | with_reducible refine w_forR2 ?_
  | with_reducible refine w_lcL ?_
  | with_reducible refine w_lcT ?_
  | with_reducible refine w_lcR1 ?_
  | with_reducible refine w_yes ?_
  | with_reducible refine w_sl ?_
  | with_reducible refine w_noPart ?_
  | with_reducible refine w_part ?_
  | with_reducible refine w_int ?_
  | ((with_reducible refine' w_slL ?vv ?_); (case vv => walk_at "tr"))
  | ((with_reducible refine' w_seqL ?vv ?ww ?_); (case vv => walk_at "tr"); (case ww => rfl))
  | ((with_reducible refine' w_seqT ?vv ?ww ?_); (case vv => walk_at "tr"); (case ww => rfl))
  | with_reducible refine w_gNil ?_
  | with_reducible refine w_gCons ?_
  | with_reducible refine w_forZ ?_
  | with_reducible refine w_forE ?_
  | with_reducible refine w_forV ?_
  | with_reducible refine w_lcZ ?_
  | with_reducible refine w_lcE ?_
  | ((with_reducible refine' w_isi (b := true) ?vv ?ww ?_); (case vv => walk_at "ty"); (case ww => decide +kernel))
  | ((with_reducible refine' w_isi (b := false) ?vv ?ww ?_); (case vv => walk_at "ty"); (case ww => decide +kernel))
  | with_reducible refine w_revL ?_
  | with_reducible refine w_pairN ?_
  | with_reducible refine w_pairC ?_
  | with_reducible refine w_dget ?_
  | with_reducible refine w_retN ?_
  | with_reducible refine w_break ?_
  | with_reducible refine w_cont ?_)
local macro_rules | `(tactic| walk_at "wd") => `(tactic| first
  | walk_at "w"
  | ((with_reducible refine' w_decT ?vv ?_); (case vv => decide +kernel))
  | ((with_reducible refine' w_decF ?vv ?_); (case vv => decide +kernel)))
/-! ### the draws, alike in all laws -/
def spCell (K : PySem.W.Frag) : Sp := fun vs H Q _ => ∃ (a : Addr) (ns : List Int) (k : Int), vs = [.ref a, .int k] ∧ SqL K H a (ns.map V.int) ∧ 0 ≤ k ∧ ∀ n : Int, Q (.int n) H
def spStream : Sp := fun vs H Q _ => ∃ c : Int, vs = [.int c] ∧ ∀ s H', Same H H' → H s = none → Stm H' s → Q (.ref s) H'
def spTake : Sp := fun vs H Q _ => ∃ (s : Addr) (m : Int), vs = [.ref s, .int m] ∧ Stm H s ∧ 0 < m ∧ m < 2 ^ 200 ∧ ∀ d H', 0 ≤ d → d < m → Stm H' s → But s H H' → Q (.int d) H'
theorem len_law_cell {K : PySem.W.Frag} {vs H Q E} (h : spCell K vs H Q E) : vs.length = 2 := by obtain ⟨_, _, _, rfl, _⟩ := h; rfl
theorem len_law_stream {vs H Q E} (h : spStream vs H Q E) : vs.length = 1 := by obtain ⟨_, rfl, _⟩ := h; rfl
theorem len_law_take {vs H Q E} (h : spTake vs H Q E) : vs.length = 2 := by obtain ⟨_, _, rfl, _⟩ := h; rfl
def spLaw (K : PySem.W.Frag) : Sp := fun vs H Q _ => ∃ (a : Addr) (ns : List Int), vs = [.ref a] ∧ SqL K H a (ns.map V.int) ∧ ns.length ≤ 63 ∧ ∀ H', Q (.bl true) H'
theorem len_law {K : PySem.W.Frag} {vs H Q E} (h : spLaw K vs H Q E) : vs.length = 1 := by obtain ⟨_, _, rfl, _⟩ := h; rfl
theorem law_in {K : PySem.W.Frag} {H : Hp} {a : Addr} {ns : List Int} (hl : ns.length ≤ 63) (_ : Only H) (hS : SqL K H a (ns.map V.int)) : spLaw K [.ref a] H (fun v _ => v = .bl true) fun _ _ _ => False :=
  ⟨a, ns, rfl, hS, hl, fun _ => rfl⟩
section
variable {P : Program} {w : World} {K : PySem.W.Frag} {mg : Str → Option Value}
theorem ok_law_cell (c : Facts K mg) : Fn P w K mg "_law_cell" 1 ["script", "k"] (spCell K) := by
  obtain ⟨fd, F⟩ := c.d_law_cell
  refine Fn.mk' F c.g_law_cell sc_law_cell (fun vs H Q E h => ?_) (fun _ _ _ _ _ _ us hl => match us, hl with | [_, _], _ => rfl) (fun base cdv A outer s H vs Q E hr h => ?_)
  · exact len_law_cell h
  · have nd := sc_law_cell.nd
    have hu := hu_of hr
    refine ⟨_, (pss_cons (ps_if (pt_cmpR op_lt (pv 1) (pe_callB (call_lenA (K := K) rfl) (by rfl) c.f_len boot_len (pa_cons (pv 0) pa_nil)) (nomark _)) (pss_one (ps_ret (pe_ix (ix_any (K := K) rfl) (pv 0) (pv 1) (fun _ _ => rfl)))) pss_nil)
      (pss_one (ps_ret (pe_op (op_addA (K := K) rfl) (pe_op op_mulA pe_int (pv 1)) pe_int)))), ?_⟩
    try dsimp only [cxOf, Cx.nox, Cx.wish]
    obtain ⟨a, ns, k, rfl, hS, h0, q⟩ := h
    repeat walk_at "w"
    refine ite2 (fun hk => ?_) (fun hk => ?_)
    · rw [decide_eq_true_eq] at hk
      repeat walk_at "w"
      obtain ⟨v, e1, e2, _⟩ := atI_some h0 hk
      obtain ⟨n, _, rfl⟩ := List.mem_map.mp e2
      exact w_ixL hS e1 (q n)
    · repeat walk_at "w"
      exact q _
theorem ok_law_stream (c : Facts K mg) : Fn P w K mg "_law_stream" 1 ["cell"] spStream := by
  obtain ⟨fd, F⟩ := c.d_law_stream
  refine Fn.mk' F c.g_law_stream sc_law_stream (fun vs H Q E h => ?_) (fun _ _ _ _ _ _ us hl => match us, hl with | [_], _ => rfl) (fun base cdv A outer s H vs Q E hr h => ?_)
  · exact len_law_stream h
  · have nd := sc_law_stream.nd
    have hu := hu_of hr
    refine ⟨_, (pss_one (ps_ret (pe_lst (pa_cons (pe_op op_mulA (pv 0) (pe_callTy call_int1A (by rfl) c.f_int boot_int (pa_cons (pe_cmpR op_ge (pv 0) (pe_op op_pow pe_int pe_int) (nomark _)) pa_nil))) (pa_cons (pe_op op_mod (pv 0) pe_int) (pa_cons pe_int pa_nil)))))), ?_⟩
    try dsimp only [cxOf, Cx.nox, Cx.wish]
    obtain ⟨n, rfl, q⟩ := h
    repeat walk_at "w"
    exact w_new fun p H1 n1 s1 f1 => q _ _ s1 n1 ⟨_, _, _, f1⟩
theorem ok_law_take (c : Facts K mg) : Fn P w K mg "_law_take" 1 ["stream", "many"] spTake := by
  obtain ⟨fd, F⟩ := c.d_law_take
  refine Fn.mk' F c.g_law_take sc_law_take (fun vs H Q E h => ?_) (fun _ _ _ _ _ _ us hl => match us, hl with | [_, _], _ => rfl) (fun base cdv A outer s H vs Q E hr h => ?_)
  · exact len_law_take h
  · have nd := sc_law_take.nd
    have hu := hu_of hr
    refine ⟨_, (pss_cons (ps_if (pt_cmpR op_gt (pe_ix (ix_any (K := K) rfl) (pv 0) pe_int (fun _ _ => rfl)) pe_int (nomark _)) (pss_cons (ps_set (i := 2) nd rfl (Or.inl rfl) (pe_op op_mod (pe_ix (ix_any (K := K) rfl) (pv 0) pe_int (fun _ _ => rfl)) (pv 1)))
      (pss_cons (ps_asg (pe_op op_fdivW (pe_ix (ix_any (K := K) rfl) (pv 0) pe_int (fun _ _ => rfl)) (pv 1)) (pg_sub (pv 0) pe_int set_list))
      (pss_one (ps_ret (pv 2))))) pss_nil)
      (pss_cons (ps_asg (pe_op (op_addA (K := K) rfl) (pe_ix (ix_any (K := K) rfl) (pv 0) pe_int (fun _ _ => rfl)) pe_int) (pg_sub (pv 0) pe_int set_list))
      (pss_cons (ps_set (i := 3) nd rfl (Or.inl rfl) (pe_op op_mod (pe_op (op_addA (K := K) rfl) (pe_op op_mulA (pe_op (op_addA (K := K) rfl) (pe_ix (ix_any (K := K) rfl) (pv 0) pe_int (fun _ _ => rfl)) (pe_op op_mulA pe_int (pe_ix (ix_any (K := K) rfl) (pv 0) pe_int (fun _ _ => rfl)))) pe_int) pe_int) pe_int))
      (pss_cons (ps_set (i := 3) nd rfl (Or.inl rfl) (pe_op op_mod (pe_op op_mulA (pv 3) (pv 3)) pe_int))
      (pss_one (ps_ret (pe_op op_mod (pe_op op_fdivW (pe_op op_mod (pe_op (op_addA (K := K) rfl) (pe_op op_mulA (pv 3) (pv 3)) (pe_op op_mulA pe_int (pe_ix (ix_any (K := K) rfl) (pv 0) pe_int (fun _ _ => rfl)))) pe_int) pe_int) (pv 1)))))))), ?_⟩
    try dsimp only [cxOf, Cx.nox, Cx.wish]
    obtain ⟨s, m, rfl, ⟨a, b, d, hs⟩, hm, hl, q⟩ := h
    repeat walk_at "w"
    refine ite2 (fun hk => ?_) (fun hk => ?_)
    · repeat walk_at "w"
      refine w_chg fun H1 e1 f1 => ?_
      repeat walk_at "w"
      exact q _ _ (Int.emod_nonneg _ (by omega)) (Int.emod_lt_of_pos _ hm) ⟨_, _, _, f1⟩ e1
    · repeat walk_at "w"
      refine w_chg fun H1 e1 f1 => ?_
      repeat walk_at "w"
      exact q _ _ (Int.emod_nonneg _ (by omega)) (Int.emod_lt_of_pos _ hm) ⟨_, _, _, f1⟩ e1
end


end J
namespace J
open PySem PySem.Spec PyProof.Rows L2
local macro_rules | `(tactic| walk_at "ty") => `(tactic| first
  | with_reducible exact ty_int
  | with_reducible exact ty_bl
  | with_reducible exact ty_str
  | with_reducible exact ty_non
  | ((with_reducible refine' ty_lst ?vv); (case vv => walk_at "tr"))
  | ((with_reducible refine' ty_tup ?vv); (case vv => walk_at "tr"))
  | ((with_reducible refine' ty_dic ?vv); (case vv => walk_at "tr")))
local macro_rules | `(tactic| walk_at "ix") => `(tactic| first | exact at0 | exact at1 | exact at2 | assumption)
local macro_rules | `(tactic| walk_at "size") => `(tactic| first
  | assumption
  | (show _ < sizeLine; rw [sizeLine_eq]; simp only [List.length_cons, List.length_nil, List.length_append, List.length_map]; omega)
  | (show _ ≤ sizeLine; rw [sizeLine_eq]; simp only [List.length_cons, List.length_nil, List.length_append, List.length_map]; omega))
local macro_rules | `(tactic| walk_at "side") => `(tactic| first
  | assumption
  | ((with_reducible refine cdw ?_ ?_) <;> omega)
  | omega
  | (exact ⟨by omega, by omega⟩)
  | (exact Or.inl ⟨by omega, by omega⟩)
  | (exact Or.inr ⟨by omega, by omega⟩)
  | decide
  | (simp only [List.length_cons, List.length_nil, List.length_append, List.length_map]; omega)
  | (show _ ≤ _; decide))
local macro_rules | `(tactic| walk_at "as") => `(tactic| with_reducible assumption)
local macro_rules | `(tactic| walk_at "tr") => `(tactic| first
  | with_reducible assumption
  | with_reducible exact upd_same
  | ((with_reducible refine' SqL.of ?hh); (case hh => walk_at "as"))
  | ((with_reducible refine' SqT.of ?hh); (case hh => walk_at "as"))
  | ((with_reducible refine' Same.stm ?ee ?gg); (case ee => walk_at "as"); (case gg => walk_at "tr"))
  | ((with_reducible refine' Same.sqT ?ee ?gg); (case ee => walk_at "as"); (case gg => walk_at "tr"))
  | ((with_reducible refine' Same.sqL ?ee ?gg); (case ee => walk_at "as"); (case gg => walk_at "tr"))
  | ((with_reducible refine' Same.at ?ee ?gg); (case ee => walk_at "as"); (case gg => walk_at "tr"))
  | ((with_reducible refine' But.stm ?ee ?ff ?gg); (case ee => walk_at "as"); (case ff => walk_at "ne"); (case gg => walk_at "tr"))
  | ((with_reducible refine' But.tup ?ee ?ff ?gg); (case ee => walk_at "as"); (case ff => walk_at "tr1"); (case gg => walk_at "tr"))
  | ((with_reducible refine' But.sqT ?ee ?ff ?gg); (case ee => walk_at "as"); (case ff => walk_at "tr1"); (case gg => walk_at "tr"))
  | ((with_reducible refine' But.tupL ?ee ?ff ?gg); (case ee => walk_at "as"); (case ff => walk_at "tr1"); (case gg => walk_at "tr"))
  | ((with_reducible refine' But.sqTL ?ee ?ff ?gg); (case ee => walk_at "as"); (case ff => walk_at "tr1"); (case gg => walk_at "tr"))
  | ((with_reducible refine' But.sqL ?ee ?ff ?gg); (case ee => walk_at "as"); (case ff => walk_at "ne"); (case gg => walk_at "tr"))
  | ((with_reducible refine' But.at ?ee ?ff ?gg); (case ee => walk_at "as"); (case ff => walk_at "ne"); (case gg => walk_at "tr")))
local macro_rules | `(tactic| walk_at "tr1") => `(tactic| first
  | with_reducible assumption
  | ((with_reducible refine' Same.stm ?ee ?gg); (case ee => walk_at "as"); (case gg => walk_at "tr1"))
  | ((with_reducible refine' Same.at ?ee ?gg); (case ee => walk_at "as"); (case gg => walk_at "tr1"))
  | ((with_reducible refine' But.at ?ee ?ff ?gg); (case ee => walk_at "as"); (case ff => walk_at "ne0"); (case gg => walk_at "tr1"))
  | ((with_reducible refine' But.stm ?ee ?ff ?gg); (case ee => walk_at "as"); (case ff => walk_at "ne0"); (case gg => walk_at "tr1")))
local macro_rules | `(tactic| walk_at "ne0") => `(tactic| first
  | with_reducible assumption
  | (with_reducible apply Ne.symm; with_reducible assumption))
local macro_rules | `(tactic| walk_at "ne") => `(tactic| first
  | with_reducible assumption
  | (with_reducible apply Ne.symm; with_reducible assumption)
  | ((with_reducible refine' ne_of_none ?hh ?nn); (case nn => walk_at "as"); (case hh => walk_at "tr1"))
  | ((with_reducible apply Ne.symm); (with_reducible refine' ne_of_none ?hh ?nn); (case nn => walk_at "as"); (case hh => walk_at "tr1")))
local macro_rules | `(tactic| walk_at "w") => `(tactic| first
  | with_reducible refine w_seq ?_
  | ((with_reducible refine' w_var ?vv ?_); (case vv => exact rfl))
  | with_reducible refine w_c ?_
  | with_reducible refine w_op ?_
  | with_reducible refine w_asg ?_
  | with_reducible refine w_gName ?_
  | with_reducible refine w_ret ?_
  | with_reducible refine w_ifS ?_
  | with_reducible refine w_drop ?_
  | with_reducible refine w_next ?_
  | with_reducible refine w_cons ?_
  | with_reducible refine w_nil ?_
  | with_reducible refine w_call ?_
  | with_reducible refine w_cb ?_
  | with_reducible refine w_rI0 ?_
  | with_reducible refine w_addI ?_
  | with_reducible refine w_eqI ?_
  | with_reducible refine w_neI ?_
  | with_reducible refine w_eqS ?_
  | with_reducible refine w_neS ?_
  | with_reducible refine w_eqB ?_
  | with_reducible refine w_neB ?_
  | with_reducible refine w_chain ?_
  | with_reducible refine w_test ?_
  | with_reducible refine w_tB ?_
  | with_reducible refine w_bl ?_
  | ((with_reducible refine' w_mulI ?vv ?_); (case vv => walk_at "side"))
  | ((with_reducible refine' w_rI ?vv ?_); (case vv => walk_at "side"))
  | with_reducible refine w_int1 ?_
  | with_reducible refine w_int1b ?_
  | with_reducible refine w_tup ?_
  | with_reducible refine w_lst ?_
  | with_reducible refine w_un ?_
  | with_reducible refine w_rU ?_
  | with_reducible refine w_and ?_
  | with_reducible refine w_or ?_
  | with_reducible refine w_not ?_
  | with_reducible refine w_andV ?_
  | with_reducible refine w_orV ?_
  | with_reducible refine w_notV ?_
  | with_reducible refine w_ifE ?_
  | with_reducible refine w_nT ?_
  | with_reducible refine w_nF ?_
  | with_reducible refine iteT ?_
  | with_reducible refine iteF ?_
  | ((with_reducible refine' w_ixT ?vv ?ww ?_); (case vv => walk_at "tr"); (case ww => walk_at "ix"))
  | ((with_reducible refine' w_ixL ?vv ?ww ?_); (case vv => walk_at "tr"); (case ww => walk_at "ix"))
  | with_reducible refine w_gSub ?_
  | ((with_reducible refine' w_setL ?vv ?ww ?_); (case vv => walk_at "tr"); (case ww => first | rfl | decide | assumption))
  | ((with_reducible refine' w_lenL ?vv ?_); (case vv => walk_at "tr"))
  | ((with_reducible refine' w_lenT ?vv ?_); (case vv => walk_at "tr"))
  | with_reducible refine w_max2 ?_
  | with_reducible refine w_min2 ?_
  | with_reducible refine w_bm ?_
  | with_reducible refine w_bm0 ?_
  | ((with_reducible refine' w_tyL ?vv ?_); (case vv => walk_at "tr"))
  | ((with_reducible refine' w_append ?vv ?ww ?_); (case vv => walk_at "tr"); (case ww => walk_at "size"))
  | ((with_reducible refine' w_size ?vv ?_); (case vv => walk_at "size"))
  | with_reducible refine w_forL ?_
  | with_reducible refine w_forT ?_
  | with_reducible refine w_forR1 ?_
  | with_reducible refine w_forR2 ?_
  | with_reducible refine w_lcL ?_
  | with_reducible refine w_lcT ?_
  | with_reducible refine w_lcR1 ?_
  | with_reducible refine w_yes ?_
  | with_reducible refine w_sl ?_
  | with_reducible refine w_noPart ?_
  | with_reducible refine w_part ?_
  | with_reducible refine w_int ?_
  | ((with_reducible refine' w_slL ?vv ?_); (case vv => walk_at "tr"))
  | ((with_reducible refine' w_seqL ?vv ?ww ?_); (case vv => walk_at "tr"); (case ww => rfl))
  | ((with_reducible refine' w_seqT ?vv ?ww ?_); (case vv => walk_at "tr"); (case ww => rfl))
  | with_reducible refine w_gNil ?_
  | with_reducible refine w_gCons ?_
  | with_reducible refine w_forZ ?_
  | with_reducible refine w_forE ?_
  | with_reducible refine w_forV ?_
  | with_reducible refine w_lcZ ?_
  | with_reducible refine w_lcE ?_
  | ((with_reducible refine' w_isi (b := true) ?vv ?ww ?_); (case vv => walk_at "ty"); (case ww => decide +kernel))
  | ((with_reducible refine' w_isi (b := false) ?vv ?ww ?_); (case vv => walk_at "ty"); (case ww => decide +kernel))
  | with_reducible refine w_revL ?_
  | with_reducible refine w_pairN ?_
  | with_reducible refine w_pairC ?_
  | with_reducible refine w_dget ?_
  | with_reducible refine w_retN ?_
  | with_reducible refine w_break ?_
  | with_reducible refine w_cont ?_)
local macro_rules | `(tactic| walk_at "wd") => `(tactic| first
  | walk_at "w"
  | ((with_reducible refine' w_decT ?vv ?_); (case vv => decide +kernel))
  | ((with_reducible refine' w_decF ?vv ?_); (case vv => decide +kernel)))
/-! ### words: what the operations are -/
def tbits (op : Str) (x y : Int) : Int := if op = "&" then Builtin.bitAnd x y else if op = "|" then Builtin.bitOr x y else Builtin.bitXor x y
def reck (op : Str) (x y w : Int) : Int :=
  if op = "+" then (x + y) % 2 ^ w.toNat else if op = "-" then (x - y) % 2 ^ w.toNat
  else if op = "<<" then (x * 2 ^ (y % w).toNat) % 2 ^ w.toNat else if op = ">>" then x / 2 ^ (y % w).toNat
  else if op = "<" then (if x < y then 1 else 0) else if op = "=" then (if x = y then 1 else 0) else tbits op x y
def truthI (x : Int) : Int := if x = 0 then 0 else 1
def topI (x w : Int) : Int := Builtin.bitAnd (x / 2 ^ (w - 1).toNat) 1
def Word (w x : Int) : Prop := 0 ≤ x ∧ x < 2 ^ w.toNat
theorem two_le {w : Int} (h4 : 1 ≤ w) (h24 : w ≤ 24) : (2 : Int) ≤ 2 ^ w.toNat ∧ (2 : Int) ^ w.toNat ≤ 16777216 := by
  have e : ∃ n : Nat, w = n ∧ 1 ≤ n ∧ n ≤ 24 := ⟨w.toNat, by omega, by omega, by omega⟩
  obtain ⟨n, rfl, h1, h2⟩ := e
  rw [Int.toNat_natCast]
  have a : 2 ^ 1 ≤ 2 ^ n := Nat.pow_le_pow_right (by decide) h1
  have b : 2 ^ n ≤ 2 ^ 24 := Nat.pow_le_pow_right (by decide) h2
  have c : ((2 ^ n : Nat) : Int) = (2 : Int) ^ n := by norm_cast
  omega
theorem two16 {w : Int} (h4 : 4 ≤ w) : (16 : Int) ≤ 2 ^ w.toNat := by
  have e : ∃ n : Nat, w = n ∧ 4 ≤ n := ⟨w.toNat, by omega, by omega⟩
  obtain ⟨n, rfl, h1⟩ := e
  rw [Int.toNat_natCast]
  have a : 2 ^ 4 ≤ 2 ^ n := Nat.pow_le_pow_right (by decide) h1
  have c : ((2 ^ n : Nat) : Int) = (2 : Int) ^ n := by norm_cast
  omega
def spTruth : Sp := fun vs H Q _ => ∃ x : Int, vs = [.int x] ∧ Q (.int (truthI x)) H
def spTop : Sp := fun vs H Q _ => ∃ x w : Int, vs = [.int x, .int w] ∧ 1 ≤ w ∧ Q (.int (topI x w)) H
def spTold : Sp := fun vs H Q _ => ∃ (op : Str) (x y : Int), vs = [.str op, .int x, .int y] ∧ Q (.int (tbits op x y)) H
def spReck : Sp := fun vs H Q _ => ∃ (op : Str) (x y w : Int), vs = [.str op, .int x, .int y, .int w] ∧ 1 ≤ w ∧ w ≤ 24 ∧ Word w x ∧ Q (.int (reck op x y w)) H
theorem len_truth_of {vs H Q E} (h : spTruth vs H Q E) : vs.length = 1 := by obtain ⟨_, rfl, _⟩ := h; rfl
theorem len_top_of {vs H Q E} (h : spTop vs H Q E) : vs.length = 2 := by obtain ⟨_, _, rfl, _⟩ := h; rfl
theorem len_told_by_bits {vs H Q E} (h : spTold vs H Q E) : vs.length = 3 := by obtain ⟨_, _, _, rfl, _⟩ := h; rfl
theorem len_reckoned {vs H Q E} (h : spReck vs H Q E) : vs.length = 4 := by obtain ⟨_, _, _, _, rfl, _⟩ := h; rfl
section
variable {P : Program} {w : World} {K : PySem.W.Frag} {mg : Str → Option Value}
theorem ok_truth_of (c : Facts K mg) : Fn P w K mg "truth_of" 1 ["word"] spTruth := by
  obtain ⟨fd, F⟩ := c.d_truth_of
  refine Fn.mk' F c.g_truth_of sc_truth_of (fun vs H Q E h => ?_) (fun _ _ _ _ _ _ us hl => match us, hl with | [_], _ => rfl) (fun base cdv A outer s H vs Q E hr h => ?_)
  · exact len_truth_of h
  · have nd := sc_truth_of.nd
    have hu := hu_of hr
    refine ⟨_, (pss_one (ps_ret (pe_callTy call_int1A (by rfl) c.f_int boot_int (pa_cons (pe_cmpR (op_neA (K := K) rfl hr.units) (pv 0) pe_int (nomark _)) pa_nil)))), ?_⟩
    try dsimp only [cxOf, Cx.nox, Cx.wish]
    obtain ⟨x, rfl, q⟩ := h
    repeat walk_at "w"
    have e : (if (!decide (x = 0)) = true then (1 : Int) else 0) = truthI x := by
      unfold truthI; by_cases h : x = 0 <;> simp [h]
    rw [e]; exact q
theorem ok_top_of (c : Facts K mg) : Fn P w K mg "top_of" 1 ["word", "width"] spTop := by
  obtain ⟨fd, F⟩ := c.d_top_of
  refine Fn.mk' F c.g_top_of sc_top_of (fun vs H Q E h => ?_) (fun _ _ _ _ _ _ us hl => match us, hl with | [_, _], _ => rfl) (fun base cdv A outer s H vs Q E hr h => ?_)
  · exact len_top_of h
  · have nd := sc_top_of.nd
    have hu := hu_of hr
    refine ⟨_, (pss_one (ps_ret (pe_op op_and (pe_op op_shr (pv 0) (pe_op op_sub (pv 1) pe_int)) pe_int))), ?_⟩
    try dsimp only [cxOf, Cx.nox, Cx.wish]
    obtain ⟨x, w, rfl, hw, q⟩ := h
    repeat walk_at "w"
    exact q
theorem ok_told_by_bits (c : Facts K mg) : Fn P w K mg "told_by_bits" 1 ["op", "one", "other"] spTold := by
  obtain ⟨fd, F⟩ := c.d_told_by_bits
  refine Fn.mk' F c.g_told_by_bits sc_told_by_bits (fun vs H Q E h => ?_) (fun _ _ _ _ _ _ us hl => match us, hl with | [_, _, _], _ => rfl) (fun base cdv A outer s H vs Q E hr h => ?_)
  · exact len_told_by_bits h
  · have nd := sc_told_by_bits.nd
    have hu := hu_of hr
    refine ⟨_, (pss_cons (ps_if (pt_cmpR (op_eqA (K := K) rfl hr.units) (pv 0) pe_str (nomark _)) (pss_one (ps_ret (pe_op op_and (pv 1) (pv 2)))) pss_nil)
      (pss_cons (ps_if (pt_cmpR (op_eqA (K := K) rfl hr.units) (pv 0) pe_str (nomark _)) (pss_one (ps_ret (pe_op op_or (pv 1) (pv 2)))) pss_nil)
      (pss_one (ps_ret (pe_op op_xor (pv 1) (pv 2)))))), ?_⟩
    try dsimp only [cxOf, Cx.nox, Cx.wish]
    obtain ⟨op, x, y, rfl, q⟩ := h
    unfold tbits at q
    repeat walk_at "w"
    refine ite2 (fun hk => ?_) (fun hk => ?_)
    · repeat walk_at "w"
      simp only [decide_eq_true_eq] at hk
      rw [if_pos hk] at q; exact q
    simp only [decide_eq_true_eq] at hk
    rw [if_neg hk] at q
    repeat walk_at "w"
    refine ite2 (fun hk => ?_) (fun hk => ?_)
    · repeat walk_at "w"
      simp only [decide_eq_true_eq] at hk
      rw [if_pos hk] at q; exact q
    simp only [decide_eq_true_eq] at hk
    rw [if_neg hk] at q
    repeat walk_at "w"
    exact q
theorem ok_reckoned (c : Facts K mg) (G_told_by_bits : Fn P w K mg "told_by_bits" 1 ["op", "one", "other"] spTold) : Fn P w K mg "reckoned" 2 ["op", "one", "other", "width"] spReck := by
  obtain ⟨fd, F⟩ := c.d_reckoned
  refine Fn.mk' F c.g_reckoned sc_reckoned (fun vs H Q E h => ?_) (fun _ _ _ _ _ _ us hl => match us, hl with | [_, _, _, _], _ => rfl) (fun base cdv A outer s H vs Q E hr h => ?_)
  · exact len_reckoned h
  · have nd := sc_reckoned.nd
    have hu := hu_of hr
    have hr_told_by_bits : Room 1 _ := hr.mono (by decide)
    refine ⟨_, (pss_cons (ps_set (i := 4) nd rfl (Or.inl rfl) (pe_op op_shl pe_int (pv 3)))
      (pss_cons (ps_if (pt_cmpR (op_eqA (K := K) rfl hr.units) (pv 0) pe_str (nomark _)) (pss_one (ps_ret (pe_op op_mod (pe_op (op_addA (K := K) rfl) (pv 1) (pv 2)) (pv 4)))) pss_nil)
      (pss_cons (ps_if (pt_cmpR (op_eqA (K := K) rfl hr.units) (pv 0) pe_str (nomark _)) (pss_one (ps_ret (pe_op op_mod (pe_op op_sub (pv 1) (pv 2)) (pv 4)))) pss_nil)
      (pss_cons (ps_if (pt_cmpR (op_eqA (K := K) rfl hr.units) (pv 0) pe_str (nomark _)) (pss_one (ps_ret (pe_op op_mod (pe_op op_shl (pv 1) (pe_op op_mod (pv 2) (pv 3))) (pv 4)))) pss_nil)
      (pss_cons (ps_if (pt_cmpR (op_eqA (K := K) rfl hr.units) (pv 0) pe_str (nomark _)) (pss_one (ps_ret (pe_op op_shr (pv 1) (pe_op op_mod (pv 2) (pv 3))))) pss_nil)
      (pss_cons (ps_if (pt_cmpR (op_eqA (K := K) rfl hr.units) (pv 0) pe_str (nomark _)) (pss_one (ps_ret (pe_callTy call_int1A (by rfl) c.f_int boot_int (pa_cons (pe_cmpR op_lt (pv 1) (pv 2) (nomark _)) pa_nil)))) pss_nil)
      (pss_cons (ps_if (pt_cmpR (op_eqA (K := K) rfl hr.units) (pv 0) pe_str (nomark _)) (pss_one (ps_ret (pe_callTy call_int1A (by rfl) c.f_int boot_int (pa_cons (pe_cmpR (op_eqA (K := K) rfl hr.units) (pv 1) (pv 2) (nomark _)) pa_nil)))) pss_nil)
      (pss_one (ps_ret (pe_fn G_told_by_bits hr_told_by_bits (by rfl) (pa_cons (pv 0) (pa_cons (pv 1) (pa_cons (pv 2) pa_nil))))))))))))), ?_⟩
    try dsimp only [cxOf, Cx.nox, Cx.wish]
    obtain ⟨op, x, y, w, rfl, h1, h24, ⟨hx0, hx1⟩, q⟩ := h
    obtain ⟨t1, t2⟩ := two_le h1 h24
    unfold reck at q
    have ew : ((1 : Int) * 2 ^ w.toNat) = 2 ^ w.toNat := Int.one_mul _
    have hyw : 0 ≤ y % w ∧ y % w < w := ⟨Int.emod_nonneg _ (by omega), Int.emod_lt_of_pos _ (by omega)⟩
    repeat walk_at "w"
    rw [ew]
    refine ite2 (fun hk => ?_) (fun hk => ?_) <;> simp only [decide_eq_true_eq] at hk
    · repeat walk_at "w"
      rw [if_pos hk] at q; exact q
    rw [if_neg hk] at q
    repeat walk_at "w"
    refine ite2 (fun hk => ?_) (fun hk => ?_) <;> simp only [decide_eq_true_eq] at hk
    · repeat walk_at "w"
      rw [if_pos hk] at q; exact q
    rw [if_neg hk] at q
    repeat walk_at "w"
    refine ite2 (fun hk => ?_) (fun hk => ?_) <;> simp only [decide_eq_true_eq] at hk
    · repeat walk_at "w"
      rw [if_pos hk] at q; exact q
    rw [if_neg hk] at q
    repeat walk_at "w"
    refine ite2 (fun hk => ?_) (fun hk => ?_) <;> simp only [decide_eq_true_eq] at hk
    · repeat walk_at "w"
      rw [if_pos hk] at q; exact q
    rw [if_neg hk] at q
    repeat walk_at "w"
    refine ite2 (fun hk => ?_) (fun hk => ?_) <;> simp only [decide_eq_true_eq] at hk
    · repeat walk_at "w"
      rw [if_pos hk] at q
      simp only [decide_eq_true_eq]; exact q
    rw [if_neg hk] at q
    repeat walk_at "w"
    refine ite2 (fun hk => ?_) (fun hk => ?_) <;> simp only [decide_eq_true_eq] at hk
    · repeat walk_at "w"
      rw [if_pos hk] at q
      simp only [decide_eq_true_eq]; exact q
    rw [if_neg hk] at q
    repeat walk_at "w"
    exact ⟨op, x, y, rfl, q⟩
end

end J
namespace J
open PySem PySem.Spec PyProof.Rows L2
local macro_rules | `(tactic| walk_at "ty") => `(tactic| first
  | with_reducible exact ty_int
  | with_reducible exact ty_bl
  | with_reducible exact ty_str
  | with_reducible exact ty_non
  | ((with_reducible refine' ty_lst ?vv); (case vv => walk_at "tr"))
  | ((with_reducible refine' ty_tup ?vv); (case vv => walk_at "tr"))
  | ((with_reducible refine' ty_dic ?vv); (case vv => walk_at "tr")))
local macro_rules | `(tactic| walk_at "ix") => `(tactic| first | exact at0 | exact at1 | exact at2 | assumption)
local macro_rules | `(tactic| walk_at "size") => `(tactic| first
  | assumption
  | (show _ < sizeLine; rw [sizeLine_eq]; simp only [List.length_cons, List.length_nil, List.length_append, List.length_map]; omega)
  | (show _ ≤ sizeLine; rw [sizeLine_eq]; simp only [List.length_cons, List.length_nil, List.length_append, List.length_map]; omega))
local macro_rules | `(tactic| walk_at "side") => `(tactic| first
  | assumption
  | ((with_reducible refine cdw ?_ ?_) <;> omega)
  | omega
  | (exact ⟨by omega, by omega⟩)
  | (exact Or.inl ⟨by omega, by omega⟩)
  | (exact Or.inr ⟨by omega, by omega⟩)
  | decide
  | (simp only [List.length_cons, List.length_nil, List.length_append, List.length_map]; omega)
  | (show _ ≤ _; decide))
local macro_rules | `(tactic| walk_at "as") => `(tactic| with_reducible assumption)
local macro_rules | `(tactic| walk_at "tr") => `(tactic| first
  | with_reducible assumption
  | with_reducible exact upd_same
  | ((with_reducible refine' SqL.of ?hh); (case hh => walk_at "as"))
  | ((with_reducible refine' SqT.of ?hh); (case hh => walk_at "as"))
  | ((with_reducible refine' Same.stm ?ee ?gg); (case ee => walk_at "as"); (case gg => walk_at "tr"))
  | ((with_reducible refine' Same.sqT ?ee ?gg); (case ee => walk_at "as"); (case gg => walk_at "tr"))
  | ((with_reducible refine' Same.sqL ?ee ?gg); (case ee => walk_at "as"); (case gg => walk_at "tr"))
  | ((with_reducible refine' Same.at ?ee ?gg); (case ee => walk_at "as"); (case gg => walk_at "tr"))
  | ((with_reducible refine' But.stm ?ee ?ff ?gg); (case ee => walk_at "as"); (case ff => walk_at "ne"); (case gg => walk_at "tr"))
  | ((with_reducible refine' But.tup ?ee ?ff ?gg); (case ee => walk_at "as"); (case ff => walk_at "tr1"); (case gg => walk_at "tr"))
  | ((with_reducible refine' But.sqT ?ee ?ff ?gg); (case ee => walk_at "as"); (case ff => walk_at "tr1"); (case gg => walk_at "tr"))
  | ((with_reducible refine' But.tupL ?ee ?ff ?gg); (case ee => walk_at "as"); (case ff => walk_at "tr1"); (case gg => walk_at "tr"))
  | ((with_reducible refine' But.sqTL ?ee ?ff ?gg); (case ee => walk_at "as"); (case ff => walk_at "tr1"); (case gg => walk_at "tr"))
  | ((with_reducible refine' But.sqL ?ee ?ff ?gg); (case ee => walk_at "as"); (case ff => walk_at "ne"); (case gg => walk_at "tr"))
  | ((with_reducible refine' But.at ?ee ?ff ?gg); (case ee => walk_at "as"); (case ff => walk_at "ne"); (case gg => walk_at "tr")))
local macro_rules | `(tactic| walk_at "tr1") => `(tactic| first
  | with_reducible assumption
  | ((with_reducible refine' Same.stm ?ee ?gg); (case ee => walk_at "as"); (case gg => walk_at "tr1"))
  | ((with_reducible refine' Same.at ?ee ?gg); (case ee => walk_at "as"); (case gg => walk_at "tr1"))
  | ((with_reducible refine' But.at ?ee ?ff ?gg); (case ee => walk_at "as"); (case ff => walk_at "ne0"); (case gg => walk_at "tr1"))
  | ((with_reducible refine' But.stm ?ee ?ff ?gg); (case ee => walk_at "as"); (case ff => walk_at "ne0"); (case gg => walk_at "tr1")))
local macro_rules | `(tactic| walk_at "ne0") => `(tactic| first
  | with_reducible assumption
  | (with_reducible apply Ne.symm; with_reducible assumption))
local macro_rules | `(tactic| walk_at "ne") => `(tactic| first
  | with_reducible assumption
  | (with_reducible apply Ne.symm; with_reducible assumption)
  | ((with_reducible refine' ne_of_none ?hh ?nn); (case nn => walk_at "as"); (case hh => walk_at "tr1"))
  | ((with_reducible apply Ne.symm); (with_reducible refine' ne_of_none ?hh ?nn); (case nn => walk_at "as"); (case hh => walk_at "tr1")))
local macro_rules | `(tactic| walk_at "w") => `(tactic| first
  | with_reducible refine w_seq ?_
  | ((with_reducible refine' w_var ?vv ?_); (case vv => exact rfl))
  | with_reducible refine w_c ?_
  | with_reducible refine w_op ?_
  | with_reducible refine w_asg ?_
  | with_reducible refine w_gName ?_
  | with_reducible refine w_ret ?_
  | with_reducible refine w_ifS ?_
  | with_reducible refine w_drop ?_
  | with_reducible refine w_next ?_
  | with_reducible refine w_cons ?_
  | with_reducible refine w_nil ?_
  | with_reducible refine w_call ?_
  | with_reducible refine w_cb ?_
  | with_reducible refine w_rI0 ?_
  | with_reducible refine w_addI ?_
  | with_reducible refine w_eqI ?_
  | with_reducible refine w_neI ?_
  | with_reducible refine w_eqS ?_
  | with_reducible refine w_neS ?_
  | with_reducible refine w_eqB ?_
  | with_reducible refine w_neB ?_
  | with_reducible refine w_chain ?_
  | with_reducible refine w_test ?_
  | with_reducible refine w_tB ?_
  | with_reducible refine w_bl ?_
  | ((with_reducible refine' w_mulI ?vv ?_); (case vv => walk_at "side"))
  | ((with_reducible refine' w_rI ?vv ?_); (case vv => walk_at "side"))
  | with_reducible refine w_int1 ?_
  | with_reducible refine w_int1b ?_
  | with_reducible refine w_tup ?_
  | with_reducible refine w_lst ?_
  | with_reducible refine w_un ?_
  | with_reducible refine w_rU ?_
  | with_reducible refine w_and ?_
  | with_reducible refine w_or ?_
  | with_reducible refine w_not ?_
  | with_reducible refine w_andV ?_
  | with_reducible refine w_orV ?_
  | with_reducible refine w_notV ?_
  | with_reducible refine w_ifE ?_
  | with_reducible refine w_nT ?_
  | with_reducible refine w_nF ?_
  | with_reducible refine iteT ?_
  | with_reducible refine iteF ?_
  | ((with_reducible refine' w_ixT ?vv ?ww ?_); (case vv => walk_at "tr"); (case ww => walk_at "ix"))
  | ((with_reducible refine' w_ixL ?vv ?ww ?_); (case vv => walk_at "tr"); (case ww => walk_at "ix"))
  | with_reducible refine w_gSub ?_
  | ((with_reducible refine' w_setL ?vv ?ww ?_); (case vv => walk_at "tr"); (case ww => first | rfl | decide | assumption))
  | ((with_reducible refine' w_lenL ?vv ?_); (case vv => walk_at "tr"))
  | ((with_reducible refine' w_lenT ?vv ?_); (case vv => walk_at "tr"))
  | with_reducible refine w_max2 ?_
  | with_reducible refine w_min2 ?_
  | with_reducible refine w_bm ?_
  | with_reducible refine w_bm0 ?_
  | ((with_reducible refine' w_tyL ?vv ?_); (case vv => walk_at "tr"))
  | ((with_reducible refine' w_append ?vv ?ww ?_); (case vv => walk_at "tr"); (case ww => walk_at "size"))
  | ((with_reducible refine' w_size ?vv ?_); (case vv => walk_at "size"))
  | with_reducible refine w_forL ?_
  | with_reducible refine w_forT ?_
  | with_reducible refine w_forR1 ?_
  | with_reducible refine w_forR2 ?_
  | with_reducible refine w_lcL ?_
  | with_reducible refine w_lcT ?_
  | with_reducible refine w_lcR1 ?_
  | with_reducible refine w_yes ?_
  | with_reducible refine w_sl ?_
  | with_reducible refine w_noPart ?_
  | with_reducible refine w_part ?_
  | with_reducible refine w_int ?_
  | ((with_reducible refine' w_slL ?vv ?_); (case vv => walk_at "tr"))
  | ((with_reducible refine' w_seqL ?vv ?ww ?_); (case vv => walk_at "tr"); (case ww => rfl))
  | ((with_reducible refine' w_seqT ?vv ?ww ?_); (case vv => walk_at "tr"); (case ww => rfl))
  | with_reducible refine w_gNil ?_
  | with_reducible refine w_gCons ?_
  | with_reducible refine w_forZ ?_
  | with_reducible refine w_forE ?_
  | with_reducible refine w_forV ?_
  | with_reducible refine w_lcZ ?_
  | with_reducible refine w_lcE ?_
  | ((with_reducible refine' w_isi (b := true) ?vv ?ww ?_); (case vv => walk_at "ty"); (case ww => decide +kernel))
  | ((with_reducible refine' w_isi (b := false) ?vv ?ww ?_); (case vv => walk_at "ty"); (case ww => decide +kernel))
  | with_reducible refine w_revL ?_
  | with_reducible refine w_pairN ?_
  | with_reducible refine w_pairC ?_
  | with_reducible refine w_dget ?_
  | with_reducible refine w_retN ?_
  | with_reducible refine w_break ?_
  | with_reducible refine w_cont ?_)
local macro_rules | `(tactic| walk_at "wd") => `(tactic| first
  | walk_at "w"
  | ((with_reducible refine' w_decT ?vv ?_); (case vv => decide +kernel))
  | ((with_reducible refine' w_decF ?vv ?_); (case vv => decide +kernel)))
/-! ### words: the mathematics -/
theorem word_nat {w x : Int} (h1 : 1 ≤ w) (hx : Word w x) : ∃ n a : Nat, w = n ∧ x = a ∧ 1 ≤ n ∧ a < 2 ^ n := by
  refine ⟨w.toNat, x.toNat, by omega, by have := hx.1; omega, by omega, ?_⟩
  have h := hx.2
  have e : (2 : Int) ^ w.toNat = ((2 ^ w.toNat : Nat) : Int) := by norm_cast
  have := hx.1
  omega
theorem word_of {n a : Nat} (h : a < 2 ^ n) : Word (n : Int) (a : Int) := by
  refine ⟨by omega, ?_⟩
  rw [Int.toNat_natCast]
  exact_mod_cast h
theorem pow_cast (n : Nat) : ((2 : Int) ^ n) = ((2 ^ n : Nat) : Int) := by norm_cast
theorem reck_add (n a b : Nat) : reck "+" a b n = (((a + b) % 2 ^ n : Nat) : Int) := by
  show ((a : Int) + b) % 2 ^ (n : Int).toNat = _
  rw [Int.toNat_natCast, pow_cast]; norm_cast
theorem reck_sub (n a b : Nat) : reck "-" a b n = ((a : Int) - b) % ((2 ^ n : Nat) : Int) := by
  show ((a : Int) - b) % 2 ^ (n : Int).toNat = _
  rw [Int.toNat_natCast, pow_cast]
theorem reck_shl (n a b : Nat) : reck "<<" a b n = (((a * 2 ^ (b % n)) % 2 ^ n : Nat) : Int) := by
  show ((a : Int) * 2 ^ ((b : Int) % n).toNat) % 2 ^ (n : Int).toNat = _
  rw [Int.toNat_natCast, pow_cast, show ((b : Int) % n).toNat = b % n by omega, pow_cast]; norm_cast
theorem reck_shr (n a b : Nat) : reck ">>" a b n = ((a / 2 ^ (b % n) : Nat) : Int) := by
  show ((a : Int) / 2 ^ ((b : Int) % n).toNat) = _
  rw [show ((b : Int) % n).toNat = b % n by omega, pow_cast]; norm_cast
theorem reck_lt (x y w : Int) : reck "<" x y w = if x < y then 1 else 0 := rfl
theorem reck_eq (x y w : Int) : reck "=" x y w = if x = y then 1 else 0 := rfl
theorem reck_and (n a b : Nat) : reck "&" a b n = ((a &&& b : Nat) : Int) := by
  show Builtin.bitAnd a b = _
  rw [bitAnd_pp (by omega) (by omega)]; rfl
theorem reck_or (n a b : Nat) : reck "|" a b n = ((a ||| b : Nat) : Int) := by
  show Builtin.bitOr a b = _
  rw [Bits.bitOr_pp (by omega) (by omega)]; rfl
theorem reck_xor (n a b : Nat) : reck "^" a b n = ((a ^^^ b : Nat) : Int) := by
  show Builtin.bitXor a b = _
  rw [Bits.bitXor_pp (by omega) (by omega)]; rfl
theorem reck_word {op : Str} {x y w : Int} (h1 : 1 ≤ w) (hx : Word w x) (hy : Word w y) : Word w (reck op x y w) := by
  obtain ⟨n, a, rfl, rfl, hn, ha⟩ := word_nat h1 hx
  obtain ⟨b, hb0, rfl⟩ : ∃ b : Nat, b < 2 ^ n ∧ y = b := by
    obtain ⟨n', b, e, rfl, _, hb⟩ := word_nat h1 hy
    have e' : n = n' := by omega
    subst e'
    exact ⟨b, hb, rfl⟩
  have hp : 0 < 2 ^ n := Nat.two_pow_pos n
  have h2 : 2 ≤ 2 ^ n := by
    have := Nat.pow_le_pow_right (show 0 < 2 by decide) hn
    omega
  by_cases e1 : op = "+"
  · rw [e1, reck_add]; exact word_of (Nat.mod_lt _ hp)
  by_cases e2 : op = "-"
  · rw [e2, reck_sub]
    have q1 := Int.emod_nonneg ((a : Int) - b) (show ((2 ^ n : Nat) : Int) ≠ 0 by omega)
    have q2 := Int.emod_lt_of_pos ((a : Int) - b) (show (0 : Int) < ((2 ^ n : Nat) : Int) by omega)
    refine ⟨q1, ?_⟩
    rw [Int.toNat_natCast, pow_cast]; exact q2
  by_cases e3 : op = "<<"
  · rw [e3, reck_shl]; exact word_of (Nat.mod_lt _ hp)
  by_cases e4 : op = ">>"
  · rw [e4, reck_shr]; exact word_of (Nat.lt_of_le_of_lt (Nat.div_le_self _ _) ha)
  have w01 : ∀ c : Prop, [Decidable c] → Word (n : Int) (if c then 1 else 0) := fun c _ => by
    split
    · exact word_of (a := 1) (by omega)
    · exact word_of (a := 0) (by omega)
  by_cases e5 : op = "<"
  · rw [e5, reck_lt]; exact w01 _
  by_cases e6 : op = "="
  · rw [e6, reck_eq]; exact w01 _
  have e : reck op a b n = tbits op a b := by
    unfold reck
    rw [if_neg e1, if_neg e2, if_neg e3, if_neg e4, if_neg e5, if_neg e6]
  rw [e]
  unfold tbits
  by_cases e7 : op = "&"
  · rw [if_pos e7, bitAnd_pp (by omega) (by omega)]; exact word_of (Nat.lt_of_le_of_lt Nat.and_le_left ha)
  rw [if_neg e7]
  by_cases e8 : op = "|"
  · rw [if_pos e8, Bits.bitOr_pp (by omega) (by omega)]; exact word_of (Nat.or_lt_two_pow ha hb0)
  rw [if_neg e8, Bits.bitXor_pp (by omega) (by omega)]; exact word_of (Nat.xor_lt_two_pow ha hb0)
theorem word_nat2 {n : Nat} {y : Int} (h1 : 1 ≤ n) (hy : Word (n : Int) y) : ∃ b : Nat, y = b ∧ b < 2 ^ n := by
  obtain ⟨n', b, e, rfl, _, hb⟩ := word_nat (by omega) hy
  have e' : n = n' := by omega
  subst e'
  exact ⟨b, rfl, hb⟩
theorem top_eq {n a : Nat} (hn : 1 ≤ n) (ha : a < 2 ^ n) : topI a n = ((a / 2 ^ (n - 1) : Nat) : Int) ∧ a / 2 ^ (n - 1) < 2 := by
  have hp : 2 ^ n = 2 * 2 ^ (n - 1) := by
    rw [show n = (n - 1) + 1 by omega, Nat.pow_succ]; simp [Nat.mul_comm]
  have h : a / 2 ^ (n - 1) < 2 := by
    rw [Nat.div_lt_iff_lt_mul (Nat.two_pow_pos _)]; omega
  refine ⟨?_, h⟩
  unfold topI
  rw [show ((n : Int) - 1).toNat = n - 1 by omega, pow_cast]
  have e : ((a : Int) / ((2 ^ (n - 1) : Nat) : Int)) = ((a / 2 ^ (n - 1) : Nat) : Int) := by norm_cast
  rw [e, bitAnd_pp (Int.natCast_nonneg _) (by decide)]
  rw [Int.toNat_natCast]
  have e2 : (1 : Int).toNat = 1 := rfl
  rw [e2, Nat.and_one_is_mod, Nat.mod_eq_of_lt h]

end J
namespace J
open PySem PySem.Spec PyProof.Rows L2
local macro_rules | `(tactic| walk_at "ty") => `(tactic| first
  | with_reducible exact ty_int
  | with_reducible exact ty_bl
  | with_reducible exact ty_str
  | with_reducible exact ty_non
  | ((with_reducible refine' ty_lst ?vv); (case vv => walk_at "tr"))
  | ((with_reducible refine' ty_tup ?vv); (case vv => walk_at "tr"))
  | ((with_reducible refine' ty_dic ?vv); (case vv => walk_at "tr")))
local macro_rules | `(tactic| walk_at "ix") => `(tactic| first | exact at0 | exact at1 | exact at2 | assumption)
local macro_rules | `(tactic| walk_at "size") => `(tactic| first
  | assumption
  | (show _ < sizeLine; rw [sizeLine_eq]; simp only [List.length_cons, List.length_nil, List.length_append, List.length_map]; omega)
  | (show _ ≤ sizeLine; rw [sizeLine_eq]; simp only [List.length_cons, List.length_nil, List.length_append, List.length_map]; omega))
local macro_rules | `(tactic| walk_at "side") => `(tactic| first
  | assumption
  | ((with_reducible refine cdw ?_ ?_) <;> omega)
  | omega
  | (exact ⟨by omega, by omega⟩)
  | (exact Or.inl ⟨by omega, by omega⟩)
  | (exact Or.inr ⟨by omega, by omega⟩)
  | decide
  | (simp only [List.length_cons, List.length_nil, List.length_append, List.length_map]; omega)
  | (show _ ≤ _; decide))
local macro_rules | `(tactic| walk_at "as") => `(tactic| with_reducible assumption)
local macro_rules | `(tactic| walk_at "tr") => `(tactic| first
  | with_reducible assumption
  | with_reducible exact upd_same
  | ((with_reducible refine' SqL.of ?hh); (case hh => walk_at "as"))
  | ((with_reducible refine' SqT.of ?hh); (case hh => walk_at "as"))
  | ((with_reducible refine' Same.stm ?ee ?gg); (case ee => walk_at "as"); (case gg => walk_at "tr"))
  | ((with_reducible refine' Same.sqT ?ee ?gg); (case ee => walk_at "as"); (case gg => walk_at "tr"))
  | ((with_reducible refine' Same.sqL ?ee ?gg); (case ee => walk_at "as"); (case gg => walk_at "tr"))
  | ((with_reducible refine' Same.at ?ee ?gg); (case ee => walk_at "as"); (case gg => walk_at "tr"))
  | ((with_reducible refine' But.stm ?ee ?ff ?gg); (case ee => walk_at "as"); (case ff => walk_at "ne"); (case gg => walk_at "tr"))
  | ((with_reducible refine' But.tup ?ee ?ff ?gg); (case ee => walk_at "as"); (case ff => walk_at "tr1"); (case gg => walk_at "tr"))
  | ((with_reducible refine' But.sqT ?ee ?ff ?gg); (case ee => walk_at "as"); (case ff => walk_at "tr1"); (case gg => walk_at "tr"))
  | ((with_reducible refine' But.tupL ?ee ?ff ?gg); (case ee => walk_at "as"); (case ff => walk_at "tr1"); (case gg => walk_at "tr"))
  | ((with_reducible refine' But.sqTL ?ee ?ff ?gg); (case ee => walk_at "as"); (case ff => walk_at "tr1"); (case gg => walk_at "tr"))
  | ((with_reducible refine' But.sqL ?ee ?ff ?gg); (case ee => walk_at "as"); (case ff => walk_at "ne"); (case gg => walk_at "tr"))
  | ((with_reducible refine' But.at ?ee ?ff ?gg); (case ee => walk_at "as"); (case ff => walk_at "ne"); (case gg => walk_at "tr")))
local macro_rules | `(tactic| walk_at "tr1") => `(tactic| first
  | with_reducible assumption
  | ((with_reducible refine' Same.stm ?ee ?gg); (case ee => walk_at "as"); (case gg => walk_at "tr1"))
  | ((with_reducible refine' Same.at ?ee ?gg); (case ee => walk_at "as"); (case gg => walk_at "tr1"))
  | ((with_reducible refine' But.at ?ee ?ff ?gg); (case ee => walk_at "as"); (case ff => walk_at "ne0"); (case gg => walk_at "tr1"))
  | ((with_reducible refine' But.stm ?ee ?ff ?gg); (case ee => walk_at "as"); (case ff => walk_at "ne0"); (case gg => walk_at "tr1")))
local macro_rules | `(tactic| walk_at "ne0") => `(tactic| first
  | with_reducible assumption
  | (with_reducible apply Ne.symm; with_reducible assumption))
local macro_rules | `(tactic| walk_at "ne") => `(tactic| first
  | with_reducible assumption
  | (with_reducible apply Ne.symm; with_reducible assumption)
  | ((with_reducible refine' ne_of_none ?hh ?nn); (case nn => walk_at "as"); (case hh => walk_at "tr1"))
  | ((with_reducible apply Ne.symm); (with_reducible refine' ne_of_none ?hh ?nn); (case nn => walk_at "as"); (case hh => walk_at "tr1")))
local macro_rules | `(tactic| walk_at "w") => `(tactic| first
  | with_reducible refine w_seq ?_
  | ((with_reducible refine' w_var ?vv ?_); (case vv => exact rfl))
  | with_reducible refine w_c ?_
  | with_reducible refine w_op ?_
  | with_reducible refine w_asg ?_
  | with_reducible refine w_gName ?_
  | with_reducible refine w_ret ?_
  | with_reducible refine w_ifS ?_
  | with_reducible refine w_drop ?_
  | with_reducible refine w_next ?_
  | with_reducible refine w_cons ?_
  | with_reducible refine w_nil ?_
  | with_reducible refine w_call ?_
  | with_reducible refine w_cb ?_
  | with_reducible refine w_rI0 ?_
  | with_reducible refine w_addI ?_
  | with_reducible refine w_eqI ?_
  | with_reducible refine w_neI ?_
  | with_reducible refine w_eqS ?_
  | with_reducible refine w_neS ?_
  | with_reducible refine w_eqB ?_
  | with_reducible refine w_neB ?_
  | with_reducible refine w_chain ?_
  | with_reducible refine w_test ?_
  | with_reducible refine w_tB ?_
  | with_reducible refine w_bl ?_
  | ((with_reducible refine' w_mulI ?vv ?_); (case vv => walk_at "side"))
  | ((with_reducible refine' w_rI ?vv ?_); (case vv => walk_at "side"))
  | with_reducible refine w_int1 ?_
  | with_reducible refine w_int1b ?_
  | with_reducible refine w_tup ?_
  | with_reducible refine w_lst ?_
  | with_reducible refine w_un ?_
  | with_reducible refine w_rU ?_
  | with_reducible refine w_and ?_
  | with_reducible refine w_or ?_
  | with_reducible refine w_not ?_
  | with_reducible refine w_andV ?_
  | with_reducible refine w_orV ?_
  | with_reducible refine w_notV ?_
  | with_reducible refine w_ifE ?_
  | with_reducible refine w_nT ?_
  | with_reducible refine w_nF ?_
  | with_reducible refine iteT ?_
  | with_reducible refine iteF ?_
  | ((with_reducible refine' w_ixT ?vv ?ww ?_); (case vv => walk_at "tr"); (case ww => walk_at "ix"))
  | ((with_reducible refine' w_ixL ?vv ?ww ?_); (case vv => walk_at "tr"); (case ww => walk_at "ix"))
  | with_reducible refine w_gSub ?_
  | ((with_reducible refine' w_setL ?vv ?ww ?_); (case vv => walk_at "tr"); (case ww => first | rfl | decide | assumption))
  | ((with_reducible refine' w_lenL ?vv ?_); (case vv => walk_at "tr"))
  | ((with_reducible refine' w_lenT ?vv ?_); (case vv => walk_at "tr"))
  | with_reducible refine w_max2 ?_
  | with_reducible refine w_min2 ?_
  | with_reducible refine w_bm ?_
  | with_reducible refine w_bm0 ?_
  | ((with_reducible refine' w_tyL ?vv ?_); (case vv => walk_at "tr"))
  | ((with_reducible refine' w_append ?vv ?ww ?_); (case vv => walk_at "tr"); (case ww => walk_at "size"))
  | ((with_reducible refine' w_size ?vv ?_); (case vv => walk_at "size"))
  | with_reducible refine w_forL ?_
  | with_reducible refine w_forT ?_
  | with_reducible refine w_forR1 ?_
  | with_reducible refine w_forR2 ?_
  | with_reducible refine w_lcL ?_
  | with_reducible refine w_lcT ?_
  | with_reducible refine w_lcR1 ?_
  | with_reducible refine w_yes ?_
  | with_reducible refine w_sl ?_
  | with_reducible refine w_noPart ?_
  | with_reducible refine w_part ?_
  | with_reducible refine w_int ?_
  | ((with_reducible refine' w_slL ?vv ?_); (case vv => walk_at "tr"))
  | ((with_reducible refine' w_seqL ?vv ?ww ?_); (case vv => walk_at "tr"); (case ww => rfl))
  | ((with_reducible refine' w_seqT ?vv ?ww ?_); (case vv => walk_at "tr"); (case ww => rfl))
  | with_reducible refine w_gNil ?_
  | with_reducible refine w_gCons ?_
  | with_reducible refine w_forZ ?_
  | with_reducible refine w_forE ?_
  | with_reducible refine w_forV ?_
  | with_reducible refine w_lcZ ?_
  | with_reducible refine w_lcE ?_
  | ((with_reducible refine' w_isi (b := true) ?vv ?ww ?_); (case vv => walk_at "ty"); (case ww => decide +kernel))
  | ((with_reducible refine' w_isi (b := false) ?vv ?ww ?_); (case vv => walk_at "ty"); (case ww => decide +kernel))
  | with_reducible refine w_revL ?_
  | with_reducible refine w_pairN ?_
  | with_reducible refine w_pairC ?_
  | with_reducible refine w_dget ?_
  | with_reducible refine w_retN ?_
  | with_reducible refine w_break ?_
  | with_reducible refine w_cont ?_)
local macro_rules | `(tactic| walk_at "wd") => `(tactic| first
  | walk_at "w"
  | ((with_reducible refine' w_decT ?vv ?_); (case vv => decide +kernel))
  | ((with_reducible refine' w_decF ?vv ?_); (case vv => decide +kernel)))
/-! ### bits in lists: the mathematics -/
def iL (bs : List Nat) : List Int := bs.map fun b : Nat => (b : Int)
theorem iL_len (bs : List Nat) : (iL bs).length = bs.length := by unfold iL; rw [List.length_map]
theorem iL_inj {a b : List Nat} (h : iL a = iL b) : a = b := (List.map_inj_right (f := fun b : Nat => (b : Int)) (fun x y e => by omega)).mp h
theorem iL_app (a b : List Nat) : iL (a ++ b) = iL a ++ iL b := by unfold iL; rw [List.map_append]
def valN : List Nat → Nat
  | [] => 0
  | b :: r => b + 2 * valN r
def bitsN (x n : Nat) : List Nat := (List.range n).map fun i => x / 2 ^ i % 2
theorem bitsN_len (x n : Nat) : (bitsN x n).length = n := by unfold bitsN; rw [List.length_map, List.length_range]
theorem bitsN_succ (x n : Nat) : bitsN x (n + 1) = bitsN x n ++ [x / 2 ^ n % 2] := by unfold bitsN; rw [List.range_succ, List.map_append]; rfl
def Bits (bs : List Nat) : Prop := ∀ b ∈ bs, b < 2
theorem bitsN_bits (x n : Nat) : Bits (bitsN x n) := by
  intro b hb
  obtain ⟨i, _, rfl⟩ := List.mem_map.mp hb
  exact Nat.mod_lt _ (by decide)
theorem valN_app (a b : List Nat) : valN (a ++ b) = valN a + 2 ^ a.length * valN b := by
  induction a with
  | nil => simp [valN]
  | cons x a ih =>
    rw [List.cons_append, valN, valN, ih, List.length_cons, Nat.pow_succ, Nat.mul_add, ← Nat.mul_assoc, Nat.mul_comm 2 (2 ^ a.length)]
    omega
theorem valN_bits (x n : Nat) : valN (bitsN x n) = x % 2 ^ n := by
  induction n with
  | zero => rw [Nat.pow_zero, Nat.mod_one]; rfl
  | succ n ih =>
    rw [bitsN_succ, valN_app, ih, bitsN_len, Nat.mod_pow_succ]
    show _ + _ * (_ + 2 * 0) = _
    rw [Nat.mul_zero, Nat.add_zero]
theorem valN_lt {bs : List Nat} (h : Bits bs) : valN bs < 2 ^ bs.length := by
  induction bs with
  | nil => decide
  | cons b r ih =>
    have h1 := h b (List.mem_cons_self ..)
    have h2 := ih fun c hc => h c (List.mem_cons_of_mem _ hc)
    rw [valN, List.length_cons, Nat.pow_succ]
    omega
theorem valN_inj : ∀ {a b : List Nat}, Bits a → Bits b → a.length = b.length → valN a = valN b → a = b
  | [], [], _, _, _, _ => rfl
  | x :: a, y :: b, ha, hb, hl, e => by
    have h1 := ha x (List.mem_cons_self ..)
    have h2 := hb y (List.mem_cons_self ..)
    rw [valN, valN] at e
    have e1 : x = y := by omega
    have e2 : valN a = valN b := by omega
    rw [e1, valN_inj (fun c hc => ha c (List.mem_cons_of_mem _ hc)) (fun c hc => hb c (List.mem_cons_of_mem _ hc)) (by simpa using hl) e2]
/-! sums with what is carried -/
def carryN : List Nat → List Nat → Nat → List Nat
  | x :: a, y :: b, c => (x + y + c) % 2 :: carryN a b ((x + y + c) / 2)
  | _, _, _ => []
def keptN : List Nat → List Nat → Nat → Nat
  | x :: a, y :: b, c => keptN a b ((x + y + c) / 2)
  | _, _, c => c
theorem carry_snoc : ∀ (a b : List Nat) (c x y : Nat), a.length = b.length → carryN (a ++ [x]) (b ++ [y]) c = carryN a b c ++ [(x + y + keptN a b c) % 2] ∧ keptN (a ++ [x]) (b ++ [y]) c = (x + y + keptN a b c) / 2
  | [], [], _, _, _, _ => ⟨rfl, rfl⟩
  | u :: a, v :: b, c, x, y, h => by
    obtain ⟨h1, h2⟩ := carry_snoc a b ((u + v + c) / 2) x y (by simpa using h)
    constructor
    · show (u + v + c) % 2 :: carryN (a ++ [x]) (b ++ [y]) _ = (u + v + c) % 2 :: (carryN a b _ ++ _)
      rw [h1]; rfl
    · exact h2
theorem carry_len : ∀ (a b : List Nat) (c : Nat), a.length = b.length → (carryN a b c).length = a.length
  | [], [], _, _ => rfl
  | _ :: a, _ :: b, c, h => by
    show (carryN a b _).length + 1 = a.length + 1
    rw [carry_len a b _ (by simpa using h)]
theorem carry_bits : ∀ (a b : List Nat) (c : Nat), Bits (carryN a b c)
  | x :: a, y :: b, c => fun z hz => by
    rcases List.mem_cons.mp hz with rfl | hz
    · exact Nat.mod_lt _ (by decide)
    · exact carry_bits a b _ z hz
  | [], _, _ => fun z hz => by simp [carryN] at hz
  | _ :: _, [], _ => fun z hz => by simp [carryN] at hz
theorem mod_two_mul (t s p : Nat) (hp : 0 < p) : (t + 2 * s) % (2 * p) = t % 2 + 2 * ((s + t / 2) % p) := by
  have h : t + 2 * s = t % 2 + 2 * (s + t / 2) := by omega
  rw [h]
  have h2 : (s + t / 2) = p * ((s + t / 2) / p) + (s + t / 2) % p := (Nat.div_add_mod _ _).symm
  generalize (s + t / 2) % p = r at *
  have hr : (s + t / 2) % p < p := Nat.mod_lt _ hp
  have hr' : (s + t / 2) - p * ((s + t / 2) / p) < p := by have := Nat.div_add_mod (s + t / 2) p; omega
  generalize (s + t / 2) / p = k at *
  rw [h2, Nat.mul_add, ← Nat.add_assoc, Nat.add_right_comm, ← Nat.mul_assoc, Nat.add_mul_mod_self_left]
  exact Nat.mod_eq_of_lt (by omega)
theorem carry_val : ∀ (a b : List Nat) (c : Nat), a.length = b.length → valN (carryN a b c) = (valN a + valN b + c) % 2 ^ a.length
  | [], [], c, _ => by rw [List.length_nil, Nat.pow_zero, Nat.mod_one]; rfl
  | x :: a, y :: b, c, h => by
    show (x + y + c) % 2 + 2 * valN (carryN a b ((x + y + c) / 2)) = (x + 2 * valN a + (y + 2 * valN b) + c) % 2 ^ (a.length + 1)
    rw [carry_val a b _ (by simpa using h), Nat.pow_succ, Nat.mul_comm (2 ^ a.length) 2]
    rw [show x + 2 * valN a + (y + 2 * valN b) + c = (x + y + c) + 2 * (valN a + valN b) by omega, mod_two_mul _ _ _ (Nat.two_pow_pos _)]
/-! the other bits -/
def coN (bs : List Nat) : List Nat := bs.map fun b => 1 - b
theorem co_val : ∀ {bs : List Nat}, Bits bs → valN (coN bs) + valN bs + 1 = 2 ^ bs.length
  | [], _ => rfl
  | b :: r, h => by
    have h1 := h b (List.mem_cons_self ..)
    have ih := co_val (bs := r) fun c hc => h c (List.mem_cons_of_mem _ hc)
    show (1 - b + 2 * valN (coN r)) + (b + 2 * valN r) + 1 = 2 ^ (r.length + 1)
    rw [Nat.pow_succ]
    omega
theorem co_len (bs : List Nat) : (coN bs).length = bs.length := by unfold coN; rw [List.length_map]
/-! the first that differ from the top -/
theorem less_at {p r s : List Nat} {x y : Nat} (hr : Bits r) (hs : Bits s) (hl : r.length = s.length) (hx : x < 2) (hy : y < 2) (hne : x ≠ y) : (valN (r ++ x :: p) < valN (s ++ y :: p)) ↔ x < y := by
  have h1 := valN_lt hr
  have h2 := valN_lt hs
  rw [valN_app, valN_app, valN, valN, hl] at *
  have hp : 0 < 2 ^ s.length := Nat.two_pow_pos _
  generalize 2 ^ s.length = q at *
  have c : (x = 0 ∧ y = 1) ∨ (x = 1 ∧ y = 0) := by omega
  rcases c with ⟨rfl, rfl⟩ | ⟨rfl, rfl⟩
  · rw [Nat.mul_add, Nat.mul_add]
    simp only [Nat.mul_zero, Nat.mul_one]
    omega
  · rw [Nat.mul_add, Nat.mul_add]
    simp only [Nat.mul_zero, Nat.mul_one]
    omega
/-! moved -/
def movN (up : Bool) : Nat → List Nat → List Nat
  | 0, bs => bs
  | m + 1, bs => if up then 0 :: (movN up m bs).dropLast else (movN up m bs).drop 1 ++ [0]
theorem mov_len (up : Bool) : ∀ (m : Nat) (bs : List Nat), bs ≠ [] → (movN up m bs).length = bs.length
  | 0, _, _ => rfl
  | m + 1, bs, h => by
    have ih := mov_len up m bs h
    have hp : 0 < bs.length := List.length_pos_iff.mpr h
    unfold movN
    cases up <;> simp <;> omega
theorem mov_bits (up : Bool) : ∀ (m : Nat) (bs : List Nat), Bits bs → Bits (movN up m bs)
  | 0, _, h => h
  | m + 1, bs, h => by
    have ih := mov_bits up m bs h
    unfold movN
    cases up
    · intro b hb
      simp only [Bool.false_eq_true, if_false, List.mem_append, List.mem_singleton] at hb
      rcases hb with hb | rfl
      · exact ih b (List.mem_of_mem_drop hb)
      · decide
    · intro b hb
      simp only [if_true, List.mem_cons] at hb
      rcases hb with rfl | hb
      · decide
      · exact ih b (List.dropLast_subset _ hb)
theorem valN_dropLast {bs : List Nat} (hb : Bits bs) (h : bs ≠ []) : valN (0 :: bs.dropLast) = 2 * valN bs % 2 ^ bs.length := by
  obtain ⟨r, x, rfl⟩ : ∃ r x, bs = r ++ [x] := ⟨bs.dropLast, bs.getLast h, (List.dropLast_concat_getLast h).symm⟩
  have h1 : valN r < 2 ^ r.length := valN_lt fun c hc => hb c (List.mem_append_left _ hc)
  rw [List.dropLast_concat, valN_app, List.length_append, List.length_singleton, Nat.pow_succ]
  show 0 + 2 * valN r = 2 * (valN r + 2 ^ r.length * (x + 2 * 0)) % _
  rw [Nat.mul_zero, Nat.add_zero, Nat.mul_add, ← Nat.mul_assoc, Nat.mul_comm 2 (2 ^ r.length), Nat.add_mul_mod_self_left, Nat.mod_eq_of_lt (by omega)]
  omega
theorem valN_tail {bs : List Nat} (hb : Bits bs) (h : bs ≠ []) : valN (bs.drop 1 ++ [0]) = valN bs / 2 := by
  match bs, h with
  | x :: r, _ =>
    have hx := hb x (List.mem_cons_self ..)
    show valN (r ++ [0]) = (x + 2 * valN r) / 2
    rw [valN_app]
    show valN r + _ * (0 + 2 * 0) = _
    simp only [Nat.mul_zero, Nat.add_zero]
    omega
theorem mov_up {bs : List Nat} (hb : Bits bs) (h : bs ≠ []) : ∀ m, valN (movN true m bs) = valN bs * 2 ^ m % 2 ^ bs.length
  | 0 => by
    rw [Nat.pow_zero, Nat.mul_one]
    exact (Nat.mod_eq_of_lt (valN_lt hb)).symm
  | m + 1 => by
    have hl := mov_len true m bs h
    have hne : movN true m bs ≠ [] := fun e => by rw [e] at hl; exact h (List.length_eq_zero_iff.mp hl.symm)
    show valN (0 :: (movN true m bs).dropLast) = _
    rw [valN_dropLast (mov_bits true m bs hb) hne, mov_up hb h m, hl, Nat.pow_succ, ← Nat.mul_assoc, Nat.mul_comm 2, Nat.mod_mul_mod]
theorem mov_down {bs : List Nat} (hb : Bits bs) (h : bs ≠ []) : ∀ m, valN (movN false m bs) = valN bs / 2 ^ m
  | 0 => by rw [Nat.pow_zero, Nat.div_one]; rfl
  | m + 1 => by
    have hl := mov_len false m bs h
    have hne : movN false m bs ≠ [] := fun e => by rw [e] at hl; exact h (List.length_eq_zero_iff.mp hl.symm)
    show valN ((movN false m bs).drop 1 ++ [0]) = _
    rw [valN_tail (mov_bits false m bs hb) hne, mov_down hb h m, Nat.div_div_eq_div_mul, Nat.pow_succ]
/-! bit by bit -/
def twoN (lo hi : Nat) (a b : List Nat) : List Nat := List.zipWith (fun x y => if lo ≤ x + y ∧ x + y ≤ hi then 1 else 0) a b
theorem two_and : ∀ {a b : List Nat}, Bits a → Bits b → a.length = b.length → valN (twoN 2 2 a b) = valN a &&& valN b
  | [], [], _, _, _ => rfl
  | x :: a, y :: b, ha, hb, h => by
    have hx := ha x (List.mem_cons_self ..)
    have hy := hb y (List.mem_cons_self ..)
    have ih := two_and (a := a) (b := b) (fun c hc => ha c (List.mem_cons_of_mem _ hc)) (fun c hc => hb c (List.mem_cons_of_mem _ hc)) (by simpa using h)
    show (if 2 ≤ x + y ∧ x + y ≤ 2 then 1 else 0) + 2 * valN (twoN 2 2 a b) = (x + 2 * valN a) &&& (y + 2 * valN b)
    rw [ih]
    apply Nat.eq_of_testBit_eq
    intro i
    cases i with
    | zero =>
      rw [Nat.testBit_and]
      simp only [Nat.testBit_zero]
      have c : (x = 0 ∨ x = 1) ∧ (y = 0 ∨ y = 1) := by omega
      rcases c with ⟨rfl | rfl, rfl | rfl⟩ <;> simp <;> omega
    | succ i =>
      rw [Nat.testBit_and]
      simp only [Nat.testBit_succ]
      rw [show (x + 2 * valN a) / 2 = valN a by omega, show (y + 2 * valN b) / 2 = valN b by omega, ← Nat.testBit_and]
      congr 1
      split <;> omega
theorem two_or : ∀ {a b : List Nat}, Bits a → Bits b → a.length = b.length → valN (twoN 1 2 a b) = valN a ||| valN b
  | [], [], _, _, _ => rfl
  | x :: a, y :: b, ha, hb, h => by
    have hx := ha x (List.mem_cons_self ..)
    have hy := hb y (List.mem_cons_self ..)
    have ih := two_or (a := a) (b := b) (fun c hc => ha c (List.mem_cons_of_mem _ hc)) (fun c hc => hb c (List.mem_cons_of_mem _ hc)) (by simpa using h)
    show (if 1 ≤ x + y ∧ x + y ≤ 2 then 1 else 0) + 2 * valN (twoN 1 2 a b) = (x + 2 * valN a) ||| (y + 2 * valN b)
    rw [ih]
    apply Nat.eq_of_testBit_eq
    intro i
    cases i with
    | zero =>
      rw [Nat.testBit_or]
      simp only [Nat.testBit_zero]
      have c : (x = 0 ∨ x = 1) ∧ (y = 0 ∨ y = 1) := by omega
      rcases c with ⟨rfl | rfl, rfl | rfl⟩ <;> simp <;> omega
    | succ i =>
      rw [Nat.testBit_or]
      simp only [Nat.testBit_succ]
      rw [show (x + 2 * valN a) / 2 = valN a by omega, show (y + 2 * valN b) / 2 = valN b by omega, ← Nat.testBit_or]
      congr 1
      split <;> omega
theorem two_xor : ∀ {a b : List Nat}, Bits a → Bits b → a.length = b.length → valN (twoN 1 1 a b) = valN a ^^^ valN b
  | [], [], _, _, _ => rfl
  | x :: a, y :: b, ha, hb, h => by
    have hx := ha x (List.mem_cons_self ..)
    have hy := hb y (List.mem_cons_self ..)
    have ih := two_xor (a := a) (b := b) (fun c hc => ha c (List.mem_cons_of_mem _ hc)) (fun c hc => hb c (List.mem_cons_of_mem _ hc)) (by simpa using h)
    show (if 1 ≤ x + y ∧ x + y ≤ 1 then 1 else 0) + 2 * valN (twoN 1 1 a b) = (x + 2 * valN a) ^^^ (y + 2 * valN b)
    rw [ih]
    apply Nat.eq_of_testBit_eq
    intro i
    cases i with
    | zero =>
      rw [Nat.testBit_xor]
      simp only [Nat.testBit_zero]
      have c : (x = 0 ∨ x = 1) ∧ (y = 0 ∨ y = 1) := by omega
      rcases c with ⟨rfl | rfl, rfl | rfl⟩ <;> simp <;> omega
    | succ i =>
      rw [Nat.testBit_xor]
      simp only [Nat.testBit_succ]
      rw [show (x + 2 * valN a) / 2 = valN a by omega, show (y + 2 * valN b) / 2 = valN b by omega, ← Nat.testBit_xor]
      congr 1
      split <;> omega

end J
namespace J
open PySem PySem.Spec PyProof.Rows L2
local macro_rules | `(tactic| walk_at "ty") => `(tactic| first
  | with_reducible exact ty_int
  | with_reducible exact ty_bl
  | with_reducible exact ty_str
  | with_reducible exact ty_non
  | ((with_reducible refine' ty_lst ?vv); (case vv => walk_at "tr"))
  | ((with_reducible refine' ty_tup ?vv); (case vv => walk_at "tr"))
  | ((with_reducible refine' ty_dic ?vv); (case vv => walk_at "tr")))
local macro_rules | `(tactic| walk_at "ix") => `(tactic| first | exact at0 | exact at1 | exact at2 | assumption)
local macro_rules | `(tactic| walk_at "size") => `(tactic| first
  | assumption
  | (show _ < sizeLine; rw [sizeLine_eq]; simp only [List.length_cons, List.length_nil, List.length_append, List.length_map]; omega)
  | (show _ ≤ sizeLine; rw [sizeLine_eq]; simp only [List.length_cons, List.length_nil, List.length_append, List.length_map]; omega))
local macro_rules | `(tactic| walk_at "side") => `(tactic| first
  | assumption
  | ((with_reducible refine cdw ?_ ?_) <;> omega)
  | omega
  | (exact ⟨by omega, by omega⟩)
  | (exact Or.inl ⟨by omega, by omega⟩)
  | (exact Or.inr ⟨by omega, by omega⟩)
  | decide
  | (simp only [List.length_cons, List.length_nil, List.length_append, List.length_map]; omega)
  | (show _ ≤ _; decide))
local macro_rules | `(tactic| walk_at "as") => `(tactic| with_reducible assumption)
local macro_rules | `(tactic| walk_at "tr") => `(tactic| first
  | with_reducible assumption
  | with_reducible exact upd_same
  | ((with_reducible refine' SqL.of ?hh); (case hh => walk_at "as"))
  | ((with_reducible refine' SqT.of ?hh); (case hh => walk_at "as"))
  | ((with_reducible refine' Same.stm ?ee ?gg); (case ee => walk_at "as"); (case gg => walk_at "tr"))
  | ((with_reducible refine' Same.sqT ?ee ?gg); (case ee => walk_at "as"); (case gg => walk_at "tr"))
  | ((with_reducible refine' Same.sqL ?ee ?gg); (case ee => walk_at "as"); (case gg => walk_at "tr"))
  | ((with_reducible refine' Same.at ?ee ?gg); (case ee => walk_at "as"); (case gg => walk_at "tr"))
  | ((with_reducible refine' But.stm ?ee ?ff ?gg); (case ee => walk_at "as"); (case ff => walk_at "ne"); (case gg => walk_at "tr"))
  | ((with_reducible refine' But.tup ?ee ?ff ?gg); (case ee => walk_at "as"); (case ff => walk_at "tr1"); (case gg => walk_at "tr"))
  | ((with_reducible refine' But.sqT ?ee ?ff ?gg); (case ee => walk_at "as"); (case ff => walk_at "tr1"); (case gg => walk_at "tr"))
  | ((with_reducible refine' But.tupL ?ee ?ff ?gg); (case ee => walk_at "as"); (case ff => walk_at "tr1"); (case gg => walk_at "tr"))
  | ((with_reducible refine' But.sqTL ?ee ?ff ?gg); (case ee => walk_at "as"); (case ff => walk_at "tr1"); (case gg => walk_at "tr"))
  | ((with_reducible refine' But.sqL ?ee ?ff ?gg); (case ee => walk_at "as"); (case ff => walk_at "ne"); (case gg => walk_at "tr"))
  | ((with_reducible refine' But.at ?ee ?ff ?gg); (case ee => walk_at "as"); (case ff => walk_at "ne"); (case gg => walk_at "tr")))
local macro_rules | `(tactic| walk_at "tr1") => `(tactic| first
  | with_reducible assumption
  | ((with_reducible refine' Same.stm ?ee ?gg); (case ee => walk_at "as"); (case gg => walk_at "tr1"))
  | ((with_reducible refine' Same.at ?ee ?gg); (case ee => walk_at "as"); (case gg => walk_at "tr1"))
  | ((with_reducible refine' But.at ?ee ?ff ?gg); (case ee => walk_at "as"); (case ff => walk_at "ne0"); (case gg => walk_at "tr1"))
  | ((with_reducible refine' But.stm ?ee ?ff ?gg); (case ee => walk_at "as"); (case ff => walk_at "ne0"); (case gg => walk_at "tr1")))
local macro_rules | `(tactic| walk_at "ne0") => `(tactic| first
  | with_reducible assumption
  | (with_reducible apply Ne.symm; with_reducible assumption))
local macro_rules | `(tactic| walk_at "ne") => `(tactic| first
  | with_reducible assumption
  | (with_reducible apply Ne.symm; with_reducible assumption)
  | ((with_reducible refine' ne_of_none ?hh ?nn); (case nn => walk_at "as"); (case hh => walk_at "tr1"))
  | ((with_reducible apply Ne.symm); (with_reducible refine' ne_of_none ?hh ?nn); (case nn => walk_at "as"); (case hh => walk_at "tr1")))
local macro_rules | `(tactic| walk_at "w") => `(tactic| first
  | with_reducible refine w_seq ?_
  | ((with_reducible refine' w_var ?vv ?_); (case vv => exact rfl))
  | with_reducible refine w_c ?_
  | with_reducible refine w_op ?_
  | with_reducible refine w_asg ?_
  | with_reducible refine w_gName ?_
  | with_reducible refine w_ret ?_
  | with_reducible refine w_ifS ?_
  | with_reducible refine w_drop ?_
  | with_reducible refine w_next ?_
  | with_reducible refine w_cons ?_
  | with_reducible refine w_nil ?_
  | with_reducible refine w_call ?_
  | with_reducible refine w_cb ?_
  | with_reducible refine w_rI0 ?_
  | with_reducible refine w_addI ?_
  | with_reducible refine w_eqI ?_
  | with_reducible refine w_neI ?_
  | with_reducible refine w_eqS ?_
  | with_reducible refine w_neS ?_
  | with_reducible refine w_eqB ?_
  | with_reducible refine w_neB ?_
  | with_reducible refine w_chain ?_
  | with_reducible refine w_test ?_
  | with_reducible refine w_tB ?_
  | with_reducible refine w_bl ?_
  | ((with_reducible refine' w_mulI ?vv ?_); (case vv => walk_at "side"))
  | ((with_reducible refine' w_rI ?vv ?_); (case vv => walk_at "side"))
  | with_reducible refine w_int1 ?_
  | with_reducible refine w_int1b ?_
  | with_reducible refine w_tup ?_
  | with_reducible refine w_lst ?_
  | with_reducible refine w_un ?_
  | with_reducible refine w_rU ?_
  | with_reducible refine w_and ?_
  | with_reducible refine w_or ?_
  | with_reducible refine w_not ?_
  | with_reducible refine w_andV ?_
  | with_reducible refine w_orV ?_
  | with_reducible refine w_notV ?_
  | with_reducible refine w_ifE ?_
  | with_reducible refine w_nT ?_
  | with_reducible refine w_nF ?_
  | with_reducible refine iteT ?_
  | with_reducible refine iteF ?_
  | ((with_reducible refine' w_ixT ?vv ?ww ?_); (case vv => walk_at "tr"); (case ww => walk_at "ix"))
  | ((with_reducible refine' w_ixL ?vv ?ww ?_); (case vv => walk_at "tr"); (case ww => walk_at "ix"))
  | with_reducible refine w_gSub ?_
  | ((with_reducible refine' w_setL ?vv ?ww ?_); (case vv => walk_at "tr"); (case ww => first | rfl | decide | assumption))
  | ((with_reducible refine' w_lenL ?vv ?_); (case vv => walk_at "tr"))
  | ((with_reducible refine' w_lenT ?vv ?_); (case vv => walk_at "tr"))
  | with_reducible refine w_max2 ?_
  | with_reducible refine w_min2 ?_
  | with_reducible refine w_bm ?_
  | with_reducible refine w_bm0 ?_
  | ((with_reducible refine' w_tyL ?vv ?_); (case vv => walk_at "tr"))
  | ((with_reducible refine' w_append ?vv ?ww ?_); (case vv => walk_at "tr"); (case ww => walk_at "size"))
  | ((with_reducible refine' w_size ?vv ?_); (case vv => walk_at "size"))
  | with_reducible refine w_forL ?_
  | with_reducible refine w_forT ?_
  | with_reducible refine w_forR1 ?_
  | with_reducible refine w_forR2 ?_
  | with_reducible refine w_lcL ?_
  | with_reducible refine w_lcT ?_
  | with_reducible refine w_lcR1 ?_
  | with_reducible refine w_yes ?_
  | with_reducible refine w_sl ?_
  | with_reducible refine w_noPart ?_
  | with_reducible refine w_part ?_
  | with_reducible refine w_int ?_
  | ((with_reducible refine' w_slL ?vv ?_); (case vv => walk_at "tr"))
  | ((with_reducible refine' w_seqL ?vv ?ww ?_); (case vv => walk_at "tr"); (case ww => rfl))
  | ((with_reducible refine' w_seqT ?vv ?ww ?_); (case vv => walk_at "tr"); (case ww => rfl))
  | with_reducible refine w_gNil ?_
  | with_reducible refine w_gCons ?_
  | with_reducible refine w_forZ ?_
  | with_reducible refine w_forE ?_
  | with_reducible refine w_forV ?_
  | with_reducible refine w_lcZ ?_
  | with_reducible refine w_lcE ?_
  | ((with_reducible refine' w_isi (b := true) ?vv ?ww ?_); (case vv => walk_at "ty"); (case ww => decide +kernel))
  | ((with_reducible refine' w_isi (b := false) ?vv ?ww ?_); (case vv => walk_at "ty"); (case ww => decide +kernel))
  | with_reducible refine w_revL ?_
  | with_reducible refine w_pairN ?_
  | with_reducible refine w_pairC ?_
  | with_reducible refine w_dget ?_
  | with_reducible refine w_retN ?_
  | with_reducible refine w_break ?_
  | with_reducible refine w_cont ?_)
local macro_rules | `(tactic| walk_at "wd") => `(tactic| first
  | walk_at "w"
  | ((with_reducible refine' w_decT ?vv ?_); (case vv => decide +kernel))
  | ((with_reducible refine' w_decF ?vv ?_); (case vv => decide +kernel)))
def spBitsOf : Sp := fun vs H Q _ => ∃ (x w : Nat), vs = [.int x, .int w] ∧ w ≤ 24 ∧ ∀ p H', Same H H' → H p = none → H' p = some (.lst ((iL (bitsN x w)).map V.int)) → Q (.ref p) H'
def spJoined (K : PySem.W.Frag) : Sp := fun vs H Q _ => ∃ (a : Addr) (bs : List Nat), vs = [.ref a] ∧ SqL K H a ((iL bs).map V.int) ∧ Q (.int (valN bs)) H
def spCarried (K : PySem.W.Frag) : Sp := fun vs H Q _ => ∃ (a b : Addr) (as bs : List Nat) (c : Nat), vs = [.ref a, .ref b, .int c] ∧ SqL K H a ((iL as).map V.int) ∧ SqL K H b ((iL bs).map V.int) ∧ as.length = bs.length ∧ as.length ≤ 24 ∧ ∀ p H', Same H H' → H' p = some (.lst ((iL (carryN as bs c)).map V.int)) → Q (.ref p) H'
def spLess (K : PySem.W.Frag) : Sp := fun vs H Q _ => ∃ (a b : Addr) (as bs : List Nat), vs = [.ref a, .ref b] ∧ SqL K H a ((iL as).map V.int) ∧ SqL K H b ((iL bs).map V.int) ∧ as.length = bs.length ∧ Bits as ∧ Bits bs ∧ ∀ H', Same H H' → Q (.bl (decide (valN as < valN bs))) H'
def spMoved (K : PySem.W.Frag) : Sp := fun vs H Q _ => ∃ (a : Addr) (bs : List Nat) (m : Nat) (up : Bool), vs = [.ref a, .int m, .bl up] ∧ SqL K H a ((iL bs).map V.int) ∧ 0 < bs.length ∧ bs.length ≤ 24 ∧ m ≤ 24 ∧ ∀ p H', Same H H' → SqL K H' p ((iL (movN up m bs)).map V.int) → Q (.ref p) H'
def allOps : List Str := ["+", "-", "&", "|", "^", "<<", ">>", "<", "="]
def spDue : Sp := fun vs H Q _ => ∃ (op : Str) (x y w : Int), vs = [.str op, .int x, .int y, .int w] ∧ op ∈ allOps ∧ 4 ≤ w ∧ w ≤ 24 ∧ Word w x ∧ Word w y ∧ ∀ H', Same H H' → Q (.int (reck op x y w)) H'
def spWord : Sp := fun vs H Q _ => ∃ (s : Addr) (w : Int), vs = [.ref s, .int w] ∧ Stm H s ∧ 4 ≤ w ∧ w ≤ 24 ∧ ∀ x H', Word w x → Stm H' s → But s H H' → Q (.int x) H'
def spWhole : Sp := fun vs H Q _ => ∃ (x y : Int), vs = [.int x, .int y] ∧ Q (.bl (decide (x = y))) H
def spOps : Sp := fun vs H Q _ => vs = [] ∧ ∀ p H', Same H H' → H p = none → H' p = some (.lst (allOps.map V.str)) → Q (.ref p) H'
theorem len_law_bits {vs H Q E} (h : spBitsOf vs H Q E) : vs.length = 2 := by obtain ⟨_, _, rfl, _⟩ := h; rfl
theorem len_law_joined {K : PySem.W.Frag} {vs H Q E} (h : spJoined K vs H Q E) : vs.length = 1 := by obtain ⟨_, _, rfl, _⟩ := h; rfl
theorem len_law_carried {K : PySem.W.Frag} {vs H Q E} (h : spCarried K vs H Q E) : vs.length = 3 := by obtain ⟨_, _, _, _, _, rfl, _⟩ := h; rfl
theorem len_law_less {K : PySem.W.Frag} {vs H Q E} (h : spLess K vs H Q E) : vs.length = 2 := by obtain ⟨_, _, _, _, rfl, _⟩ := h; rfl
theorem len_law_moved {K : PySem.W.Frag} {vs H Q E} (h : spMoved K vs H Q E) : vs.length = 3 := by obtain ⟨_, _, _, _, rfl, _⟩ := h; rfl
theorem len_law_due {vs H Q E} (h : spDue vs H Q E) : vs.length = 4 := by obtain ⟨_, _, _, _, rfl, _⟩ := h; rfl
theorem len_law_word {vs H Q E} (h : spWord vs H Q E) : vs.length = 2 := by obtain ⟨_, _, rfl, _⟩ := h; rfl
theorem len_law_whole {vs H Q E} (h : spWhole vs H Q E) : vs.length = 2 := by obtain ⟨_, _, rfl, _⟩ := h; rfl
theorem len_ops_told {vs H Q E} (h : spOps vs H Q E) : vs.length = 0 := by obtain ⟨rfl, _⟩ := h; rfl
theorem cut_tail (xs : List V) : cutV xs (some 1) none = xs.drop 1 := by
  unfold cutV
  rw [show HT.sIx xs.length 0 (some 1) = min 1 xs.length from HT.sIx_nat xs.length 0 1, HT.sIx_none]
  cases xs with
  | nil => rfl
  | cons x r => rw [show min 1 (x :: r).length = 1 by simp]; simp
theorem cut_init (xs : List V) : cutV xs none (some (-1)) = xs.dropLast := by
  unfold cutV
  have e : HT.sIx xs.length xs.length (some (-1)) = xs.length - 1 := by
    unfold HT.sIx
    simp
    omega
  rw [e, HT.sIx_none, List.drop_zero, Nat.sub_zero, List.dropLast_eq_take]
theorem iL_at {bs : List Nat} {i : Nat} {x : V} (h : ((iL bs).map V.int)[i]? = some x) : ∃ b : Nat, bs[i]? = some b ∧ x = .int b := by
  unfold iL at h
  rw [List.map_map, List.getElem?_map] at h
  cases e : bs[i]? with
  | none => rw [e] at h; cases h
  | some b => rw [e] at h; exact ⟨b, rfl, (Option.some.inj h).symm⟩
theorem take_snoc {α : Type} {l : List α} {i : Nat} {x : α} (h : l[i]? = some x) : l.take (i + 1) = l.take i ++ [x] := by
  rw [List.take_add_one, h]; rfl
theorem split_at {α : Type} {l : List α} {i : Nat} {x : α} (h : l[i]? = some x) : l = l.take i ++ x :: l.drop (i + 1) := by
  obtain ⟨hl, rfl⟩ := List.getElem?_eq_some_iff.mp h
  rw [← List.drop_eq_getElem_cons hl, List.take_append_drop]
theorem rev_iL (bs : List Nat) : ((iL bs).map V.int).reverse = (iL bs.reverse).map V.int := by unfold iL; rw [← List.map_reverse, ← List.map_reverse]
section
variable {P : Program} {w : World} {K : PySem.W.Frag} {mg : Str → Option Value}
theorem ok_law_bits (c : Facts K mg) : Fn P w K mg "_law_bits" 1 ["word", "width"] spBitsOf := by
  obtain ⟨fd, F⟩ := c.d_law_bits
  refine Fn.mk' F c.g_law_bits sc_law_bits (fun vs H Q E h => ?_) (fun _ _ _ _ _ _ us hl => match us, hl with | [_, _], _ => rfl) (fun base cdv A outer s H vs Q E hr h => ?_)
  · exact len_law_bits h
  · have nd := sc_law_bits.nd
    have hu := hu_of hr
    refine ⟨_, (pss_cons (ps_set (i := 2) nd rfl (Or.inl rfl) (pe_lst pa_nil))
      (pss_cons (ps_for PassesOwn.never rfl (pi_range1 (by rfl) c.f_range (pa_cons (pv 1) pa_nil)) (pg_name (i := 3) nd rfl (Or.inl rfl)) (pss_cons (ps_expr (pe_bm PySem.F.plainAttrs_list PySem.F.slot_list_append PySem.F.type_list_append mt_append (pv 2) (pa_cons (pe_op op_mod (pv 0) pe_int) pa_nil)))
      (pss_one (ps_set (i := 0) nd rfl (Or.inl rfl) (pe_op op_fdivW (pv 0) pe_int)))))
      (pss_one (ps_ret (pv 2))))), ?_⟩
    try dsimp only [cxOf, Cx.nox, Cx.wish]
    obtain ⟨x, w, rfl, hw, q⟩ := h
    repeat walk_at "w"
    refine w_new fun p H1 n1 s1 f1 => ?_
    repeat walk_at "w"
    refine fl_rng1 (fun i σ H' => ∃ v3, σ = [some (.int ((x / 2 ^ i : Nat) : Int)), some (.int w), some (.ref p), v3] ∧ Same H H' ∧ H' p = some (.lst ((iL (bitsN x i)).map V.int))) (by omega) (by omega) ⟨none, by rw [Nat.pow_zero, Nat.div_one]; rfl, s1, f1⟩
      (fun i σ H2 hi ⟨v3, e, sm, hp⟩ => ?_) (fun σ H2 ⟨v3, e, sm, hp⟩ => ?_)
    · subst e
      have hl := bitsN_len x i
      repeat walk_at "w"
      refine w_append hp (by rw [List.length_map, iL_len, hl, sizeLine_eq]; omega) (w_chg fun H3 e3 f3 => ?_)
      repeat walk_at "w"
      refine ⟨_, by rw [show ((x / 2 ^ i : Nat) : Int) / 2 = ((x / 2 ^ (i + 1) : Nat) : Int) by rw [Nat.pow_succ, ← Nat.div_div_eq_div_mul]; norm_cast]; rfl, e3.new sm n1, ?_⟩
      rw [f3, bitsN_succ, iL_app, List.map_append, show ((x / 2 ^ i : Nat) : Int) % 2 = ((x / 2 ^ i % 2 : Nat) : Int) by norm_cast]; rfl
    · subst e
      repeat walk_at "w"
      exact q p H2 sm n1 (by rw [hp, Int.toNat_natCast])
theorem ok_law_joined (c : Facts K mg) : Fn P w K mg "_law_joined" 1 ["bits"] (spJoined K) := by
  obtain ⟨fd, F⟩ := c.d_law_joined
  refine Fn.mk' F c.g_law_joined sc_law_joined (fun vs H Q E h => ?_) (fun _ _ _ _ _ _ us hl => match us, hl with | [_], _ => rfl) (fun base cdv A outer s H vs Q E hr h => ?_)
  · exact len_law_joined h
  · have nd := sc_law_joined.nd
    have hu := hu_of hr
    refine ⟨_, (pss_cons (ps_set (i := 1) nd rfl (Or.inl rfl) pe_int)
      (pss_cons (ps_for PassesOwn.never rfl (RT.pi_revA (by rfl) c.f_reversed (pv 0)) (pg_name (i := 2) nd rfl (Or.inl rfl)) (pss_one (ps_set (i := 1) nd rfl (Or.inl rfl) (pe_op (op_addA (K := K) rfl) (pe_op op_mulA pe_int (pv 1)) (pv 2)))))
      (pss_one (ps_ret (pv 1))))), ?_⟩
    try dsimp only [cxOf, Cx.nox, Cx.wish]
    obtain ⟨a, bs, rfl, ha, q⟩ := h
    have hlen : ((iL bs).map V.int).length = bs.length := by rw [List.length_map, iL_len]
    repeat walk_at "w"
    refine fl_rev (fun i σ H' => ∃ v2, σ = [some (.ref a), some (.int (valN (bs.drop (bs.length - i)))), v2] ∧ H' = H) ha ⟨none, by rw [Nat.sub_zero, List.drop_length]; rfl, rfl⟩ (fun i σ H' _ ⟨_, _, e⟩ => by rw [e]; exact ha)
      (fun i x σ H' hi hx ⟨v2, e, eH⟩ => ?_) (fun σ H' ⟨v2, e, eH⟩ => ?_)
    · subst e eH
      rw [hlen] at hi hx
      have hj : bs.length - 1 - i < bs.length := by omega
      obtain ⟨b, hb, rfl⟩ : ∃ b : Nat, bs[bs.length - 1 - i]? = some b ∧ x = .int b := by
        refine ⟨bs[bs.length - 1 - i], List.getElem?_eq_getElem hj, ?_⟩
        unfold iL at hx
        rw [List.map_map, List.getElem?_map, List.getElem?_eq_getElem hj] at hx
        exact (Option.some.inj hx).symm
      repeat walk_at "w"
      refine ⟨some (.int b), ?_, rfl⟩
      have e : bs.drop (bs.length - (i + 1)) = b :: bs.drop (bs.length - i) := by
        rw [show bs.length - (i + 1) = bs.length - 1 - i by omega, List.drop_eq_getElem_cons hj, show bs.length - 1 - i + 1 = bs.length - i by omega]
        rw [List.getElem?_eq_getElem hj] at hb
        rw [Option.some.inj hb]
      rw [e]
      show _ = [some (V.ref a), some (.int ((b + 2 * valN (bs.drop (bs.length - i)) : Nat) : Int)), some (.int b)]
      rw [show ((b + 2 * valN (bs.drop (bs.length - i)) : Nat) : Int) = 2 * ((valN (bs.drop (bs.length - i)) : Nat) : Int) + (b : Int) by omega]; rfl
    · subst e eH
      rw [hlen]
      repeat walk_at "w"
      rw [Nat.sub_self, List.drop_zero]; exact q
theorem ok_law_carried (c : Facts K mg) : Fn P w K mg "_law_carried" 1 ["one", "other", "kept"] (spCarried K) := by
  obtain ⟨fd, F⟩ := c.d_law_carried
  refine Fn.mk' F c.g_law_carried sc_law_carried (fun vs H Q E h => ?_) (fun _ _ _ _ _ _ us hl => match us, hl with | [_, _, _], _ => rfl) (fun base cdv A outer s H vs Q E hr h => ?_)
  · exact len_law_carried h
  · have nd := sc_law_carried.nd
    have hu := hu_of hr
    refine ⟨_, (pss_cons (ps_set (i := 3) nd rfl (Or.inl rfl) (pe_lst pa_nil))
      (pss_cons (ps_for PassesOwn.never rfl (pi_zip (by rfl) c.f_zip (pa_cons (pv 0) (pa_cons (pv 1) pa_nil))) (pg_seq 2 (K := K) rfl rfl (pgs_cons (pg_name (i := 4) nd rfl (Or.inl rfl)) (pgs_cons (pg_name (i := 5) nd rfl (Or.inl rfl)) pgs_nil))) (pss_cons (ps_set (i := 6) nd rfl (Or.inl rfl) (pe_op (op_addA (K := K) rfl) (pe_op (op_addA (K := K) rfl) (pv 4) (pv 5)) (pv 2)))
      (pss_cons (ps_expr (pe_bm PySem.F.plainAttrs_list PySem.F.slot_list_append PySem.F.type_list_append mt_append (pv 3) (pa_cons (pe_op op_mod (pv 6) pe_int) pa_nil)))
      (pss_one (ps_set (i := 2) nd rfl (Or.inl rfl) (pe_op op_fdivW (pv 6) pe_int))))))
      (pss_one (ps_ret (pv 3))))), ?_⟩
    try dsimp only [cxOf, Cx.nox, Cx.wish]
    obtain ⟨a, b, as, bs, c, rfl, ha, hb, hl, h24, q⟩ := h
    repeat walk_at "w"
    refine w_new fun p H1 n1 s1 f1 => ?_
    repeat walk_at "w"
    have m1 : min ((iL as).map V.int).length ((iL bs).map V.int).length = as.length := by rw [List.length_map, List.length_map, iL_len, iL_len]; omega
    refine fl_zip (fun i σ H' => ∃ v4 v5 v6, σ = [some (.ref a), some (.ref b), some (.int (keptN (as.take i) (bs.take i) c)), some (.ref p), v4, v5, v6] ∧ Same H H' ∧ H' p = some (.lst ((iL (carryN (as.take i) (bs.take i) c)).map V.int))) (s1.sqL ha) (s1.sqL hb)
      ⟨none, none, none, rfl, s1, f1⟩ (fun i σ H' _ ⟨_, _, _, _, sm, _⟩ => ⟨sm.sqL ha, sm.sqL hb⟩) (fun i x y T σ H2 H3 hx hy ⟨v4, v5, v6, e, sm, hp⟩ nT sT fT => ?_) (fun σ H2 ⟨v4, v5, v6, e, sm, hp⟩ => ?_)
    · subst e
      obtain ⟨u, hu1, rfl⟩ := iL_at hx
      obtain ⟨v, hv1, rfl⟩ := iL_at hy
      have t1 := take_snoc hu1
      have t2 := take_snoc hv1
      have hi1 := (List.getElem?_eq_some_iff.mp hu1).1
      have hll : (as.take i).length = (bs.take i).length := by rw [List.length_take, List.length_take]; omega
      obtain ⟨k1, k2⟩ := carry_snoc (as.take i) (bs.take i) c u v hll
      have hsz := carry_len (as.take i) (bs.take i) c hll
      repeat walk_at "w"
      refine w_append (sT.at hp) (by rw [List.length_map, iL_len, hsz, List.length_take, sizeLine_eq]; omega) (w_chg fun H4 e4 f4 => ?_)
      repeat walk_at "w"
      rw [show ((u : Int) + v + (keptN (as.take i) (bs.take i) c : Nat)) / 2 = ((keptN (as.take (i + 1)) (bs.take (i + 1)) c : Nat) : Int) by rw [t1, t2, k2]; norm_cast]
      refine ⟨_, _, _, rfl, e4.new (sm.trans sT) n1, ?_⟩
      · rw [f4, t1, t2, k1, iL_app, List.map_append, show ((u : Int) + v + (keptN (as.take i) (bs.take i) c : Nat)) % 2 = (((u + v + keptN (as.take i) (bs.take i) c) % 2 : Nat) : Int) by norm_cast]; rfl
    · subst e
      rw [m1] at hp
      repeat walk_at "w"
      refine q p H2 sm ?_
      rw [hp, List.take_length, hl, List.take_length]
theorem ok_law_less (c : Facts K mg) : Fn P w K mg "_law_less" 1 ["one", "other"] (spLess K) := by
  obtain ⟨fd, F⟩ := c.d_law_less
  refine Fn.mk' F c.g_law_less sc_law_less (fun vs H Q E h => ?_) (fun _ _ _ _ _ _ us hl => match us, hl with | [_, _], _ => rfl) (fun base cdv A outer s H vs Q E hr h => ?_)
  · exact len_law_less h
  · have nd := sc_law_less.nd
    have hu := hu_of hr
    refine ⟨_, (pss_cons (ps_for PassesOwn.never rfl (pi_zip (by rfl) c.f_zip (pa_cons (pe_revL (pv 0)) (pa_cons (pe_revL (pv 1)) pa_nil))) (pg_seq 2 (K := K) rfl rfl (pgs_cons (pg_name (i := 2) nd rfl (Or.inl rfl)) (pgs_cons (pg_name (i := 3) nd rfl (Or.inl rfl)) pgs_nil))) (pss_one (ps_if (pt_cmpR (op_neA (K := K) rfl hr.units) (pv 2) (pv 3) (nomark _)) (pss_one (ps_ret (pe_cmpR op_lt (pv 2) (pv 3) (nomark _)))) pss_nil)))
      (pss_one (ps_ret pe_bl))), ?_⟩
    try dsimp only [cxOf, Cx.nox, Cx.wish]
    obtain ⟨a, b, as, bs, rfl, ha, hb, hl, b1, b2, q⟩ := h
    repeat walk_at "w"
    refine w_ref2 ⟨ha, w_new fun p H1 n1 s1 f1 => ?_⟩
    repeat walk_at "w"
    refine w_ref2 ⟨s1.sqL hb, w_new fun r H2 n2 s2 f2 => ?_⟩
    rw [rev_iL] at f1 f2
    have m1 : min ((iL as.reverse).map V.int).length ((iL bs.reverse).map V.int).length = as.length := by rw [List.length_map, List.length_map, iL_len, iL_len, List.length_reverse, List.length_reverse]; omega
    refine fl_zip (fun i σ H' => ∃ v2 v3, σ = [some (.ref a), some (.ref b), v2, v3] ∧ Same H2 H' ∧ as.reverse.take i = bs.reverse.take i) (SqL.of (s2.at f1)) (SqL.of f2)
      ⟨none, none, rfl, Same.refl _, rfl⟩ (fun i σ H' _ ⟨_, _, _, sm, _⟩ => ⟨SqL.of (sm.at (s2.at f1)), SqL.of (sm.at f2)⟩) (fun i x y T σ H3 H4 hx hy ⟨v2, v3, e, sm, hp⟩ nT sT fT => ?_) (fun σ H3 ⟨v2, v3, e, sm, hp⟩ => ?_)
    · subst e
      obtain ⟨u, hu1, rfl⟩ := iL_at hx
      obtain ⟨v, hv1, rfl⟩ := iL_at hy
      repeat walk_at "w"
      refine ite2 (fun hk => ?_) (fun hk => ?_)
      · have hne : u ≠ v := by intro z; subst z; simp at hk
        repeat walk_at "w"
        have d1 := split_at hu1
        have d2 := split_at hv1
        have hlt : (valN as < valN bs) ↔ u < v := by
          have e1 : as = (as.reverse.drop (i + 1)).reverse ++ u :: (as.reverse.take i).reverse := by
            have := congrArg List.reverse d1
            rw [List.reverse_reverse] at this
            exact this.trans (by simp)
          have e2 : bs = (bs.reverse.drop (i + 1)).reverse ++ v :: (as.reverse.take i).reverse := by
            have := congrArg List.reverse d2
            rw [List.reverse_reverse, ← hp] at this
            exact this.trans (by simp)
          rw [e1, e2]
          have mu : u ∈ as := List.mem_reverse.mp (List.mem_of_getElem? hu1)
          have mv : v ∈ bs := List.mem_reverse.mp (List.mem_of_getElem? hv1)
          refine less_at (fun c hc => b1 c ?_) (fun c hc => b2 c ?_) ?_ (b1 u mu) (b2 v mv) hne
          · exact List.mem_reverse.mp (List.mem_of_mem_drop (List.mem_reverse.mp hc))
          · exact List.mem_reverse.mp (List.mem_of_mem_drop (List.mem_reverse.mp hc))
          · simp [hl]
        rw [show decide ((u : Int) < (v : Int)) = decide (valN as < valN bs) by rw [decide_eq_decide, hlt]; omega]
        exact q _ (s1.trans (s2.trans (sm.trans sT)))
      · have hne : u = v := by
          simp only [Bool.not_eq_true', decide_eq_false_iff_not, Decidable.not_not] at hk
          omega
        subst hne
        repeat walk_at "w"
        exact ⟨_, _, rfl, sm.trans sT, by rw [take_snoc hu1, take_snoc hv1, hp]⟩
    · subst e
      rw [m1] at hp
      repeat walk_at "w"
      have e1 : as.reverse.take as.length = as.reverse := List.take_of_length_le (by simp)
      have e2 : bs.reverse.take as.length = bs.reverse := List.take_of_length_le (by simp [hl])
      rw [e1, e2] at hp
      have e3 : as = bs := List.reverse_inj.mp hp
      have qq := q H3 (s1.trans (s2.trans sm))
      rw [e3, decide_eq_false (Nat.lt_irrefl _)] at qq
      exact qq
theorem ok_law_moved (c : Facts K mg) : Fn P w K mg "_law_moved" 1 ["bits", "many", "up"] (spMoved K) := by
  obtain ⟨fd, F⟩ := c.d_law_moved
  refine Fn.mk' F c.g_law_moved sc_law_moved (fun vs H Q E h => ?_) (fun _ _ _ _ _ _ us hl => match us, hl with | [_, _, _], _ => rfl) (fun base cdv A outer s H vs Q E hr h => ?_)
  · exact len_law_moved h
  · have nd := sc_law_moved.nd
    have hu := hu_of hr
    refine ⟨_, (pss_cons (ps_for PassesOwn.never rfl (pi_range1 (by rfl) c.f_range (pa_cons (pv 1) pa_nil)) (pg_name (i := 3) nd rfl (Or.inl rfl)) (pss_one (ps_if (pt_val (pv 2)) (pss_one (ps_set (i := 0) nd rfl (Or.inl rfl) (pe_op (op_addA (K := K) rfl) (pe_lst (pa_cons pe_int pa_nil)) (pe_slice (sl_any (K := K) rfl) (pv 0) po_none (po_some (pe_un un_neg pe_int)))))) (pss_one (ps_set (i := 0) nd rfl (Or.inl rfl) (pe_op (op_addA (K := K) rfl) (pe_slice (sl_any (K := K) rfl) (pv 0) (po_some pe_int) po_none) (pe_lst (pa_cons pe_int pa_nil))))))))
      (pss_one (ps_ret (pv 0)))), ?_⟩
    try dsimp only [cxOf, Cx.nox, Cx.wish]
    obtain ⟨a, bs, m, up, rfl, ha, h0, h24, hm, q⟩ := h
    have hne : bs ≠ [] := List.length_pos_iff.mp h0
    repeat walk_at "w"
    refine fl_rng1 (fun i σ H' => ∃ p v3, σ = [some (.ref p), some (.int m), some (.bl up), v3] ∧ Same H H' ∧ SqL K H' p ((iL (movN up i bs)).map V.int)) (by omega) (by omega) ⟨a, none, rfl, Same.refl _, ha⟩
      (fun i σ H2 hi ⟨p, v3, e, sm, hp⟩ => ?_) (fun σ H2 ⟨p, v3, e, sm, hp⟩ => ?_)
    · subst e
      have hml := mov_len up i bs hne
      have hll : ((iL (movN up i bs)).map V.int).length ≤ 24 := by rw [List.length_map, iL_len, hml]; exact h24
      repeat walk_at "w"
      cases up with
      | true =>
        repeat walk_at "w"
        refine w_new fun p2 H3 n3 s3 f3 => ?_
        repeat walk_at "w"
        refine w_new fun p3 H4 n4 s4 f4 => ?_
        refine w_addL (s4.at f3) f4 (by have := cutV_length ((iL (movN true i bs)).map V.int) none (some (-1)); rw [sizeLine_eq]; simp only [List.length_cons, List.length_nil]; omega) (w_new fun p4 H5 n5 s5 f5 => ?_)
        repeat walk_at "w"
        refine ⟨p4, _, rfl, sm.trans (s3.trans (s4.trans s5)), SqL.of ?_⟩
        rw [f5, cut_init]
        show _ = some (HO.lst ((iL (0 :: (movN true i bs).dropLast)).map V.int))
        unfold iL
        rw [List.map_cons, List.map_cons, List.map_dropLast, List.map_dropLast]; rfl
      | false =>
        repeat walk_at "w"
        refine w_new fun p2 H3 n3 s3 f3 => ?_
        repeat walk_at "w"
        refine w_new fun p3 H4 n4 s4 f4 => ?_
        refine w_addL (s4.at f3) f4 (by have := cutV_length ((iL (movN false i bs)).map V.int) (some 1) none; rw [sizeLine_eq]; simp only [List.length_cons, List.length_nil]; omega) (w_new fun p4 H5 n5 s5 f5 => ?_)
        repeat walk_at "w"
        refine ⟨p4, _, rfl, sm.trans (s3.trans (s4.trans s5)), SqL.of ?_⟩
        rw [f5, cut_tail]
        show _ = some (HO.lst ((iL ((movN false i bs).drop 1 ++ [0])).map V.int))
        rw [iL_app, List.map_append]
        unfold iL
        rw [List.map_drop, List.map_drop]; rfl
    · subst e
      repeat walk_at "w"
      exact q p H2 sm (by rw [Int.toNat_natCast] at hp; exact hp)
theorem ok_law_due (c : Facts K mg) (G__law_bits : Fn P w K mg "_law_bits" 1 ["word", "width"] spBitsOf) (G__law_carried : Fn P w K mg "_law_carried" 1 ["one", "other", "kept"] (spCarried K)) (G__law_joined : Fn P w K mg "_law_joined" 1 ["bits"] (spJoined K)) (G__law_less : Fn P w K mg "_law_less" 1 ["one", "other"] (spLess K)) (G__law_moved : Fn P w K mg "_law_moved" 1 ["bits", "many", "up"] (spMoved K)) : Fn P w K mg "_law_due" 2 ["op", "one", "other", "width"] spDue := by
  obtain ⟨fd, F⟩ := c.d_law_due
  refine Fn.mk' F c.g_law_due sc_law_due (fun vs H Q E h => ?_) (fun _ _ _ _ _ _ us hl => match us, hl with | [_, _, _, _], _ => rfl) (fun base cdv A outer s H vs Q E hr h => ?_)
  · exact len_law_due h
  · have nd := sc_law_due.nd
    have hu := hu_of hr
    have hr__law_bits : Room 1 _ := hr.mono (by decide)
    have hr__law_carried : Room 1 _ := hr.mono (by decide)
    have hr__law_joined : Room 1 _ := hr.mono (by decide)
    have hr__law_less : Room 1 _ := hr.mono (by decide)
    have hr__law_moved : Room 1 _ := hr.mono (by decide)
    refine ⟨_, (pss_cons (ps_set (i := 4) nd rfl (Or.inl rfl) (pe_fn G__law_bits hr__law_bits (by rfl) (pa_cons (pv 1) (pa_cons (pv 3) pa_nil))))
      (pss_cons (ps_set (i := 5) nd rfl (Or.inl rfl) (pe_fn G__law_bits hr__law_bits (by rfl) (pa_cons (pv 2) (pa_cons (pv 3) pa_nil))))
      (pss_cons (ps_if (pt_cmpR (op_eqA (K := K) rfl hr.units) (pv 0) pe_str (nomark _)) (pss_one (ps_ret (pe_fn G__law_joined hr__law_joined (by rfl) (pa_cons (pe_fn G__law_carried hr__law_carried (by rfl) (pa_cons (pv 4) (pa_cons (pv 5) (pa_cons pe_int pa_nil)))) pa_nil)))) pss_nil)
      (pss_cons (ps_if (pt_cmpR (op_eqA (K := K) rfl hr.units) (pv 0) pe_str (nomark _)) (pss_one (ps_ret (pe_fn G__law_joined hr__law_joined (by rfl) (pa_cons (pe_fn G__law_carried hr__law_carried (by rfl) (pa_cons (pv 4) (pa_cons (pe_lc (own := [("bit", 8)]) rfl nd (pi_list (pv 5)) (blkOk_by (N := N_law_due) (sc := defScope s_law_due) (by decide +kernel)) (fun _ _ _ _ _ => (pg_name (i := 8) nd rfl (Or.inl rfl))) (fun _ _ _ _ _ => pts_nil) (fun _ _ _ _ _ => (pe_op op_sub pe_int (pv 8)))) (pa_cons pe_int pa_nil)))) pa_nil)))) pss_nil)
      (pss_cons (ps_if (PW.pt (pw_or (pt_cmpR (op_eqA (K := K) rfl hr.units) (pv 0) pe_str (nomark _)) (pw_or1 (pt_cmpR (op_eqA (K := K) rfl hr.units) (pv 0) pe_str (nomark _))))) (pss_one (ps_ret (pe_ifExp (pt_cmpR (op_eqA (K := K) rfl hr.units) (pv 0) pe_str (nomark _)) (pe_callTy call_int1A (by rfl) c.f_int boot_int (pa_cons (pe_fn G__law_less hr__law_less (by rfl) (pa_cons (pv 4) (pa_cons (pv 5) pa_nil))) pa_nil)) (pe_callTy call_int1A (by rfl) c.f_int boot_int (pa_cons (pe_cmpR (op_eqA (K := K) rfl hr.units) (pv 4) (pv 5) (nomark _)) pa_nil))))) pss_nil)
      (pss_cons (ps_if (PW.pt (pw_or (pt_cmpR (op_eqA (K := K) rfl hr.units) (pv 0) pe_str (nomark _)) (pw_or1 (pt_cmpR (op_eqA (K := K) rfl hr.units) (pv 0) pe_str (nomark _))))) (pss_one (ps_ret (pe_fn G__law_joined hr__law_joined (by rfl) (pa_cons (pe_fn G__law_moved hr__law_moved (by rfl) (pa_cons (pv 4) (pa_cons (pe_op op_mod (pv 2) (pv 3)) (pa_cons (pe_cmpR (op_eqA (K := K) rfl hr.units) (pv 0) pe_str (nomark _)) pa_nil)))) pa_nil)))) pss_nil)
      (pss_cons (ps_set (i := 6) nd rfl (Or.inr rfl) (pe_dget hu (pe_disp (pps_cons pe_str pe_int (pps_cons pe_str pe_int (pps_cons pe_str pe_int pps_nil))) rfl rfl (by simp) (by decide)) (pv 0) (fun _ _ => rfl)))
      (pss_cons (ps_set (i := 7) nd rfl (Or.inr rfl) (pe_dget hu (pe_disp (pps_cons pe_str pe_int (pps_cons pe_str pe_int (pps_cons pe_str pe_int pps_nil))) rfl rfl (by simp) (by decide)) (pv 0) (fun _ _ => rfl)))
      (pss_one (ps_ret (pe_fn G__law_joined hr__law_joined (by rfl) (pa_cons (pe_lc (own := [("here", 9), ("there", 10)]) rfl nd (pi_zip (by rfl) c.f_zip (pa_cons (pv 4) (pa_cons (pv 5) pa_nil))) (blkOk_by (N := N_law_due) (sc := defScope s_law_due) (by decide +kernel)) (fun _ _ _ _ _ => (pg_seq 2 (K := K) rfl rfl (pgs_cons (pg_name (i := 9) nd rfl (Or.inl rfl)) (pgs_cons (pg_name (i := 10) nd rfl (Or.inl rfl)) pgs_nil)))) (fun _ _ _ _ _ => pts_nil) (fun _ _ _ _ _ => (pe_callTy call_int1A (by rfl) c.f_int boot_int (pa_cons (pe_chain op_le op_le (pv 6) (pe_op (op_addA (K := K) rfl) (pv 9) (pv 10)) (pv 7)) pa_nil)))) pa_nil)))))))))))), ?_⟩
    try dsimp only [cxOf, Cx.nox, Cx.wish]
    obtain ⟨op, x, y, w, rfl, ho, h4, h24, hx, hy, q⟩ := h
    obtain ⟨n, a, rfl, rfl, hn, ha⟩ := word_nat (by omega) hx
    obtain ⟨b, rfl, hb⟩ := word_nat2 hn hy
    have hna : (bitsN a n).length = n := bitsN_len a n
    have hnb : (bitsN b n).length = n := bitsN_len b n
    have va : valN (bitsN a n) = a := by rw [valN_bits, Nat.mod_eq_of_lt ha]
    have vb : valN (bitsN b n) = b := by rw [valN_bits, Nat.mod_eq_of_lt hb]
    have ba := bitsN_bits a n
    have bb := bitsN_bits b n
    have hl : (bitsN a n).length = (bitsN b n).length := by rw [hna, hnb]
    have ne : bitsN a n ≠ [] := fun e => by rw [e] at hna; simp at hna; omega
    repeat walk_at "w"
    refine ⟨a, n, rfl, by omega, fun p1 H1 s1 n1 f1 => ?_⟩
    repeat walk_at "w"
    refine ⟨b, n, rfl, by omega, fun p2 H2 s2 n2 f2 => ?_⟩
    have fin : ∀ (p3 : Addr) (bs : List Nat) (H3 : Hp) (v : Int), H3 p3 = some (.lst ((iL bs).map V.int)) → Same H H3 → (valN bs : Int) = reck op a b n → spJoined K [.ref p3] H3 Q E0 := fun p3 bs H3 v f3 s3 e => ⟨p3, bs, rfl, SqL.of f3, by rw [e]; exact q _ s3⟩
    simp only [allOps, List.mem_cons, List.not_mem_nil, or_false] at ho
    rcases ho with rfl | rfl | rfl | rfl | rfl | rfl | rfl | rfl | rfl
    · repeat walk_at "wd"
      refine ⟨p1, p2, _, _, 0, rfl, SqL.of (s2.at f1), SqL.of f2, hl, by omega, fun p3 H3 s3 f3 => ?_⟩
      repeat walk_at "wd"
      exact fin p3 _ H3 0 f3 (s1.trans (s2.trans s3)) (by rw [carry_val _ _ _ hl, va, vb, hna, Nat.add_zero, reck_add])
    · repeat walk_at "wd"
      refine lc_L (j := 8) ((iL (bitsN b n)).map V.int) (fun D i ys H' => Same H2 H' ∧ ys = ((iL (coN ((bitsN b n).take i))).map V.int)) (SqL.of f2) (fun D H' n s f => ⟨s, rfl⟩) (fun D n i ys H' _ _ ⟨s, _⟩ => s.sqL (SqL.of f2))
        (fun D nD i v ys H' hi hl' hD ⟨sm, ey⟩ => ?_) (fun D nD ys H' hl' hD ⟨sm, ey⟩ => ?_)
      · obtain ⟨u, hu, rfl⟩ := iL_at hi
        have hi24 := (List.getElem?_eq_some_iff.mp hu).1
        have hu2 : u < 2 := bb u (List.mem_of_getElem? hu)
        repeat walk_at "wd"
        refine lc_end hD hl' (by rw [sizeLine_eq]; omega) fun H3 e3 f3 => ⟨e3.new sm nD, ?_⟩
        rw [ey, take_snoc hu]
        unfold coN iL
        rw [List.map_append, List.map_append, List.map_append, show (1 : Int) - (u : Int) = ((1 - u : Nat) : Int) by omega]; rfl
      · repeat walk_at "wd"
        have ll : (coN (bitsN b n)).length = n := by rw [co_len, hnb]
        have e2 : ((iL (bitsN b n)).map V.int).length = n := by rw [List.length_map, iL_len, hnb]
        rw [ey, e2, List.take_of_length_le (by omega)] at hD
        refine ⟨p1, D, _, _, 1, rfl, SqL.of (sm.at (s2.at f1)), SqL.of hD, by rw [hna, ll], by omega, fun p3 H3 s3 f3 => ?_⟩
        repeat walk_at "wd"
        refine fin p3 _ H3 0 f3 (s1.trans (s2.trans (sm.trans s3))) ?_
        rw [carry_val _ _ _ (by rw [hna, ll]), va, hna, reck_sub]
        have hc := co_val bb
        rw [vb, hnb] at hc
        have : ((a + valN (coN (bitsN b n)) + 1 : Nat) : Int) = ((a : Int) - b) + 1 * ((2 ^ n : Nat) : Int) := by omega
        rw [show (((a + valN (coN (bitsN b n)) + 1) % 2 ^ n : Nat) : Int) = ((a + valN (coN (bitsN b n)) + 1 : Nat) : Int) % ((2 ^ n : Nat) : Int) by norm_cast, this, Int.add_mul_emod_self_right]
    · repeat walk_at "wd"
      refine w_disp fun d1 H3 n3 s3 f3 => ?_
      repeat walk_at "wd"
      refine ⟨f3, [(.inr "&", .int 2), (.inr "|", .int 1), (.inr "^", .int 1)], rfl, by decide, w_chg fun H4 e4 f4 => ?_⟩
      have s4 : Same H2 H4 := e4.new s3 n3
      repeat walk_at "wd"
      refine w_dgotS f4 (v := .int 2) (by rfl) ?_
      repeat walk_at "wd"
      refine w_disp fun d2 H5 n5 s5 f5 => ?_
      repeat walk_at "wd"
      refine ⟨f5, [(.inr "&", .int 2), (.inr "|", .int 2), (.inr "^", .int 1)], rfl, by decide, w_chg fun H6 e6 f6 => ?_⟩
      have s6 : Same H2 H6 := s4.trans (e6.new s5 n5)
      repeat walk_at "wd"
      refine w_dgotS f6 (v := .int 2) (by rfl) ?_
      repeat walk_at "wd"
      have e2 : min ((iL (bitsN a n)).map V.int).length ((iL (bitsN b n)).map V.int).length = n := by rw [List.length_map, iL_len, hna, List.length_map, iL_len, hnb, Nat.min_self]
      refine lc_zip (i0 := 9) (j0 := 10) (by decide) (fun D i ys H' => Same H6 H' ∧ ys = ((iL (twoN 2 2 ((bitsN a n).take i) ((bitsN b n).take i))).map V.int)) (SqL.of (s6.at (s2.at f1))) (SqL.of (s6.at f2)) (fun D H' n s f => ⟨s, rfl⟩)
        (fun D n i ys H' _ _ ⟨s, _⟩ => ⟨SqL.of (s.at (s6.at (s2.at f1))), SqL.of (s.at (s6.at f2))⟩) (fun D nD i x y ys H7 H8 hx hy hl' hD ⟨sm, ey⟩ s8 => ?_) (fun D nD ys H7 hl' hD ⟨sm, ey⟩ => ?_)
      · obtain ⟨u, hu, rfl⟩ := iL_at hx
        obtain ⟨v, hv, rfl⟩ := iL_at hy
        have hi24 := (List.getElem?_eq_some_iff.mp hu).1
        repeat walk_at "wd"
        have fin2 : ∀ z : Int, z = ((if 2 ≤ u + v ∧ u + v ≤ 2 then 1 else 0 : Nat) : Int) → LcEnd D (fun i ys H' => Same H6 H' ∧ ys = ((iL (twoN 2 2 ((bitsN a n).take i) ((bitsN b n).take i))).map V.int)) i (.int z) H8 := fun z ez => by
          refine lc_end (s8.at hD) hl' (by rw [sizeLine_eq]; omega) fun H9 e9 f9 => ⟨e9.new (sm.trans s8) nD, ?_⟩
          have ht : twoN 2 2 ((bitsN a n).take (i + 1)) ((bitsN b n).take (i + 1)) = twoN 2 2 ((bitsN a n).take i) ((bitsN b n).take i) ++ [if 2 ≤ u + v ∧ u + v ≤ 2 then 1 else 0] := by
            rw [take_snoc hu, take_snoc hv]
            unfold twoN
            rw [List.zipWith_append (by rw [List.length_take, List.length_take, hl])]; rfl
          rw [ht, iL_app, List.map_append, ey, ez]; rfl
        refine ite2 (fun hk => ?_) (fun hk => ?_) <;> simp only [decide_eq_true_eq] at hk
        · repeat walk_at "wd"
          refine fin2 _ ?_
          simp only [decide_eq_true_eq]
          split <;> split <;> omega
        · repeat walk_at "wd"
          refine fin2 _ ?_
          simp only [Bool.false_eq_true, if_false]
          split <;> omega
      · repeat walk_at "wd"
        rw [ey, e2, List.take_of_length_le (by omega), List.take_of_length_le (by omega)] at hD
        refine ⟨D, _, rfl, SqL.of hD, ?_⟩
        rw [two_and ba bb hl, va, vb, ← reck_and n]
        exact q _ (s1.trans (s2.trans (s6.trans sm)))
    · repeat walk_at "wd"
      refine w_disp fun d1 H3 n3 s3 f3 => ?_
      repeat walk_at "wd"
      refine ⟨f3, [(.inr "&", .int 2), (.inr "|", .int 1), (.inr "^", .int 1)], rfl, by decide, w_chg fun H4 e4 f4 => ?_⟩
      have s4 : Same H2 H4 := e4.new s3 n3
      repeat walk_at "wd"
      refine w_dgotS f4 (v := .int 1) (by rfl) ?_
      repeat walk_at "wd"
      refine w_disp fun d2 H5 n5 s5 f5 => ?_
      repeat walk_at "wd"
      refine ⟨f5, [(.inr "&", .int 2), (.inr "|", .int 2), (.inr "^", .int 1)], rfl, by decide, w_chg fun H6 e6 f6 => ?_⟩
      have s6 : Same H2 H6 := s4.trans (e6.new s5 n5)
      repeat walk_at "wd"
      refine w_dgotS f6 (v := .int 2) (by rfl) ?_
      repeat walk_at "wd"
      have e2 : min ((iL (bitsN a n)).map V.int).length ((iL (bitsN b n)).map V.int).length = n := by rw [List.length_map, iL_len, hna, List.length_map, iL_len, hnb, Nat.min_self]
      refine lc_zip (i0 := 9) (j0 := 10) (by decide) (fun D i ys H' => Same H6 H' ∧ ys = ((iL (twoN 1 2 ((bitsN a n).take i) ((bitsN b n).take i))).map V.int)) (SqL.of (s6.at (s2.at f1))) (SqL.of (s6.at f2)) (fun D H' n s f => ⟨s, rfl⟩)
        (fun D n i ys H' _ _ ⟨s, _⟩ => ⟨SqL.of (s.at (s6.at (s2.at f1))), SqL.of (s.at (s6.at f2))⟩) (fun D nD i x y ys H7 H8 hx hy hl' hD ⟨sm, ey⟩ s8 => ?_) (fun D nD ys H7 hl' hD ⟨sm, ey⟩ => ?_)
      · obtain ⟨u, hu, rfl⟩ := iL_at hx
        obtain ⟨v, hv, rfl⟩ := iL_at hy
        have hi24 := (List.getElem?_eq_some_iff.mp hu).1
        repeat walk_at "wd"
        have fin2 : ∀ z : Int, z = ((if 1 ≤ u + v ∧ u + v ≤ 2 then 1 else 0 : Nat) : Int) → LcEnd D (fun i ys H' => Same H6 H' ∧ ys = ((iL (twoN 1 2 ((bitsN a n).take i) ((bitsN b n).take i))).map V.int)) i (.int z) H8 := fun z ez => by
          refine lc_end (s8.at hD) hl' (by rw [sizeLine_eq]; omega) fun H9 e9 f9 => ⟨e9.new (sm.trans s8) nD, ?_⟩
          have ht : twoN 1 2 ((bitsN a n).take (i + 1)) ((bitsN b n).take (i + 1)) = twoN 1 2 ((bitsN a n).take i) ((bitsN b n).take i) ++ [if 1 ≤ u + v ∧ u + v ≤ 2 then 1 else 0] := by
            rw [take_snoc hu, take_snoc hv]
            unfold twoN
            rw [List.zipWith_append (by rw [List.length_take, List.length_take, hl])]; rfl
          rw [ht, iL_app, List.map_append, ey, ez]; rfl
        refine ite2 (fun hk => ?_) (fun hk => ?_) <;> simp only [decide_eq_true_eq] at hk
        · repeat walk_at "wd"
          refine fin2 _ ?_
          simp only [decide_eq_true_eq]
          split <;> split <;> omega
        · repeat walk_at "wd"
          refine fin2 _ ?_
          simp only [Bool.false_eq_true, if_false]
          split <;> omega
      · repeat walk_at "wd"
        rw [ey, e2, List.take_of_length_le (by omega), List.take_of_length_le (by omega)] at hD
        refine ⟨D, _, rfl, SqL.of hD, ?_⟩
        rw [two_or ba bb hl, va, vb, ← reck_or n]
        exact q _ (s1.trans (s2.trans (s6.trans sm)))
    · repeat walk_at "wd"
      refine w_disp fun d1 H3 n3 s3 f3 => ?_
      repeat walk_at "wd"
      refine ⟨f3, [(.inr "&", .int 2), (.inr "|", .int 1), (.inr "^", .int 1)], rfl, by decide, w_chg fun H4 e4 f4 => ?_⟩
      have s4 : Same H2 H4 := e4.new s3 n3
      repeat walk_at "wd"
      refine w_dgotS f4 (v := .int 1) (by rfl) ?_
      repeat walk_at "wd"
      refine w_disp fun d2 H5 n5 s5 f5 => ?_
      repeat walk_at "wd"
      refine ⟨f5, [(.inr "&", .int 2), (.inr "|", .int 2), (.inr "^", .int 1)], rfl, by decide, w_chg fun H6 e6 f6 => ?_⟩
      have s6 : Same H2 H6 := s4.trans (e6.new s5 n5)
      repeat walk_at "wd"
      refine w_dgotS f6 (v := .int 1) (by rfl) ?_
      repeat walk_at "wd"
      have e2 : min ((iL (bitsN a n)).map V.int).length ((iL (bitsN b n)).map V.int).length = n := by rw [List.length_map, iL_len, hna, List.length_map, iL_len, hnb, Nat.min_self]
      refine lc_zip (i0 := 9) (j0 := 10) (by decide) (fun D i ys H' => Same H6 H' ∧ ys = ((iL (twoN 1 1 ((bitsN a n).take i) ((bitsN b n).take i))).map V.int)) (SqL.of (s6.at (s2.at f1))) (SqL.of (s6.at f2)) (fun D H' n s f => ⟨s, rfl⟩)
        (fun D n i ys H' _ _ ⟨s, _⟩ => ⟨SqL.of (s.at (s6.at (s2.at f1))), SqL.of (s.at (s6.at f2))⟩) (fun D nD i x y ys H7 H8 hx hy hl' hD ⟨sm, ey⟩ s8 => ?_) (fun D nD ys H7 hl' hD ⟨sm, ey⟩ => ?_)
      · obtain ⟨u, hu, rfl⟩ := iL_at hx
        obtain ⟨v, hv, rfl⟩ := iL_at hy
        have hi24 := (List.getElem?_eq_some_iff.mp hu).1
        repeat walk_at "wd"
        have fin2 : ∀ z : Int, z = ((if 1 ≤ u + v ∧ u + v ≤ 1 then 1 else 0 : Nat) : Int) → LcEnd D (fun i ys H' => Same H6 H' ∧ ys = ((iL (twoN 1 1 ((bitsN a n).take i) ((bitsN b n).take i))).map V.int)) i (.int z) H8 := fun z ez => by
          refine lc_end (s8.at hD) hl' (by rw [sizeLine_eq]; omega) fun H9 e9 f9 => ⟨e9.new (sm.trans s8) nD, ?_⟩
          have ht : twoN 1 1 ((bitsN a n).take (i + 1)) ((bitsN b n).take (i + 1)) = twoN 1 1 ((bitsN a n).take i) ((bitsN b n).take i) ++ [if 1 ≤ u + v ∧ u + v ≤ 1 then 1 else 0] := by
            rw [take_snoc hu, take_snoc hv]
            unfold twoN
            rw [List.zipWith_append (by rw [List.length_take, List.length_take, hl])]; rfl
          rw [ht, iL_app, List.map_append, ey, ez]; rfl
        refine ite2 (fun hk => ?_) (fun hk => ?_) <;> simp only [decide_eq_true_eq] at hk
        · repeat walk_at "wd"
          refine fin2 _ ?_
          simp only [decide_eq_true_eq]
          split <;> split <;> omega
        · repeat walk_at "wd"
          refine fin2 _ ?_
          simp only [Bool.false_eq_true, if_false]
          split <;> omega
      · repeat walk_at "wd"
        rw [ey, e2, List.take_of_length_le (by omega), List.take_of_length_le (by omega)] at hD
        refine ⟨D, _, rfl, SqL.of hD, ?_⟩
        rw [two_xor ba bb hl, va, vb, ← reck_xor n]
        exact q _ (s1.trans (s2.trans (s6.trans sm)))
    · repeat walk_at "wd"
      have hbn : ((b : Int) % (n : Int)) = ((b % n : Nat) : Int) := by norm_cast
      have hbl : b % n < n := Nat.mod_lt _ (by omega)
      rw [hbn]
      refine ⟨p1, _, b % n, true, rfl, SqL.of (s2.at f1), by omega, by omega, by omega, fun p3 H3 s3 f3 => ?_⟩
      repeat walk_at "wd"
      refine ⟨p3, _, rfl, f3, ?_⟩
      rw [mov_up ba ne, va, hna, ← reck_shl]
      exact q _ (s1.trans (s2.trans s3))
    · repeat walk_at "wd"
      have hbn : ((b : Int) % (n : Int)) = ((b % n : Nat) : Int) := by norm_cast
      have hbl : b % n < n := Nat.mod_lt _ (by omega)
      rw [hbn]
      rw [show decide ((">>" : Str) = "<<") = false by decide +kernel]
      refine ⟨p1, _, b % n, false, rfl, SqL.of (s2.at f1), by omega, by omega, by omega, fun p3 H3 s3 f3 => ?_⟩
      repeat walk_at "wd"
      refine ⟨p3, _, rfl, f3, ?_⟩
      rw [mov_down ba ne, va, ← reck_shr]
      exact q _ (s1.trans (s2.trans s3))
    · repeat walk_at "wd"
      refine ⟨p1, p2, _, _, rfl, SqL.of (s2.at f1), SqL.of f2, hl, ba, bb, fun H3 s3 => ?_⟩
      repeat walk_at "wd"
      rw [va, vb, show (if decide (a < b) = true then (1 : Int) else 0) = reck "<" a b n by rw [reck_lt]; by_cases h : a < b <;> simp [h]]
      exact q _ (s1.trans (s2.trans s3))
    · repeat walk_at "wd"
      refine w_eqIL (SqL.of (s2.at f1)) (SqL.of f2) ?_
      repeat walk_at "wd"
      have e : (iL (bitsN a n) = iL (bitsN b n)) ↔ a = b := by
        constructor
        · intro h
          have := congrArg valN (iL_inj h)
          rw [va, vb] at this; exact this
        · intro h; rw [h]
      rw [show (if decide (iL (bitsN a n) = iL (bitsN b n)) = true then (1 : Int) else 0) = reck "=" a b n by rw [reck_eq]; by_cases h : a = b <;> simp [h, e]; omega]
      exact q _ (s1.trans s2)
theorem ok_law_word (c : Facts K mg) (G__law_take : Fn P w K mg "_law_take" 1 ["stream", "many"] spTake) : Fn P w K mg "_law_word" 2 ["stream", "width"] spWord := by
  obtain ⟨fd, F⟩ := c.d_law_word
  refine Fn.mk' F c.g_law_word sc_law_word (fun vs H Q E h => ?_) (fun _ _ _ _ _ _ us hl => match us, hl with | [_, _], _ => rfl) (fun base cdv A outer s H vs Q E hr h => ?_)
  · exact len_law_word h
  · have nd := sc_law_word.nd
    have hu := hu_of hr
    have hr__law_take : Room 1 _ := hr.mono (by decide)
    refine ⟨_, (pss_cons (ps_set (i := 2) nd rfl (Or.inl rfl) (pe_fn G__law_take hr__law_take (by rfl) (pa_cons (pv 0) (pa_cons pe_int pa_nil))))
      (pss_cons (ps_set (i := 3) nd rfl (Or.inl rfl) (pe_lst (pa_cons pe_int (pa_cons pe_int (pa_cons (pe_op op_sub (pe_op op_shl pe_int (pv 1)) pe_int) (pa_cons (pe_op op_shl pe_int (pe_op op_sub (pv 1) pe_int)) (pa_cons (pe_op op_mod (pv 1) (pe_op op_shl pe_int (pv 1))) (pa_cons (pe_op op_sub (pe_op (op_addA (K := K) rfl) (pv 1) pe_int) (pe_op op_mulA pe_int (pe_fn G__law_take hr__law_take (by rfl) (pa_cons (pv 0) (pa_cons pe_int pa_nil))))) pa_nil))))))))
      (pss_cons (ps_if (pt_cmpR op_lt (pv 2) pe_int (nomark _)) (pss_one (ps_ret (pe_op op_mod (pe_ix (ix_any (K := K) rfl) (pv 3) (pv 2) (fun _ _ => rfl)) (pe_op op_shl pe_int (pv 1))))) pss_nil)
      (pss_one (ps_ret (pe_fn G__law_take hr__law_take (by rfl) (pa_cons (pv 0) (pa_cons (pe_op op_shl pe_int (pv 1)) pa_nil)))))))), ?_⟩
    try dsimp only [cxOf, Cx.nox, Cx.wish]
    obtain ⟨s, w, rfl, hs, h4, h24, q⟩ := h
    have t16 := two16 h4
    have t2 := (two_le (by omega) h24).2
    have ew : ((1 : Int) * 2 ^ w.toNat) = 2 ^ w.toNat := Int.one_mul _
    repeat walk_at "w"
    refine ⟨s, 8, rfl, hs, by decide, by decide, fun way H1 w0 w1 hs1 e1 => ?_⟩
    repeat walk_at "w"
    refine ⟨s, 2, rfl, hs1, by decide, by decide, fun d H2 d0 d1 hs2 e2 => ?_⟩
    repeat walk_at "w"
    rw [ew] at *
    repeat walk_at "w"
    refine w_new fun p H3 n3 s3 f3 => ?_
    repeat walk_at "w"
    refine ite2 (fun hk => ?_) (fun hk => ?_) <;> simp only [decide_eq_true_eq] at hk
    · repeat walk_at "w"
      obtain ⟨v, e, hm, _⟩ := atI_some (xs := [V.int 0, V.int 1, V.int (2 ^ w.toNat - 1), V.int (1 * 2 ^ (w - 1).toNat), V.int (w % 2 ^ w.toNat), V.int (w + 1 - 2 * d)]) w0 (by simpa using hk)
      obtain ⟨u, rfl⟩ : ∃ u : Int, v = .int u := by
        simp only [List.mem_cons, List.not_mem_nil, or_false] at hm
        rcases hm with rfl | rfl | rfl | rfl | rfl | rfl <;> exact ⟨_, rfl⟩
      refine w_ixL (SqL.of f3) e ?_
      have hpos : 0 < 1 * (2 : Int) ^ w.toNat := by omega
      repeat walk_at "w"
      have q0 := Int.emod_nonneg u (show (2 : Int) ^ w.toNat ≠ 0 by omega)
      have q1 := Int.emod_lt_of_pos u (show (0 : Int) < 2 ^ w.toNat by omega)
      rw [Int.one_mul]
      exact q _ _ ⟨q0, q1⟩ (s3.stm hs2) ((e1.trans e2).trans (But.of s3))
    · repeat walk_at "w"
      rw [ew]
      refine ⟨s, _, rfl, s3.stm hs2, by omega, by omega, fun u H4 u0 u1 hs4 e4 => ?_⟩
      exact q _ _ ⟨u0, by omega⟩ hs4 ((e1.trans e2).trans ((But.of s3).trans e4))
theorem ok_law_whole (c : Facts K mg) : Fn P w K mg "_law_whole" 1 ["found", "due"] spWhole := by
  obtain ⟨fd, F⟩ := c.d_law_whole
  refine Fn.mk' F c.g_law_whole sc_law_whole (fun vs H Q E h => ?_) (fun _ _ _ _ _ _ us hl => match us, hl with | [_, _], _ => rfl) (fun base cdv A outer s H vs Q E hr h => ?_)
  · exact len_law_whole h
  · have nd := sc_law_whole.nd
    have hu := hu_of hr
    refine ⟨_, (pss_one (ps_ret (pe_and (pe_callB (call_isiA (K := K) rfl) (by rfl) c.f_isinstance boot_isinstance (pa_cons (pv 0) (pa_cons (pe_bltn (v := .ty "int") (by rfl) c.f_int boot_int rfl) pa_nil))) (pe_and (pe_not (pe_callB (call_isiA (K := K) rfl) (by rfl) c.f_isinstance boot_isinstance (pa_cons (pv 0) (pa_cons (pe_bltn (v := .ty "bool") (by rfl) c.f_bool boot_bool rfl) pa_nil)))) (pe_one (pe_cmpR (op_eqA (K := K) rfl hr.units) (pv 0) (pv 1) (nomark _))))))), ?_⟩
    try dsimp only [cxOf, Cx.nox, Cx.wish]
    obtain ⟨x, y, rfl, q⟩ := h
    repeat walk_at "w"
    exact q
theorem ok_ops_told (c : Facts K mg) : Fn P w K mg "ops_told" 1 [] spOps := by
  obtain ⟨fd, F⟩ := c.d_ops_told
  refine Fn.mk' F c.g_ops_told sc_ops_told (fun vs H Q E h => ?_) (fun _ _ _ _ _ _ us hl => match us, hl with | [], _ => rfl) (fun base cdv A outer s H vs Q E hr h => ?_)
  · exact len_ops_told h
  · have nd := sc_ops_told.nd
    have hu := hu_of hr
    refine ⟨_, (pss_one (ps_ret (pe_bm PySem.F.plainAttrs_str PySem.F.slot_str_split PySem.F.type_str_split mt_splitA (pe_gS (by rfl) c.g_OPS) (pa_cons pe_str pa_nil)))), ?_⟩
    try dsimp only [cxOf, Cx.nox, Cx.wish]
    obtain ⟨rfl, q⟩ := h
    repeat walk_at "w"
    refine w_tyS ?_
    repeat walk_at "w"
    exact w_split (ys := allOps) (by decide +kernel) (by decide +kernel) (by decide +kernel) (w_new fun p H1 n1 s1 f1 => q p H1 s1 n1 f1)
end

end J
namespace J
open PySem PySem.Spec PyProof.Rows L2
local macro_rules | `(tactic| walk_at "ty") => `(tactic| first
  | with_reducible exact ty_int
  | with_reducible exact ty_bl
  | with_reducible exact ty_str
  | with_reducible exact ty_non
  | ((with_reducible refine' ty_lst ?vv); (case vv => walk_at "tr"))
  | ((with_reducible refine' ty_tup ?vv); (case vv => walk_at "tr"))
  | ((with_reducible refine' ty_dic ?vv); (case vv => walk_at "tr")))
local macro_rules | `(tactic| walk_at "ix") => `(tactic| first | exact at0 | exact at1 | exact at2 | assumption)
local macro_rules | `(tactic| walk_at "size") => `(tactic| first
  | assumption
  | (show _ < sizeLine; rw [sizeLine_eq]; simp only [List.length_cons, List.length_nil, List.length_append, List.length_map]; omega)
  | (show _ ≤ sizeLine; rw [sizeLine_eq]; simp only [List.length_cons, List.length_nil, List.length_append, List.length_map]; omega))
local macro_rules | `(tactic| walk_at "side") => `(tactic| first
  | assumption
  | ((with_reducible refine cdw ?_ ?_) <;> omega)
  | omega
  | (exact ⟨by omega, by omega⟩)
  | (exact Or.inl ⟨by omega, by omega⟩)
  | (exact Or.inr ⟨by omega, by omega⟩)
  | decide
  | (simp only [List.length_cons, List.length_nil, List.length_append, List.length_map]; omega)
  | (show _ ≤ _; decide))
local macro_rules | `(tactic| walk_at "as") => `(tactic| with_reducible assumption)
local macro_rules | `(tactic| walk_at "tr") => `(tactic| first
  | with_reducible assumption
  | with_reducible exact upd_same
  | ((with_reducible refine' SqL.of ?hh); (case hh => walk_at "as"))
  | ((with_reducible refine' SqT.of ?hh); (case hh => walk_at "as"))
  | ((with_reducible refine' Same.stm ?ee ?gg); (case ee => walk_at "as"); (case gg => walk_at "tr"))
  | ((with_reducible refine' Same.sqT ?ee ?gg); (case ee => walk_at "as"); (case gg => walk_at "tr"))
  | ((with_reducible refine' Same.sqL ?ee ?gg); (case ee => walk_at "as"); (case gg => walk_at "tr"))
  | ((with_reducible refine' Same.at ?ee ?gg); (case ee => walk_at "as"); (case gg => walk_at "tr"))
  | ((with_reducible refine' But.stm ?ee ?ff ?gg); (case ee => walk_at "as"); (case ff => walk_at "ne"); (case gg => walk_at "tr"))
  | ((with_reducible refine' But.tup ?ee ?ff ?gg); (case ee => walk_at "as"); (case ff => walk_at "tr1"); (case gg => walk_at "tr"))
  | ((with_reducible refine' But.sqT ?ee ?ff ?gg); (case ee => walk_at "as"); (case ff => walk_at "tr1"); (case gg => walk_at "tr"))
  | ((with_reducible refine' But.tupL ?ee ?ff ?gg); (case ee => walk_at "as"); (case ff => walk_at "tr1"); (case gg => walk_at "tr"))
  | ((with_reducible refine' But.sqTL ?ee ?ff ?gg); (case ee => walk_at "as"); (case ff => walk_at "tr1"); (case gg => walk_at "tr"))
  | ((with_reducible refine' But.sqL ?ee ?ff ?gg); (case ee => walk_at "as"); (case ff => walk_at "ne"); (case gg => walk_at "tr"))
  | ((with_reducible refine' But.at ?ee ?ff ?gg); (case ee => walk_at "as"); (case ff => walk_at "ne"); (case gg => walk_at "tr")))
local macro_rules | `(tactic| walk_at "tr1") => `(tactic| first
  | with_reducible assumption
  | ((with_reducible refine' Same.stm ?ee ?gg); (case ee => walk_at "as"); (case gg => walk_at "tr1"))
  | ((with_reducible refine' Same.at ?ee ?gg); (case ee => walk_at "as"); (case gg => walk_at "tr1"))
  | ((with_reducible refine' But.at ?ee ?ff ?gg); (case ee => walk_at "as"); (case ff => walk_at "ne0"); (case gg => walk_at "tr1"))
  | ((with_reducible refine' But.stm ?ee ?ff ?gg); (case ee => walk_at "as"); (case ff => walk_at "ne0"); (case gg => walk_at "tr1")))
local macro_rules | `(tactic| walk_at "ne0") => `(tactic| first
  | with_reducible assumption
  | (with_reducible apply Ne.symm; with_reducible assumption))
local macro_rules | `(tactic| walk_at "ne") => `(tactic| first
  | with_reducible assumption
  | (with_reducible apply Ne.symm; with_reducible assumption)
  | ((with_reducible refine' ne_of_none ?hh ?nn); (case nn => walk_at "as"); (case hh => walk_at "tr1"))
  | ((with_reducible apply Ne.symm); (with_reducible refine' ne_of_none ?hh ?nn); (case nn => walk_at "as"); (case hh => walk_at "tr1")))
local macro_rules | `(tactic| walk_at "w") => `(tactic| first
  | with_reducible refine w_seq ?_
  | ((with_reducible refine' w_var ?vv ?_); (case vv => exact rfl))
  | with_reducible refine w_c ?_
  | with_reducible refine w_op ?_
  | with_reducible refine w_asg ?_
  | with_reducible refine w_gName ?_
  | with_reducible refine w_ret ?_
  | with_reducible refine w_ifS ?_
  | with_reducible refine w_drop ?_
  | with_reducible refine w_next ?_
  | with_reducible refine w_cons ?_
  | with_reducible refine w_nil ?_
  | with_reducible refine w_call ?_
  | with_reducible refine w_cb ?_
  | with_reducible refine w_rI0 ?_
  | with_reducible refine w_addI ?_
  | with_reducible refine w_eqI ?_
  | with_reducible refine w_neI ?_
  | with_reducible refine w_eqS ?_
  | with_reducible refine w_neS ?_
  | with_reducible refine w_eqB ?_
  | with_reducible refine w_neB ?_
  | with_reducible refine w_chain ?_
  | with_reducible refine w_test ?_
  | with_reducible refine w_tB ?_
  | with_reducible refine w_bl ?_
  | ((with_reducible refine' w_mulI ?vv ?_); (case vv => walk_at "side"))
  | ((with_reducible refine' w_rI ?vv ?_); (case vv => walk_at "side"))
  | with_reducible refine w_int1 ?_
  | with_reducible refine w_int1b ?_
  | with_reducible refine w_tup ?_
  | with_reducible refine w_lst ?_
  | with_reducible refine w_un ?_
  | with_reducible refine w_rU ?_
  | with_reducible refine w_and ?_
  | with_reducible refine w_or ?_
  | with_reducible refine w_not ?_
  | with_reducible refine w_andV ?_
  | with_reducible refine w_orV ?_
  | with_reducible refine w_notV ?_
  | with_reducible refine w_ifE ?_
  | with_reducible refine w_nT ?_
  | with_reducible refine w_nF ?_
  | with_reducible refine iteT ?_
  | with_reducible refine iteF ?_
  | ((with_reducible refine' w_ixT ?vv ?ww ?_); (case vv => walk_at "tr"); (case ww => walk_at "ix"))
  | ((with_reducible refine' w_ixL ?vv ?ww ?_); (case vv => walk_at "tr"); (case ww => walk_at "ix"))
  | with_reducible refine w_gSub ?_
  | ((with_reducible refine' w_setL ?vv ?ww ?_); (case vv => walk_at "tr"); (case ww => first | rfl | decide | assumption))
  | ((with_reducible refine' w_lenL ?vv ?_); (case vv => walk_at "tr"))
  | ((with_reducible refine' w_lenT ?vv ?_); (case vv => walk_at "tr"))
  | with_reducible refine w_max2 ?_
  | with_reducible refine w_min2 ?_
  | with_reducible refine w_bm ?_
  | with_reducible refine w_bm0 ?_
  | ((with_reducible refine' w_tyL ?vv ?_); (case vv => walk_at "tr"))
  | ((with_reducible refine' w_append ?vv ?ww ?_); (case vv => walk_at "tr"); (case ww => walk_at "size"))
  | ((with_reducible refine' w_size ?vv ?_); (case vv => walk_at "size"))
  | with_reducible refine w_forL ?_
  | with_reducible refine w_forT ?_
  | with_reducible refine w_forR1 ?_
  | with_reducible refine w_forR2 ?_
  | with_reducible refine w_lcL ?_
  | with_reducible refine w_lcT ?_
  | with_reducible refine w_lcR1 ?_
  | with_reducible refine w_yes ?_
  | with_reducible refine w_sl ?_
  | with_reducible refine w_noPart ?_
  | with_reducible refine w_part ?_
  | with_reducible refine w_int ?_
  | ((with_reducible refine' w_slL ?vv ?_); (case vv => walk_at "tr"))
  | ((with_reducible refine' w_seqL ?vv ?ww ?_); (case vv => walk_at "tr"); (case ww => rfl))
  | ((with_reducible refine' w_seqT ?vv ?ww ?_); (case vv => walk_at "tr"); (case ww => rfl))
  | with_reducible refine w_gNil ?_
  | with_reducible refine w_gCons ?_
  | with_reducible refine w_forZ ?_
  | with_reducible refine w_forE ?_
  | with_reducible refine w_forV ?_
  | with_reducible refine w_lcZ ?_
  | with_reducible refine w_lcE ?_
  | ((with_reducible refine' w_isi (b := true) ?vv ?ww ?_); (case vv => walk_at "ty"); (case ww => decide +kernel))
  | ((with_reducible refine' w_isi (b := false) ?vv ?ww ?_); (case vv => walk_at "ty"); (case ww => decide +kernel))
  | with_reducible refine w_revL ?_
  | with_reducible refine w_pairN ?_
  | with_reducible refine w_pairC ?_
  | with_reducible refine w_dget ?_
  | with_reducible refine w_retN ?_
  | with_reducible refine w_break ?_
  | with_reducible refine w_cont ?_)
local macro_rules | `(tactic| walk_at "wd") => `(tactic| first
  | walk_at "w"
  | ((with_reducible refine' w_decT ?vv ?_); (case vv => decide +kernel))
  | ((with_reducible refine' w_decF ?vv ?_); (case vv => decide +kernel)))
theorem flat_ints (ns : List Int) : (ns.map V.int).all flatV = true := by
  rw [List.all_eq_true]
  intro v hv
  obtain ⟨n, _, rfl⟩ := List.mem_map.mp hv
  rfl
theorem in_one : ∀ {bs : List Nat}, Bits bs → (inV (.int 1) ((iL bs).map V.int) = true ↔ valN bs ≠ 0)
  | [], _ => by simp [inV, iL, valN]
  | b :: r, h => by
    have hb := h b (List.mem_cons_self ..)
    have ih := in_one (bs := r) fun c hc => h c (List.mem_cons_of_mem _ hc)
    have e : inV (.int 1) ((iL (b :: r)).map V.int) = (((b : Int) == 1) || inV (.int 1) ((iL r).map V.int)) := rfl
    rw [e, Bool.or_eq_true, ih, valN]
    simp
    omega
section
variable {P : Program} {w : World} {K : PySem.W.Frag} {mg : Str → Option Value}
theorem ok_law (c : Facts K mg) (G__law_bits : Fn P w K mg "_law_bits" 1 ["word", "width"] spBitsOf) (G__law_cell : Fn P w K mg "_law_cell" 1 ["script", "k"] (spCell K)) (G__law_due : Fn P w K mg "_law_due" 2 ["op", "one", "other", "width"] spDue) (G__law_stream : Fn P w K mg "_law_stream" 1 ["cell"] spStream) (G__law_take : Fn P w K mg "_law_take" 1 ["stream", "many"] spTake) (G__law_whole : Fn P w K mg "_law_whole" 1 ["found", "due"] spWhole) (G__law_word : Fn P w K mg "_law_word" 2 ["stream", "width"] spWord) (G_ops_told : Fn P w K mg "ops_told" 1 [] spOps) (G_reckoned : Fn P w K mg "reckoned" 2 ["op", "one", "other", "width"] spReck) (G_top_of : Fn P w K mg "top_of" 1 ["word", "width"] spTop) (G_truth_of : Fn P w K mg "truth_of" 1 ["word"] spTruth) : Fn P w K mg "law" 5 ["script"] (spLaw K) := by
  obtain ⟨fd, F⟩ := c.d_law
  refine Fn.mk' F c.g_law sc_law (fun vs H Q E h => ?_) (fun _ _ _ _ _ _ us hl => match us, hl with | [_], _ => rfl) (fun base cdv A outer s H vs Q E hr h => ?_)
  · exact len_law h
  · have nd := sc_law.nd
    have hu := hu_of hr
    have hr__law_bits : Room 1 _ := hr.mono (by decide)
    have hr__law_cell : Room 1 _ := hr.mono (by decide)
    have hr__law_due : Room 2 _ := hr.mono (by decide)
    have hr__law_stream : Room 1 _ := hr.mono (by decide)
    have hr__law_take : Room 1 _ := hr.mono (by decide)
    have hr__law_whole : Room 1 _ := hr.mono (by decide)
    have hr__law_word : Room 2 _ := hr.mono (by decide)
    have hr_ops_told : Room 1 _ := hr.mono (by decide)
    have hr_reckoned : Room 2 _ := hr.mono (by decide)
    have hr_top_of : Room 1 _ := hr.mono (by decide)
    have hr_truth_of : Room 1 _ := hr.mono (by decide)
    refine ⟨_, (pss_cons (ps_set (i := 1) nd rfl (Or.inl rfl) (pe_bm PySem.F.plainAttrs_str PySem.F.slot_str_split PySem.F.type_str_split mt_splitA pe_str (pa_cons pe_str pa_nil)))
      (pss_cons (ps_for PassesOwn.never rfl (pi_range1 (by rfl) c.f_range (pa_cons (pe_callB (call_max2A rfl) (by rfl) c.f_max boot_max (pa_cons pe_int (pa_cons (pe_callB (call_min2A rfl) (by rfl) c.f_min boot_min (pa_cons (pe_callB (call_lenA (K := K) rfl) (by rfl) c.f_len boot_len (pa_cons (pv 0) pa_nil)) (pa_cons pe_int pa_nil))) pa_nil))) pa_nil)) (pg_name (i := 2) nd rfl (Or.inl rfl)) (pss_cons (ps_set (i := 3) nd rfl (Or.inl rfl) (pe_fn G__law_stream hr__law_stream (by rfl) (pa_cons (pe_fn G__law_cell hr__law_cell (by rfl) (pa_cons (pv 0) (pa_cons (pv 2) pa_nil))) pa_nil)))
      (pss_cons (ps_set (i := 4) nd rfl (Or.inl rfl) (pe_op (op_addA (K := K) rfl) pe_int (pe_fn G__law_take hr__law_take (by rfl) (pa_cons (pv 3) (pa_cons pe_int pa_nil)))))
      (pss_cons (ps_set (i := 5) nd rfl (Or.inl rfl) (pe_fn G__law_word hr__law_word (by rfl) (pa_cons (pv 3) (pa_cons (pv 4) pa_nil))))
      (pss_cons (ps_set (i := 6) nd rfl (Or.inl rfl) (pe_ix (ix_any (K := K) rfl) (pe_lst (pa_cons (pe_fn G__law_word hr__law_word (by rfl) (pa_cons (pv 3) (pa_cons (pv 4) pa_nil))) (pa_cons (pv 5) pa_nil))) (pe_callTy call_int1A (by rfl) c.f_int boot_int (pa_cons (pe_cmpR (op_eqA (K := K) rfl hr.units) (pe_fn G__law_take hr__law_take (by rfl) (pa_cons (pv 3) (pa_cons pe_int pa_nil))) pe_int (nomark _)) pa_nil)) (fun _ _ => rfl)))
      (pss_cons (ps_set (i := 7) nd rfl (Or.inl rfl) (pe_fn0 G_ops_told hr_ops_told (by rfl)))
      (pss_cons (ps_if (PW.pt (pw_or (pt_not (pt_val (pe_callB (call_isiA (K := K) rfl) (by rfl) c.f_isinstance boot_isinstance (pa_cons (pv 7) (pa_cons (pe_bltn (v := .ty "list") (by rfl) c.f_list boot_list rfl) pa_nil))))) (pw_or1 (pt_cmpR (op_neA (K := K) rfl hr.units) (pv 7) (pv 1) (nomark _))))) (pss_one (ps_ret pe_bl)) pss_nil)
      (pss_cons (ps_for PassesOwn.never rfl (pi_list (pv 7)) (pg_name (i := 8) nd rfl (Or.inl rfl)) (pss_one (ps_if (pt_not (pt_val (pe_fn G__law_whole hr__law_whole (by rfl) (pa_cons (pe_fn G_reckoned hr_reckoned (by rfl) (pa_cons (pv 8) (pa_cons (pv 5) (pa_cons (pv 6) (pa_cons (pv 4) pa_nil))))) (pa_cons (pe_fn G__law_due hr__law_due (by rfl) (pa_cons (pv 8) (pa_cons (pv 5) (pa_cons (pv 6) (pa_cons (pv 4) pa_nil))))) pa_nil))))) (pss_one (ps_ret pe_bl)) pss_nil)))
      (pss_cons (ps_expr (pe_bm0 PySem.F.plainAttrs_list PySem.F.slot_list_clear PySem.F.type_list_clear mt_clear (pv 7)))
      (pss_cons (ps_if (pt_not (pt_val (pe_fn G__law_whole hr__law_whole (by rfl) (pa_cons (pe_fn G_truth_of hr_truth_of (by rfl) (pa_cons (pv 5) pa_nil)) (pa_cons (pe_callTy call_int1A (by rfl) c.f_int boot_int (pa_cons (pe_cmpR (op_inA (K := K) rfl) pe_int (pe_fn G__law_bits hr__law_bits (by rfl) (pa_cons (pv 5) (pa_cons (pv 4) pa_nil))) (by rfl)) pa_nil)) pa_nil))))) (pss_one (ps_ret pe_bl)) pss_nil)
      (pss_one (ps_if (pt_not (pt_val (pe_fn G__law_whole hr__law_whole (by rfl) (pa_cons (pe_fn G_top_of hr_top_of (by rfl) (pa_cons (pv 5) (pa_cons (pv 4) pa_nil))) (pa_cons (pe_ix (ix_any (K := K) rfl) (pe_fn G__law_bits hr__law_bits (by rfl) (pa_cons (pv 5) (pa_cons (pv 4) pa_nil))) (pe_un un_neg pe_int) (fun _ _ => rfl)) pa_nil))))) (pss_one (ps_ret pe_bl)) pss_nil))))))))))))
      (pss_one (ps_ret pe_bl)))), ?_⟩
    try dsimp only [cxOf, Cx.nox, Cx.wish]
    obtain ⟨a, ns, rfl, hS, hlen, q⟩ := h
    repeat walk_at "wd"
    refine w_tyS ?_
    repeat walk_at "wd"
    refine w_split (ys := allOps) (by decide +kernel) (by decide +kernel) (by decide +kernel) (w_new fun pd H0 nd0 s0 f0 => ?_)
    repeat walk_at "wd"
    refine fl_rng1 (fun i σ H' => ∃ v2 v3 v4 v5 v6 v7 v8, σ = [some (.ref a), some (.ref pd), v2, v3, v4, v5, v6, v7, v8] ∧ Same H H' ∧ H' pd = some (.lst (allOps.map V.str))) (by rw [List.length_map]; omega) (by omega) ⟨none, none, none, none, none, none, none, rfl, s0, f0⟩
      (fun i σ H1 hi ⟨v2, v3, v4, v5, v6, v7, v8, e, sm, hpd⟩ => ?_) (fun σ H1 ⟨v2, v3, v4, v5, v6, v7, v8, e, sm, hpd⟩ => ?_)
    · subst e
      repeat walk_at "wd"
      refine ⟨a, ns, _, rfl, sm.sqL hS, by omega, fun c => ?_⟩
      repeat walk_at "wd"
      refine ⟨c, rfl, fun s H2 s2 n2 hs2 => ?_⟩
      repeat walk_at "wd"
      refine ⟨s, 21, rfl, hs2, by decide, by decide, fun d H3 d0 d1 hs3 e3 => ?_⟩
      repeat walk_at "wd"
      have s3 : Same H1 H3 := e3.new s2 n2
      have h4 : 4 ≤ 4 + d := by omega
      have h24 : 4 + d ≤ 24 := by omega
      generalize 4 + d = w at h4 h24
      refine ⟨s, w, rfl, hs3, h4, h24, fun x H4 hx hs4 e4 => ?_⟩
      repeat walk_at "wd"
      refine ⟨s, w, rfl, hs4, h4, h24, fun y0 H5 hy0 hs5 e5 => ?_⟩
      repeat walk_at "wd"
      refine w_new fun p6 H6 n6 s6 f6 => ?_
      repeat walk_at "wd"
      refine ⟨s, 6, rfl, s6.stm hs5, by decide, by decide, fun d2 H7 d20 d21 hs7 e7 => ?_⟩
      have np6 : p6 ≠ s := by
        obtain ⟨_, _, _, z⟩ := hs5
        exact (ne_of_none z n6).symm
      have f7 := e7.at np6 f6
      have s5 : Same H1 H5 := e5.new (e4.new s3 n2) n2
      have s7 : Same H1 H7 := e7.new (s5.trans s6) n2
      repeat walk_at "wd"
      obtain ⟨y, hy, ey⟩ : ∃ y : Int, Word w y ∧ atI [V.int y0, V.int x] (if decide (d2 = 0) = true then 1 else 0) = some (.int y) := by
        by_cases hd : d2 = 0
        · exact ⟨x, hx, by rw [decide_eq_true hd]; exact at1⟩
        · exact ⟨y0, hy0, by rw [decide_eq_false hd]; exact at0⟩
      refine w_ixL (SqL.of f7) ey ?_
      repeat walk_at "wd"
      refine ⟨rfl, fun p8 H8 s8 n8 f8 => ?_⟩
      repeat walk_at "wd"
      have hpd8 : H8 pd = some (.lst (allOps.map V.str)) := s8.at (s7.at hpd)
      refine w_neSL (SqL.of f8) (SqL.of hpd8) (by decide +kernel) (by decide +kernel) ?_
      repeat walk_at "wd"
      refine iteNS rfl ?_
      repeat walk_at "wd"
      have s18 : Same H1 H8 := s7.trans s8
      refine fl_list (a := p8) (allOps.map V.str) (fun i' σ H' => ∃ v8, σ = [some (.ref a), some (.ref pd), some (.int i), some (.ref s), some (.int w), some (.int x), some (.int y), some (.ref p8), v8] ∧ Same H8 H') (SqL.of f8) ⟨_, rfl, Same.refl _⟩
        (fun i' σ H' _ ⟨_, _, sm'⟩ => SqL.of (sm'.at f8)) (fun i' v σ H9 hi' ⟨v8, e, sm'⟩ => ?_) (fun σ H9 ⟨v8, e, sm'⟩ => ?_)
      · subst e
        obtain ⟨op, hop, rfl⟩ := List.mem_map.mp (List.mem_of_getElem? hi')
        repeat walk_at "wd"
        refine ⟨op, x, y, w, rfl, by omega, h24, hx, ?_⟩
        repeat walk_at "wd"
        refine ⟨op, x, y, w, rfl, hop, h4, h24, hx, hy, fun H10 s10 => ?_⟩
        repeat walk_at "wd"
        refine ⟨_, _, rfl, ?_⟩
        rw [decide_eq_true rfl]
        repeat walk_at "wd"
        exact ⟨_, rfl, sm'.trans s10⟩
      · subst e
        repeat walk_at "wd"
        have nn8 : H1 p8 = none := s7.back n8
        refine w_clear (sm'.at f8) (w_chg fun H10 e10 f10 => ?_)
        have s10 : Same H1 H10 := e10.new (s18.trans sm') nn8
        obtain ⟨n, av, rfl, rfl, hn, hav⟩ := word_nat (by omega) hx
        have hna : (bitsN av n).length = n := bitsN_len av n
        have va : valN (bitsN av n) = av := by rw [valN_bits, Nat.mod_eq_of_lt hav]
        repeat walk_at "wd"
        refine ⟨_, rfl, ?_⟩
        repeat walk_at "wd"
        refine ⟨av, n, rfl, by omega, fun p11 H11 s11 n11 f11 => ?_⟩
        repeat walk_at "wd"
        refine w_inL (SqL.of f11) rfl (flat_ints _) ?_
        repeat walk_at "wd"
        refine ⟨_, _, rfl, ?_⟩
        have et : truthI av = if inV (.int 1) ((iL (bitsN av n)).map V.int) = true then 1 else 0 := by
          simp only [in_one (bitsN_bits av n), va]
          unfold truthI
          by_cases h : av = 0 <;> simp [h] <;> omega
        rw [decide_eq_true et]
        repeat walk_at "wd"
        refine ⟨_, _, rfl, by omega, ?_⟩
        repeat walk_at "wd"
        refine ⟨av, n, rfl, by omega, fun p12 H12 s12 n12 f12 => ?_⟩
        repeat walk_at "wd"
        obtain ⟨e, ht⟩ := top_eq hn hav
        have el : (iL (bitsN av n)).map V.int = (iL (bitsN av (n - 1))).map V.int ++ [.int (topI av n)] := by
          rw [e]
          conv => lhs; rw [show n = (n - 1) + 1 by omega, bitsN_succ, iL_app, List.map_append]
          rw [Nat.mod_eq_of_lt ht]; rfl
        rw [el] at f12
        refine w_ixL (SqL.of f12) (atI_last _ _) ?_
        repeat walk_at "wd"
        refine ⟨_, _, rfl, ?_⟩
        rw [decide_eq_true rfl]
        repeat walk_at "wd"
        exact ⟨_, _, _, _, _, _, _, rfl, sm.trans (s10.trans (s11.trans s12)), s12.at (s11.at (s10.at hpd))⟩
    · subst e
      repeat walk_at "wd"
      exact q _
end

end J
namespace J
open PySem PySem.Spec PyProof.Rows L2
def loose0 : List PySem.Str := ["ops_told", "truth_of", "top_of", "told_by_bits", "reckoned", "_law_cell", "_law_stream", "_law_take", "_law_bits", "_law_joined", "_law_carried", "_law_less", "_law_moved", "_law_due", "_law_word", "_law_whole", "OPS"]
def loose : List PySem.Str := loose0
theorem all_ok {P : Program} {w : World} {K : PySem.W.Frag} {mg : Str → Option Value} (c : Facts K mg) : Fn P w K mg "law" 5 ["script"] (spLaw K) := by
  have G__law_bits := ok_law_bits (P := P) (w := w) c
  have G__law_cell := ok_law_cell (P := P) (w := w) c
  have G__law_carried := ok_law_carried (P := P) (w := w) c
  have G__law_joined := ok_law_joined (P := P) (w := w) c
  have G__law_less := ok_law_less (P := P) (w := w) c
  have G__law_moved := ok_law_moved (P := P) (w := w) c
  have G__law_due := ok_law_due (P := P) (w := w) c G__law_bits G__law_carried G__law_joined G__law_less G__law_moved
  have G__law_stream := ok_law_stream (P := P) (w := w) c
  have G__law_take := ok_law_take (P := P) (w := w) c
  have G__law_whole := ok_law_whole (P := P) (w := w) c
  have G__law_word := ok_law_word (P := P) (w := w) c G__law_take
  have G_ops_told := ok_ops_told (P := P) (w := w) c
  have G_told_by_bits := ok_told_by_bits (P := P) (w := w) c
  have G_reckoned := ok_reckoned (P := P) (w := w) c G_told_by_bits
  have G_top_of := ok_top_of (P := P) (w := w) c
  have G_truth_of := ok_truth_of (P := P) (w := w) c
  have G_law := ok_law (P := P) (w := w) c G__law_bits G__law_cell G__law_due G__law_stream G__law_take G__law_whole G__law_word G_ops_told G_reckoned G_top_of G_truth_of
  exact G_law
abbrev rowR : PySem.W.OpenRow := PySem.W.OpenLaw.row PySem.Challenge.rw_rowsjoined_k02_sums_bit_by_bit
abbrev hk : PySem.W.Hook := He.hookD 4 fa fn
def ob (s : PySem.W.SharedT) : He.AlD := He.obsDG 4 fa fn (HandSHeadRun.getT s)
theorem ob_eq (s : PySem.W.SharedT) : ob s = hk.obs s.abs := He.obsDG_eq (HandSHeadRun.getT_eq s)
theorem run (w : World) : HandSHeadRun.RunEq rowR (PySem.W.view rowR.prog [19]) hk ob 4000 loose w := by
  intro os
  kernel_rfl
theorem heldF {P : Program} {w : World} {K : PySem.W.Frag} {h : Heap} {mg : Str → Option Value} {f : Addr} (X : K.In h) (G : h.Ns mainGlobals mg) (hfa : mg ("law" : Str) = some (.ref f)) (c : He.SaysD fa fn K) :
    ∃ fd : FuncData, (∀ (s : Shared) (v : Value), BindsTo s fd ⟨[v], []⟩ [("script", v)]) ∧ ∀ base : Heap, K.In base → base.Ns mainGlobals mg → FnOk P w K mg base CX0 5 f fd ["script"] (spLaw K) := by
  have C := facts_of X G c
  have e := hfa.symm.trans C.g_law
  cases e
  obtain ⟨fd, h1, _, h3⟩ := (all_ok (P := P) (w := w) C).ex
  exact ⟨fd, fun s v => h3 s [v] rfl, fun base _ _ => h1 base⟩
end J
open PySem PySem.W PySem.Calls PyProof.Rows
theorem PySem.Challenge.cw_rowsjoined_k02_sums_bit_by_bit_holds : PySem.Challenge.rw_rowsjoined_k02_sums_bit_by_bit.Holds := by
  w_on; o_law
  refine HandSHeadRun.head_any (r := J.rowR) (q := view J.rowR.prog [19]) (H := J.hk) (ob := J.ob) (M := 4000) (loose := J.loose) (d := HandSHeadRun.topDef J.rowR.prog 19) (kwd := []) J.ob_eq
    (by kernel_rfl) (fun s => by kernel_rfl) J.run (by kernel_rfl) (by kernel_rfl) (by kernel_rfl) (by rfl) (by first | assumption | decide +kernel) (by decide +kernel) ⟨rfl, rfl, rfl, rfl, rfl, by decide +kernel⟩ ?hw ?hc
  case hw => w_witness2
  case hc =>
    refine L2.walk_ofE (l := PySem.Challenge.rw_rowsjoined_k02_sums_bit_by_bit) (n := 63) (k := 5) (x := "script") (CX := L2.CX0) rfl (by decide) (by kernel_rfl) ⟨rfl, by decide, by decide⟩ ?F (fun _ _ _ _ z => z)
    intro w mg fa h Y G hmg0
    obtain ⟨K, KX, c⟩ := Y
    have hmg : mg ("law" : PySem.Str) = some (.ref fa) := by
      have e : (HandSHeadRun.topDef J.rowR.prog 19).name = ("law" : PySem.Str) := by kernel_rfl
      rw [← e]
      exact hmg0
    obtain ⟨fd, hb, hF⟩ := J.heldF (P := (PySem.Challenge.rw_rowsjoined_k02_sums_bit_by_bit).prog) (w := w) KX G hmg c
    exact ⟨K, fd, _, KX, hb, fun H a ns hl hO hS => J.law_in hl hO hS, hF⟩
