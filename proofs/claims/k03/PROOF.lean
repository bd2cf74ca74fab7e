import PyProof.Rows.All
import Wide.All
import OpenK.AllK
import Wide.FinOn
import Lean
import HandS.Base
import HandS.Call
import HandS.Ends
import HandS.EndBits
import HandS.List
import HandS.Comp
import HandS.Dict
import HandS.Iter
import HandS.Text
import HandS.Wide
import HandS.Words
import HandS.WordsList
import HandS.Defaults
import HandS.IsInst
import HandS.Rev
import HandS.TupAny
import HandS.TryOnly
import HandS.Zip
import HandS.Head0
import HandS.Head1
import HandS.Head2
import HandS.HeadEnd
import HandS.HeadHook1
import HandS.HeadHook2
import PySem.Challenge.RW_rowsjoined_k03_sums_together
set_option Elab.async false
set_option linter.all false
set_option maxRecDepth 100000
set_option maxHeartbeats 4000000
namespace J
open PySem PySem.Spec PyProof.Rows L2

/-! ### frames -/
def But (s : Addr) (H H' : Hp) : Prop := ∀ b o, b ≠ s → H b = some o → H' b = some o
theorem _root_.L2.Same.one {H : Hp} {p : Addr} {o : HO} (h : H p = none) : Same H (upd H p o) := fun a u e => by
  rw [upd_ne (ne_of_none e h)]; exact e
theorem But.of {s : Addr} {H H' : Hp} (e : Same H H') : But s H H' := fun b o _ h => e b o h
theorem But.refl (s : Addr) (H : Hp) : But s H H := fun _ _ _ h => h
theorem But.trans {s : Addr} {H H1 H2 : Hp} (a : But s H H1) (b : But s H1 H2) : But s H H2 := fun c o n h => b c o n (a c o n h)
theorem But.at {s b : Addr} {H H' : Hp} {o : HO} (e : But s H H') (n : b ≠ s) (h : H b = some o) : H' b = some o := e b o n h
theorem But.upd (s : Addr) (H : Hp) (o : HO) : But s H (upd H s o) := fun b u n h => by rw [upd_ne n]; exact h
/-- all that was there stays, what lies at s was not there -/
theorem But.new {s : Addr} {H H1 H2 : Hp} (e : Same H H1) (n : H s = none) (k : But s H1 H2) : Same H H2 := fun b o h => k b o (ne_of_none h n) (e b o h)

/-- a stream of draws -/
def Stm (H : Hp) (s : Addr) : Prop := ∃ a b c : Int, H s = some (.lst [.int a, .int b, .int c])
theorem But.tup {s b : Addr} {H H' : Hp} {xs : List V} (e : But s H H') (t : Stm H s) (h : H b = some (.tup xs)) : H' b = some (.tup xs) := by
  obtain ⟨_, _, _, t⟩ := t
  exact e b _ (ne_of h t (by intro q; cases q)) h
theorem But.tupL {s b : Addr} {H H' : Hp} {xs ys : List V} (e : But s H H') (t : H s = some (.lst ys)) (h : H b = some (.tup xs)) : H' b = some (.tup xs) := e b _ (ne_of h t (by intro q; cases q)) h
theorem But.sqTL {K : PySem.W.Frag} {s a : Addr} {H H' : Hp} {xs ys : List V} (e : But s H H') (t : H s = some (.lst ys)) (h : SqT K H a xs) : SqT K H' a xs := by
  rcases h with (h | ⟨o, h⟩) | h
  · exact .inl (.inl (e _ _ (ne_of h t (by intro q; cases q)) h))
  · exact .inl (.inr ⟨o, e _ _ (ne_of h t (by intro q; cases q)) h⟩)
  · exact .inr h
theorem But.stm {s a : Addr} {H H' : Hp} (e : But s H H') (n : a ≠ s) (h : Stm H a) : Stm H' a := by
  obtain ⟨x, y, z, h⟩ := h
  exact ⟨x, y, z, e _ _ n h⟩
theorem _root_.L2.Same.back {H H' : Hp} {p : Addr} (e : Same H H') (h : H' p = none) : H p = none := e.free h
theorem But.frz {s b : Addr} {H H' : Hp} {o : Obj} {u : HO} (e : But s H H') (t : Stm H s) (h : H b = some (.frz o u)) : H' b = some (.frz o u) := by
  obtain ⟨_, _, _, t⟩ := t
  exact e b _ (ne_of h t (by intro q; cases q)) h
theorem But.sqT {K : PySem.W.Frag} {s a : Addr} {H H' : Hp} {xs : List V} (e : But s H H') (t : Stm H s) (h : SqT K H a xs) : SqT K H' a xs := by
  rcases h with (h | ⟨o, h⟩) | h
  · exact .inl (.inl (e.tup t h))
  · exact .inl (.inr ⟨o, e.frz t h⟩)
  · exact .inr h
theorem But.sqL {K : PySem.W.Frag} {s a : Addr} {H H' : Hp} {xs : List V} (e : But s H H') (n : a ≠ s) (h : SqL K H a xs) : SqL K H' a xs := by
  rcases h with (h | ⟨o, h⟩) | h
  · exact .inl (.inl (e a _ n h))
  · exact .inl (.inr ⟨o, e a _ n h⟩)
  · exact .inr h
theorem _root_.L2.Same.sqT {K : PySem.W.Frag} {H H' : Hp} {a : Addr} {xs : List V} (e : Same H H') (h : SqT K H a xs) : SqT K H' a xs := by
  rcases h with (h | ⟨o, h⟩) | h
  · exact .inl (.inl (e _ _ h))
  · exact .inl (.inr ⟨o, e _ _ h⟩)
  · exact .inr h
theorem _root_.L2.Same.sqL {K : PySem.W.Frag} {H H' : Hp} {a : Addr} {xs : List V} (e : Same H H') (h : SqL K H a xs) : SqL K H' a xs := e.seq h
theorem _root_.L2.Same.stm {H H' : Hp} {s : Addr} (e : Same H H') (h : Stm H s) : Stm H' s := by
  obtain ⟨a, b, c, h⟩ := h
  exact ⟨a, b, c, e _ _ h⟩
theorem _root_.L2.Same.at {H H' : Hp} {b : Addr} {o : HO} (e : Same H H') (h : H b = some o) : H' b = some o := e b o h
/-- a list that stands, seen past a list changed elsewhere -/
theorem sqL_upd {K : PySem.W.Frag} {H : Hp} {a p : Addr} {o : HO} {xs : List V} (n : a ≠ p) (h : SqL K H a xs) : SqL K (upd H p o) a xs := by
  rcases h with (h | ⟨u, h⟩) | h
  · exact .inl (.inl (by rw [upd_ne n]; exact h))
  · exact .inl (.inr ⟨u, by rw [upd_ne n]; exact h⟩)
  · exact .inr h
theorem sqT_updL {K : PySem.W.Frag} {H : Hp} {a p : Addr} {o : HO} {xs ys : List V} (hp : H p = some (.lst ys)) (h : SqT K H a xs) : SqT K (upd H p o) a xs := by
  rcases h with (h | ⟨u, h⟩) | h
  · exact .inl (.inl (by rw [upd_ne (ne_of h hp (by intro q; cases q))]; exact h))
  · exact .inl (.inr ⟨u, by rw [upd_ne (ne_of h hp (by intro q; cases q))]; exact h⟩)
  · exact .inr h
theorem stm_upd {H : Hp} {a p : Addr} {o : HO} (n : a ≠ p) (h : Stm H a) : Stm (upd H p o) a := by
  obtain ⟨x, y, z, h⟩ := h
  exact ⟨x, y, z, by rw [upd_ne n]; exact h⟩
theorem at_updL {H : Hp} {a p : Addr} {o u : HO} (n : a ≠ p) (h : H a = some u) : upd H p o a = some u := by rw [upd_ne n]; exact h

/-! ### readings, step by step -/
section
variable {K : PySem.W.Frag} {σ : L2.St} {H : Hp} {i : Nat} {v x y z : V} {ta tb tc te tv : TE} {Q : VK} {nx : L2.St → Hp → Prop} {rt : VK} {bk ct : L2.St → Hp → Prop} {t u : TS} {tt tu : TT}
theorem w_seq (k : t ⟨u ⟨nx, rt, bk, ct⟩, rt, bk, ct⟩ σ H) : tSeq t u ⟨nx, rt, bk, ct⟩ σ H := k
theorem w_asg {g : TG} (k : te σ H fun x H1 => g x σ H1 nx) : tAsg te g ⟨nx, rt, bk, ct⟩ σ H := k
theorem w_gName {R : L2.St → Hp → Prop} (k : R (σ.set i (some v)) H) : gName i v σ H R := k
theorem w_ret (k : te σ H rt) : tRet te ⟨nx, rt, bk, ct⟩ σ H := k
theorem w_retN (k : rt .non H) : tRetN ⟨nx, rt, bk, ct⟩ σ H := k
theorem w_drop (k : te σ H fun _ H1 => nx σ H1) : tDrop te ⟨nx, rt, bk, ct⟩ σ H := k
theorem w_next (k : nx σ H) : tNext ⟨nx, rt, bk, ct⟩ σ H := k
theorem w_break (k : bk σ H) : tBreak ⟨nx, rt, bk, ct⟩ σ H := k
theorem w_cont (k : ct σ H) : tCont ⟨nx, rt, bk, ct⟩ σ H := k
theorem w_ifS (k : tt σ H fun b H1 => if b = true then t ⟨nx, rt, bk, ct⟩ σ H1 else u ⟨nx, rt, bk, ct⟩ σ H1) : tIfS tt t u ⟨nx, rt, bk, ct⟩ σ H := k
theorem w_var (h : σ[i]? = some (some v)) (k : Q v H) : tVar i σ H Q := ⟨v, h, k⟩
theorem w_c (k : Q v H) : tC v σ H Q := k
theorem w_op {r : R2} (k : ta σ H fun x H1 => tb σ H1 fun y H2 => r x y H2 Q) : tOp r ta tb σ H Q := k
theorem w_un {r : V → Hp → VK → Prop} (k : ta σ H fun x H1 => r x H1 Q) : tUn r ta σ H Q := k
theorem w_rU {g : Int → V} {n : Int} (k : Q (g n) H) : rU g (.int n) H Q := ⟨n, rfl, k⟩
theorem w_rI0 {g : Int → Int → V} {m n : Int} (k : Q (g m n) H) : rI0 g (.int m) (.int n) H Q := ⟨m, n, rfl, rfl, k⟩
theorem w_rI {C : Int → Int → Prop} {g : Int → Int → V} {m n : Int} (c : C m n) (k : Q (g m n) H) : rI C g (.int m) (.int n) H Q := ⟨m, n, rfl, rfl, c, k⟩
theorem w_nil {R : List V → Hp → Prop} (k : R [] H) : tNil σ H R := k
theorem w_cons {tr : TA} {R : List V → Hp → Prop} (k : te σ H fun x H1 => tr σ H1 fun xs H2 => R (x :: xs) H2) : tCons te tr σ H R := k
/-- a new object -/
def NewO (o : HO) (H : Hp) (Q : VK) : Prop := ∀ p, H p = none → Q (.ref p) (upd H p o)
theorem w_new {o : HO} (k : ∀ p H', H p = none → Same H H' → H' p = some o → Q (.ref p) H') : NewO o H Q := fun p hp => k p _ hp (Same.one hp) upd_same
/-- an object changed -/
def ChgO (l : Addr) (o : HO) (H : Hp) (R : Hp → Prop) : Prop := R (upd H l o)
theorem w_chg {l : Addr} {o : HO} {R : Hp → Prop} (k : ∀ H', But l H H' → H' l = some o → R H') : ChgO l o H R := k _ (But.upd _ _ _) upd_same
theorem w_tup {tr : TA} (k : tr σ H fun xs H1 => xs.length ≤ sizeLine ∧ NewO (.tup xs) H1 Q) : tTup tr σ H Q := k
theorem w_lst {tr : TA} (k : tr σ H fun xs H1 => xs.length ≤ sizeLine ∧ NewO (.lst xs) H1 Q) : tLst tr σ H Q := k
theorem w_cb {r : List V → Hp → VK → Prop} {tr : TA} (k : tr σ H fun vs H1 => r vs H1 Q) : tCB r tr σ H Q := k
theorem w_call {sp : Sp} {E : XK} {tr : TA} (k : tr σ H fun vs H1 => sp vs H1 Q E) : tCall sp [] E tr σ H Q := by
  show tr σ H fun vs H1 => sp (vs ++ []) H1 Q E
  simp only [List.append_nil]
  exact k
theorem w_test {R : Bool → Hp → Prop} (k : te σ H fun x H' => ∃ b, x = .bl b ∧ R b H') : tTest te σ H R := k
theorem w_tB {R : Bool → Hp → Prop} (k : te σ H fun x H' => ∃ b, x = .bl b ∧ R b H') : tB te σ H R := k
theorem w_bl {b : Bool} {R : Bool → Prop} (k : R b) : ∃ c, V.bl b = .bl c ∧ R c := ⟨b, rfl, k⟩
theorem w_and {R : Bool → Hp → Prop} (k : tt σ H fun c H1 => if c = true then tu σ H1 R else R false H1) : tAnd tt tu σ H R := k
theorem w_or {R : Bool → Hp → Prop} (k : tt σ H fun c H1 => if c = true then R true H1 else tu σ H1 R) : tOr tt tu σ H R := k
theorem w_not {R : Bool → Hp → Prop} (k : tt σ H fun c H1 => R (!c) H1) : tNot tt σ H R := k
theorem w_andV (k : ta σ H fun x H1 => ∃ c, x = .bl c ∧ if c = true then tb σ H1 Q else Q (.bl false) H1) : tAndV ta tb σ H Q := k
theorem w_orV (k : ta σ H fun x H1 => ∃ c, x = .bl c ∧ if c = true then Q (.bl true) H1 else tb σ H1 Q) : tOrV ta tb σ H Q := k
theorem w_ifE (k : tt σ H fun c H1 => if c = true then ta σ H1 Q else tb σ H1 Q) : tIf tt ta tb σ H Q := k
theorem w_notV (k : ta σ H fun x H1 => ∃ c, x = .bl c ∧ Q (.bl (!c)) H1) : tNotV ta σ H Q := k

theorem w_nT {A B : Prop} (k : B) : if (!true) = true then A else B := k
theorem w_nF {A B : Prop} (k : A) : if (!false) = true then A else B := k
/-! ### operators, together -/
def rAddS : R2 := fun x y H Q => ∃ i j, x = .str i ∧ y = .str j ∧ i.length + j.length ≤ sizeLine ∧ Q (.str (i ++ j)) H
def rAddA (K : PySem.W.Frag) : R2 := fun x y H Q => rI0 (fun i j => .int (i + j)) x y H Q ∨ (rAddS x y H Q ∨ (rCat x y H Q ∨ rCatT K x y H Q))
theorem op_addA {X : Cx} : OpR X (binaryOp .Add) (rAddA X.K) := op_add.or (OpR.or (r := rAddS) op_add_str (op_cat.or op_catT))
theorem w_addI {m n : Int} (k : Q (.int (m + n)) H) : rAddA K (.int m) (.int n) H Q := .inl ⟨m, n, rfl, rfl, k⟩
theorem w_addS {a b : Str} (h : a.length + b.length ≤ sizeLine) (k : Q (.str (a ++ b)) H) : rAddA K (.str a) (.str b) H Q := .inr (.inl ⟨a, b, rfl, rfl, h, k⟩)
theorem w_addL {l b : Addr} {xs zs : List V} (h1 : H l = some (.lst xs)) (h2 : H b = some (.lst zs)) (h : xs.length + zs.length ≤ sizeLine) (k : NewO (.lst (xs ++ zs)) H Q) :
    rAddA K (.ref l) (.ref b) H Q := .inr (.inr (.inl ⟨l, b, xs, zs, rfl, rfl, h1, h2, h, k⟩))
def rMulA : R2 := fun x y H Q => rI CMul (fun i j => .int (i * j)) x y H Q ∨ rRep x y H Q
theorem op_mulA {X : Cx} : OpR X (binaryOp .Mult) rMulA := op_mul.or op_rep
theorem w_mulI {m n : Int} (c : CMul m n) (k : Q (.int (m * n)) H) : rMulA (.int m) (.int n) H Q := .inl ⟨m, n, rfl, rfl, c, k⟩
def rEqA (K : PySem.W.Frag) : R2 := fun x y H Q => rEq x y H Q ∨ rEqD K x y H Q
def rNeA (K : PySem.W.Frag) : R2 := fun x y H Q => rNe x y H Q ∨ rNeD K x y H Q
theorem op_eqA {X : Cx} (hu : X.A.units + 64 < cLine) : OpR X (compareOp .Eq) (rEqA X.K) := op_eq.or (op_eqD hu)
theorem op_neA {X : Cx} (hu : X.A.units + 64 < cLine) : OpR X (compareOp .NotEq) (rNeA X.K) := op_ne.or (op_neD hu)
theorem w_eqI {m n : Int} (k : Q (.bl (decide (m = n))) H) : rEqA K (.int m) (.int n) H Q := .inl ⟨rfl, by rw [show decide (V.int m = V.int n) = decide (m = n) by rw [dec_int]; rfl]; exact k⟩
theorem w_neI {m n : Int} (k : Q (.bl (!decide (m = n))) H) : rNeA K (.int m) (.int n) H Q := .inl ⟨rfl, by rw [show decide (V.int m = V.int n) = decide (m = n) by rw [dec_int]; rfl]; exact k⟩
theorem w_eqS {m n : Str} (k : Q (.bl (decide (m = n))) H) : rEqA K (.str m) (.str n) H Q := .inl ⟨rfl, by rw [dec_str]; exact k⟩
theorem w_neS {m n : Str} (k : Q (.bl (!decide (m = n))) H) : rNeA K (.str m) (.str n) H Q := .inl ⟨rfl, by rw [dec_str]; exact k⟩
theorem w_eqB {m n : Bool} (k : Q (.bl (m == n)) H) : rEqA K (.bl m) (.bl n) H Q := .inl ⟨rfl, by rw [dec_bl]; exact k⟩
theorem w_neB {m n : Bool} (k : Q (.bl (!(m == n))) H) : rNeA K (.bl m) (.bl n) H Q := .inl ⟨rfl, by rw [dec_bl]; exact k⟩
theorem w_eqD {d e : PyData} (hd : Dp K H x d) (he : Dp K H y e) (sd : SeqAt.shaped d = true) (se : SeqAt.shaped e = true) (k : Q (.bl (PyData.eqv d e)) H) : rEqA K x y H Q := .inr ⟨d, e, hd, he, sd, se, k⟩
theorem w_neD {d e : PyData} (hd : Dp K H x d) (he : Dp K H y e) (sd : SeqAt.shaped d = true) (se : SeqAt.shaped e = true) (k : Q (.bl (!PyData.eqv d e)) H) : rNeA K x y H Q := .inr ⟨d, e, hd, he, sd, se, k⟩
/-- in, of texts and of things in a list or a tuple -/
def rInStr (neg : Bool) : R2 := fun x y H Q => ∃ i j, x = .str i ∧ y = .str j ∧ Q (.bl (if neg then !(!(Builtin.Str.occurrences j i 0 j.length 1).isEmpty) else !(Builtin.Str.occurrences j i 0 j.length 1).isEmpty)) H
def rInA (K : PySem.W.Frag) (neg : Bool) : R2 := fun x y H Q => rIn K neg x y H Q ∨ rInStr neg x y H Q
theorem op_inA {X : Cx} : OpR X (compareOp .In) (rInA X.K false) := op_in_seq.or (fun pins s σ H x y v u Q I rx ry h => op_in_str pins s σ H x y v u Q I rx ry h)
theorem op_notInA {X : Cx} : OpR X (compareOp .NotIn) (rInA X.K true) := op_notIn_seq.or (fun pins s σ H x y v u Q I rx ry h => op_notIn_str pins s σ H x y v u Q I rx ry h)
theorem w_inL {p : Addr} {xs : List V} (h : SqL K H p xs) (hx : flatV x = true) (ha : xs.all flatV = true) (k : Q (.bl (inV x xs)) H) : rInA K false x (.ref p) H Q := .inl ⟨p, xs, rfl, .inl h, hx, ha, k⟩
theorem w_inT {p : Addr} {xs : List V} (h : SqT K H p xs) (hx : flatV x = true) (ha : xs.all flatV = true) (k : Q (.bl (inV x xs)) H) : rInA K false x (.ref p) H Q := .inl ⟨p, xs, rfl, .inr h, hx, ha, k⟩
theorem w_niL {p : Addr} {xs : List V} (h : SqL K H p xs) (hx : flatV x = true) (ha : xs.all flatV = true) (k : Q (.bl (!inV x xs)) H) : rInA K true x (.ref p) H Q := .inl ⟨p, xs, rfl, .inl h, hx, ha, k⟩
theorem w_niT {p : Addr} {xs : List V} (h : SqT K H p xs) (hx : flatV x = true) (ha : xs.all flatV = true) (k : Q (.bl (!inV x xs)) H) : rInA K true x (.ref p) H Q := .inl ⟨p, xs, rfl, .inr h, hx, ha, k⟩
/-- subscripts -/
theorem w_ixL {p : Addr} {xs : List V} {n : Int} (h : SqL K H p xs) (ha : atI xs n = some v) (k : Q v H) : rIx K (.ref p) (.int n) H Q := .inl ⟨p, xs, n, v, rfl, rfl, h, ha, k⟩
theorem w_ixT {p : Addr} {xs : List V} {n : Int} (h : SqT K H p xs) (ha : atI xs n = some v) (k : Q v H) : rIx K (.ref p) (.int n) H Q := .inr (.inl ⟨p, xs, n, v, rfl, rfl, h, ha, k⟩)
theorem w_ixS {a : Str} {c : Nat} {n : Int} (h : a.length ≤ sizeLine) (ha : atI a.cps.toList n = some c) (k : Q (.str ⟨#[c]⟩) H) : rIx K (.str a) (.int n) H Q := .inr (.inr ⟨a, n, c, rfl, rfl, h, ha, k⟩)
/-! slices -/
def rSlAny (K : PySem.W.Frag) : V → Option Int → Option Int → Hp → VK → Prop := fun x lo hi H Q => rSlL K x lo hi H Q ∨ (rSlS x lo hi H Q ∨ rSlA K x lo hi H Q)
/-- calls -/
def rInt1 : List V → Hp → VK → Prop := fun xs H Q => (∃ i, xs = [.int i] ∧ Q (.int i) H) ∨ ∃ k, xs = [.bl k] ∧ Q (.int (if k then 1 else 0)) H
theorem call_int1A {X : Cx} : CallR X (.type "int") rInt1 := call_int1
theorem w_int1 {n : Int} (k : Q (.int n) H) : rInt1 [.int n] H Q := .inl ⟨n, rfl, k⟩
theorem w_int1b {b : Bool} (k : Q (.int (if b then 1 else 0)) H) : rInt1 [.bl b] H Q := .inr ⟨b, rfl, k⟩
def rLenA (K : PySem.W.Frag) : List V → Hp → VK → Prop := fun xs H Q => ∃ x n, xs = [x] ∧ LenV K x H n ∧ Q (.int n) H
theorem call_lenA {X : Cx} : CallR X (.builtin "len") (rLenA X.K) := call_len
theorem w_lenL {p : Addr} {xs : List V} (h : SqL K H p xs) (k : Q (.int xs.length) H) : rLenA K [.ref p] H Q := ⟨_, _, rfl, .inl ⟨xs, h, rfl⟩, k⟩
theorem w_lenT {p : Addr} {xs : List V} (h : SqT K H p xs) (k : Q (.int xs.length) H) : rLenA K [.ref p] H Q := ⟨_, _, rfl, .inr ⟨xs, h, rfl⟩, k⟩
theorem w_lenS {a : Str} (h : a.length ≤ sizeLine) (k : Q (.int a.length) H) : rLenA K [.str a] H Q := ⟨_, _, rfl, ⟨h, rfl⟩, k⟩
def rAbsA : List V → Hp → VK → Prop := fun xs H Q => ∃ i, xs = [.int i] ∧ Q (.int (if i < 0 then -i else i)) H
theorem call_absA {X : Cx} : CallR X (.builtin "abs") rAbsA := call_abs
def rMax2 : List V → Hp → VK → Prop := fun xs H Q => ∃ i j, xs = [.int i, .int j] ∧ Q (.int (if j > i then j else i)) H
def rMin2 : List V → Hp → VK → Prop := fun xs H Q => ∃ i j, xs = [.int i, .int j] ∧ Q (.int (if j < i then j else i)) H
theorem call_max2A {X : Cx} (hc : X.calm = true) : CallR X (.builtin "max") rMax2 := call_max2 hc
theorem call_min2A {X : Cx} (hc : X.calm = true) : CallR X (.builtin "min") rMin2 := call_min2 hc
theorem max_if (i j : Int) : (if j > i then j else i) = max i j := by split <;> omega
theorem min_if (i j : Int) : (if j < i then j else i) = min i j := by split <;> omega
theorem w_max2 {i j : Int} (k : Q (.int (max i j)) H) : rMax2 [.int i, .int j] H Q := ⟨i, j, rfl, by rw [max_if]; exact k⟩
theorem w_min2 {i j : Int} (k : Q (.int (min i j)) H) : rMin2 [.int i, .int j] H Q := ⟨i, j, rfl, by rw [min_if]; exact k⟩
def rBool1 : List V → Hp → VK → Prop := fun xs H Q => (∃ i, xs = [.int i] ∧ Q (.bl (i != 0)) H) ∨ ∃ k, xs = [.bl k] ∧ Q (.bl k) H
theorem call_bool1A {X : Cx} : CallR X (.type "bool") rBool1 := call_bool1
def rStrI : List V → Hp → VK → Prop := fun xs H Q => ∃ i, xs = [.int i] ∧ i.natAbs.log2 < 1920 ∧ Q (.str (toString i)) H
theorem call_strA {X : Cx} : CallR X (.type "str") rStrI := call_str_int
theorem w_strI {n : Int} (h : n.natAbs.log2 < 1920) (k : Q (.str (toString n)) H) : rStrI [.int n] H Q := ⟨n, rfl, h, k⟩
theorem w_size {xs : List V} {R : Prop} (h : xs.length ≤ sizeLine) (k : R) : xs.length ≤ sizeLine ∧ R := ⟨h, k⟩
/-- stores by place -/
theorem w_gSub {to ti : TE} {ts : TSet} {R : L2.St → Hp → Prop} (k : to σ H fun o H1 => ti σ H1 fun i H2 => ts o i v H2 fun H3 => R σ H3) : gSub to ti ts v σ H R := k
theorem w_setL {l : Addr} {xs : List V} {n : Int} {j : Nat} {R : Hp → Prop} (h : H l = some (.lst xs)) (hj : ixN xs.length n = some j) (k : ChgO l (.lst (xs.set j v)) H R) : rSetL (.ref l) (.int n) v H R := ⟨l, xs, n, j, rfl, rfl, h, hj, k⟩
/-- methods of lists -/
theorem w_bm {T : String} {r : V → List V → Hp → VK → Prop} {tr : TA} (k : ta σ H fun x H1 => tyV K T x H1 ∧ tr σ H1 fun xs H2 => r x xs H2 Q) : tBM K T r ta tr σ H Q := k
theorem w_bm0 {T : String} {r : V → List V → Hp → VK → Prop} (k : ta σ H fun x H1 => tyV K T x H1 ∧ r x [] H1 Q) : tBM0 K T r ta σ H Q := k
theorem w_tyL {p : Addr} {xs : List V} {R : Prop} (h : SqL K H p xs) (k : R) : tyV K "list" (.ref p) H ∧ R := ⟨.inl ⟨rfl, xs, h⟩, k⟩
theorem w_tyS {a : Str} {R : Prop} (k : R) : tyV K "str" (.str a) H ∧ R := ⟨rfl, k⟩
theorem w_append {l : Addr} {xs : List V} (h : H l = some (.lst xs)) (hz : xs.length < sizeLine) (k : ChgO l (.lst (xs ++ [v])) H (Q .non)) : rAppend (.ref l) [v] H Q := ⟨l, xs, v, rfl, rfl, h, hz, k⟩
theorem w_clear {l : Addr} {xs : List V} (h : H l = some (.lst xs)) (k : ChgO l (.lst []) H (Q .non)) : rClear (.ref l) [] H Q := ⟨l, xs, rfl, rfl, h, k⟩
end

/-! ### loops -/
section
variable {K : PySem.W.Frag} {σ : L2.St} {H : Hp} {a D : Addr} {xs : List V} {g : TG} {tb : TS} {nx : L2.St → Hp → Prop} {rt : VK} {bk ct : L2.St → Hp → Prop} {tl te : TE} {ta : TA} {tt : TT} {Q : VK} {vs : List Nat} {j : Nat}
def WFor (J : It) (g : TG) (tb : TS) (nx : L2.St → Hp → Prop) (rt : VK) (σ : L2.St) (H : Hp) : Prop := ∃ W : Nat → Nat → L2.St → Hp → Prop, (∃ m, W 0 m σ H) ∧ ∀ i m σ H, W i m σ H →
  (J.stop i H ∧ nx σ H) ∨ (J.go i H ∧ ∃ N : L2.St → Hp → Prop, (∀ σ' H', N σ' H' → ∃ m', m' < m ∧ W (i + 1) m' σ' H') ∧ ∀ x H', J.yld i H x H' → g x σ H' fun σ2 H2 => tb ⟨N, rt, nx, N⟩ σ2 H2)
theorem w_forL (k : tl σ H fun x H1 => ∃ a, x = .ref a ∧ (∃ xs, SqL K H1 a xs) ∧ WFor (Itl K a) g tb nx rt σ H1) : tFor (iList K tl) g tb ⟨nx, rt, bk, ct⟩ σ H := k
theorem w_forT (k : tl σ H fun x H1 => ∃ a, x = .ref a ∧ (∃ xs, SqT K H1 a xs) ∧ WFor (Itt K a) g tb nx rt σ H1) : tFor (iTup K tl) g tb ⟨nx, rt, bk, ct⟩ σ H := k
theorem w_forR1 (k : ta σ H fun vs H1 => ∃ j : Int, vs = [.int j] ∧ -(2 ^ 62) ≤ j ∧ j < 2 ^ 62 ∧ WFor (Itr 0 j.toNat) g tb nx rt σ H1) : tFor (iRng1 ta) g tb ⟨nx, rt, bk, ct⟩ σ H := k
theorem w_forR2 (k : ta σ H fun vs H1 => ∃ i j : Int, vs = [.int i, .int j] ∧ (-(2 ^ 62) ≤ i ∧ i < 2 ^ 62 ∧ -(2 ^ 62) ≤ j ∧ j < 2 ^ 62) ∧ WFor (Itr i (j - i).toNat) g tb nx rt σ H1) : tFor (iRng2 ta) g tb ⟨nx, rt, bk, ct⟩ σ H := k
/-- over a list that stands: the word by the turn, the slots, the heap -/
theorem fl_list (xs : List V) (Pv : Nat → L2.St → Hp → Prop) (hS : SqL K H a xs) (h0 : Pv 0 σ H) (hl : ∀ i σ H, i ≤ xs.length → Pv i σ H → SqL K H a xs)
    (hs : ∀ i x σ H, xs[i]? = some x → Pv i σ H → g x σ H fun σ2 H2 => tb ⟨Pv (i + 1), rt, nx, Pv (i + 1)⟩ σ2 H2) (hd : ∀ σ H, Pv xs.length σ H → nx σ H) :
    ∃ b, V.ref a = .ref b ∧ (∃ xs, SqL K H b xs) ∧ WFor (Itl K b) g tb nx rt σ H := ⟨a, rfl, ⟨xs, hS⟩, for_list (D := ⟨nx, rt, fun _ _ => False, fun _ _ => False⟩) Pv h0 hl hs hd⟩
theorem fl_tup (xs : List V) (Pv : Nat → L2.St → Hp → Prop) (hS : SqT K H a xs) (h0 : Pv 0 σ H) (hl : ∀ i σ H, i ≤ xs.length → Pv i σ H → SqT K H a xs)
    (hs : ∀ i x σ H, xs[i]? = some x → Pv i σ H → g x σ H fun σ2 H2 => tb ⟨Pv (i + 1), rt, nx, Pv (i + 1)⟩ σ2 H2) (hd : ∀ σ H, Pv xs.length σ H → nx σ H) :
    ∃ b, V.ref a = .ref b ∧ (∃ xs, SqT K H b xs) ∧ WFor (Itt K b) g tb nx rt σ H := ⟨a, rfl, ⟨xs, hS⟩, for_tup (D := ⟨nx, rt, fun _ _ => False, fun _ _ => False⟩) Pv h0 hl hs hd⟩
theorem fl_rng1 {n : Int} (Pv : Nat → L2.St → Hp → Prop) (hb : n < 2 ^ 62) (hb0 : -(2 ^ 62) ≤ n) (h0 : Pv 0 σ H)
    (hs : ∀ i σ H, i < n.toNat → Pv i σ H → g (.int (i : Int)) σ H fun σ2 H2 => tb ⟨Pv (i + 1), rt, nx, Pv (i + 1)⟩ σ2 H2) (hd : ∀ σ H, Pv n.toNat σ H → nx σ H) :
    ∃ j : Int, [V.int n] = [.int j] ∧ -(2 ^ 62) ≤ j ∧ j < 2 ^ 62 ∧ WFor (Itr 0 j.toNat) g tb nx rt σ H := by
  refine ⟨n, rfl, hb0, hb, for_range (D := ⟨nx, rt, fun _ _ => False, fun _ _ => False⟩) Pv h0 (fun i σ H hi p => ?_) hd⟩
  rw [Int.zero_add]
  exact hs i σ H hi p
theorem fl_rng2 {m n : Int} (Pv : Nat → L2.St → Hp → Prop) (hb : -(2 ^ 62) ≤ m ∧ m < 2 ^ 62 ∧ -(2 ^ 62) ≤ n ∧ n < 2 ^ 62) (h0 : Pv 0 σ H)
    (hs : ∀ i σ H, i < (n - m).toNat → Pv i σ H → g (.int (m + (i : Int))) σ H fun σ2 H2 => tb ⟨Pv (i + 1), rt, nx, Pv (i + 1)⟩ σ2 H2) (hd : ∀ σ H, Pv (n - m).toNat σ H → nx σ H) :
    ∃ i j : Int, [V.int m, V.int n] = [.int i, .int j] ∧ (-(2 ^ 62) ≤ i ∧ i < 2 ^ 62 ∧ -(2 ^ 62) ≤ j ∧ j < 2 ^ 62) ∧ WFor (Itr i (j - i).toNat) g tb nx rt σ H :=
  ⟨m, n, rfl, hb, for_range (D := ⟨nx, rt, fun _ _ => False, fun _ _ => False⟩) Pv h0 hs hd⟩
/-- over a short list, turn by turn -/
def runL (K : PySem.W.Frag) (a : Addr) (all : List V) (g : TG) (tb : TS) (nx : L2.St → Hp → Prop) (rt : VK) : List V → L2.St → Hp → Prop
  | [], σ, H => nx σ H
  | x :: r, σ, H => g x σ H fun σ2 H2 => tb ⟨fun σ' H' => SqL K H' a all ∧ runL K a all g tb nx rt r σ' H', rt, nx, fun σ' H' => SqL K H' a all ∧ runL K a all g tb nx rt r σ' H'⟩ σ2 H2
theorem fl_run (xs : List V) (hS : SqL K H a xs) (k : runL K a xs g tb nx rt xs σ H) : ∃ b, V.ref a = .ref b ∧ (∃ xs, SqL K H b xs) ∧ WFor (Itl K b) g tb nx rt σ H := by
  refine fl_list xs (fun i σ H => SqL K H a xs ∧ runL K a xs g tb nx rt (xs.drop i) σ H) hS ⟨hS, by rw [List.drop_zero]; exact k⟩ (fun _ _ _ _ h => h.1) (fun i x σ H hi h => ?_) (fun σ H h => ?_)
  · have e : xs.drop i = x :: xs.drop (i + 1) := by
      obtain ⟨hl, rfl⟩ := List.getElem?_eq_some_iff.mp hi
      exact List.drop_eq_getElem_cons hl
    have h2 := h.2
    rw [e] at h2
    exact h2
  · have h2 := h.2
    rw [List.drop_length] at h2
    exact h2
theorem w_runN (k : nx σ H) : runL K a xs g tb nx rt [] σ H := k
theorem w_runC {x : V} {r : List V} (k : g x σ H fun σ2 H2 => tb ⟨fun σ' H' => SqL K H' a xs ∧ runL K a xs g tb nx rt r σ' H', rt, nx, fun σ' H' => SqL K H' a xs ∧ runL K a xs g tb nx rt r σ' H'⟩ σ2 H2) :
    runL K a xs g tb nx rt (x :: r) σ H := k
/-- the first of two, by what stands -/
theorem w_both {A B : Prop} (h : A) (k : B) : A ∧ B := ⟨h, k⟩
/-! comprehensions -/
def WLc (J : It) (g : TG) (tt : TT) (te : TE) (vs : List Nat) (σ : L2.St) (D : Addr) (H1 : Hp) (Q : VK) : Prop := ∃ W : Nat → Nat → Hp → Prop, (∃ m, W 0 m (upd H1 D (.lst []))) ∧ ∀ i m H, W i m H →
  (J.stop i H ∧ Q (.ref D) H) ∨ (J.go i H ∧ ∃ Nx : Hp → Prop, (∀ H', Nx H' → ∃ m', m' < m ∧ W (i + 1) m' H') ∧ ∀ x H', J.yld i H x H' → g x (wipe σ vs) H' fun σ2 H2 => wipe σ2 vs = wipe σ vs ∧ tt σ2 H2 fun b H3 =>
    if b = true then te σ2 H3 fun y H4 => ∃ acc, H4 D = some (.lst acc) ∧ acc.length < sizeLine ∧ Nx (upd H4 D (.lst (acc ++ [y]))) else Nx H3)
theorem w_lcL (k : tl σ H fun x H1 => ∃ a, x = .ref a ∧ (∃ xs, SqL K H1 a xs) ∧ ∀ D, H1 D = none → WLc (Itl K a) g tt te vs σ D H1 Q) : tLc (iList K tl) g tt te vs σ H Q := k
theorem w_lcT (k : tl σ H fun x H1 => ∃ a, x = .ref a ∧ (∃ xs, SqT K H1 a xs) ∧ ∀ D, H1 D = none → WLc (Itt K a) g tt te vs σ D H1 Q) : tLc (iTup K tl) g tt te vs σ H Q := k
theorem w_lcR1 (k : ta σ H fun us H1 => ∃ j : Int, us = [.int j] ∧ -(2 ^ 62) ≤ j ∧ j < 2 ^ 62 ∧ ∀ D, H1 D = none → WLc (Itr 0 j.toNat) g tt te vs σ D H1 Q) : tLc (iRng1 ta) g tt te vs σ H Q := k
theorem wipe1 (σ : L2.St) (j : Nat) (x : Option V) : wipe ((wipe σ [j]).set j x) [j] = wipe σ [j] := by
  show (((σ.set j none).set j x).set j none) = σ.set j none
  rw [List.set_set, List.set_set]
def LcEnd (D : Addr) (Pv : Nat → List V → Hp → Prop) (i : Nat) (y : V) (H4 : Hp) : Prop := ∃ acc, H4 D = some (.lst acc) ∧ acc.length < sizeLine ∧
  ∃ ys, ys.length ≤ i + 1 ∧ upd H4 D (.lst (acc ++ [y])) D = some (.lst ys) ∧ Pv (i + 1) ys (upd H4 D (.lst (acc ++ [y])))
theorem lc_end {D : Addr} {Pv : Nat → List V → Hp → Prop} {i : Nat} {y : V} {H4 : Hp} {ys : List V} (h : H4 D = some (.lst ys)) (hl : ys.length ≤ i) (hz : ys.length < sizeLine) (k : ∀ H', But D H4 H' → H' D = some (.lst (ys ++ [y])) → Pv (i + 1) (ys ++ [y]) H') : LcEnd D Pv i y H4 :=
  ⟨ys, h, hz, ys ++ [y], by rw [List.length_append]; exact Nat.succ_le_succ hl, upd_same, k _ (But.upd _ _ _) upd_same⟩
def LcSkip (D : Addr) (Pv : Nat → List V → Hp → Prop) (i : Nat) (H4 : Hp) : Prop := ∃ ys, ys.length ≤ i + 1 ∧ H4 D = some (.lst ys) ∧ Pv (i + 1) ys H4
theorem lc_skip {D : Addr} {Pv : Nat → List V → Hp → Prop} {i : Nat} {H4 : Hp} {ys : List V} (h : H4 D = some (.lst ys)) (hl : ys.length ≤ i) (k : Pv (i + 1) ys H4) : LcSkip D Pv i H4 := ⟨ys, Nat.le_succ_of_le hl, h, k⟩
/-- over a list: the word by the turn, the list so far, the heap; any test -/
theorem lc_L (xs : List V) (Pv : Addr → Nat → List V → Hp → Prop) (hS : SqL K H a xs) (h0 : ∀ D H', H D = none → Same H H' → H' D = some (.lst []) → Pv D 0 [] H')
    (hl : ∀ D, H D = none → ∀ i ys H', i ≤ xs.length → H' D = some (.lst ys) → Pv D i ys H' → SqL K H' a xs)
    (hs : ∀ D, H D = none → ∀ i x ys H', xs[i]? = some x → ys.length ≤ i → H' D = some (.lst ys) → Pv D i ys H' → tt ((wipe σ [j]).set j (some x)) H' fun b H3 => if b = true then te ((wipe σ [j]).set j (some x)) H3 fun y H4 => LcEnd D (Pv D) i y H4 else LcSkip D (Pv D) i H3)
    (hd : ∀ D, H D = none → ∀ ys H', ys.length ≤ xs.length → H' D = some (.lst ys) → Pv D xs.length ys H' → Q (.ref D) H') :
    ∃ b, V.ref a = .ref b ∧ (∃ xs, SqL K H b xs) ∧ ∀ D, H D = none → WLc (Itl K b) (gName j) tt te [j] σ D H Q :=
  ⟨a, rfl, ⟨xs, hS⟩, fun D hD => lc_list (xs := xs) (fun i H' => ∃ ys, ys.length ≤ i ∧ H' D = some (.lst ys) ∧ Pv D i ys H') ⟨[], Nat.le_refl _, upd_same, h0 D _ hD (Same.one hD) upd_same⟩ (fun i H' hi ⟨ys, _, e, p⟩ => hl D hD i ys H' hi e p)
    (fun i x H' hi ⟨ys, e, e2, p⟩ => ⟨wipe1 _ _ _, hs D hD i x ys H' hi e e2 p⟩) (fun H' ⟨ys, e, e2, p⟩ => hd D hD ys H' e e2 p)⟩
theorem lc_T (xs : List V) (Pv : Addr → Nat → List V → Hp → Prop) (hS : SqT K H a xs) (h0 : ∀ D H', H D = none → Same H H' → H' D = some (.lst []) → Pv D 0 [] H')
    (hl : ∀ D, H D = none → ∀ i ys H', i ≤ xs.length → H' D = some (.lst ys) → Pv D i ys H' → SqT K H' a xs)
    (hs : ∀ D, H D = none → ∀ i x ys H', xs[i]? = some x → ys.length ≤ i → H' D = some (.lst ys) → Pv D i ys H' → tt ((wipe σ [j]).set j (some x)) H' fun b H3 => if b = true then te ((wipe σ [j]).set j (some x)) H3 fun y H4 => LcEnd D (Pv D) i y H4 else LcSkip D (Pv D) i H3)
    (hd : ∀ D, H D = none → ∀ ys H', ys.length ≤ xs.length → H' D = some (.lst ys) → Pv D xs.length ys H' → Q (.ref D) H') :
    ∃ b, V.ref a = .ref b ∧ (∃ xs, SqT K H b xs) ∧ ∀ D, H D = none → WLc (Itt K b) (gName j) tt te [j] σ D H Q :=
  ⟨a, rfl, ⟨xs, hS⟩, fun D hD => lc_tup (xs := xs) (fun i H' => ∃ ys, ys.length ≤ i ∧ H' D = some (.lst ys) ∧ Pv D i ys H') ⟨[], Nat.le_refl _, upd_same, h0 D _ hD (Same.one hD) upd_same⟩ (fun i H' hi ⟨ys, _, e, p⟩ => hl D hD i ys H' hi e p)
    (fun i x H' hi ⟨ys, e, e2, p⟩ => ⟨wipe1 _ _ _, hs D hD i x ys H' hi e e2 p⟩) (fun H' ⟨ys, e, e2, p⟩ => hd D hD ys H' e e2 p)⟩
theorem lc_R1 {n : Int} (Pv : Addr → Nat → List V → Hp → Prop) (hb0 : -(2 ^ 62) ≤ n) (hb : n < 2 ^ 62) (h0 : ∀ D H', H D = none → Same H H' → H' D = some (.lst []) → Pv D 0 [] H')
    (hs : ∀ D, H D = none → ∀ (i : Nat) ys H', i < n.toNat → ys.length ≤ i → H' D = some (.lst ys) → Pv D i ys H' → tt ((wipe σ [j]).set j (some (.int (i : Int)))) H' fun b H3 => if b = true then te ((wipe σ [j]).set j (some (.int (i : Int)))) H3 fun y H4 => LcEnd D (Pv D) i y H4 else LcSkip D (Pv D) i H3)
    (hd : ∀ D, H D = none → ∀ ys H', ys.length ≤ n.toNat → H' D = some (.lst ys) → Pv D n.toNat ys H' → Q (.ref D) H') :
    ∃ m : Int, [V.int n] = [.int m] ∧ -(2 ^ 62) ≤ m ∧ m < 2 ^ 62 ∧ ∀ D, H D = none → WLc (Itr 0 m.toNat) (gName j) tt te [j] σ D H Q :=
  ⟨n, rfl, hb0, hb, fun D hD => lc_range (lo := 0) (n := n.toNat) (fun i H' => ∃ ys, ys.length ≤ i ∧ H' D = some (.lst ys) ∧ Pv D i ys H') ⟨[], Nat.le_refl _, upd_same, h0 D _ hD (Same.one hD) upd_same⟩
    (fun i H' hi ⟨ys, e, e2, p⟩ => by
      rw [Int.zero_add]
      exact ⟨wipe1 _ _ _, hs D hD i ys H' hi e e2 p⟩) (fun H' ⟨ys, e, e2, p⟩ => hd D hD ys H' e e2 p)⟩
theorem w_yes {R : Bool → Hp → Prop} (k : R true H) : tYes σ H R := k
end

/-! ### data -/
mutual
/-- data of None, ints, texts, lists, tuples, not too deep: what == tells of it is whether it is the same -/
def clean : PyData → Bool
  | .none => true
  | .int _ => true
  | .str x => PyData.strOk x
  | .list xs => cleanAll xs
  | .tuple xs => cleanAll xs
  | .bool _ => false
  | .dict _ => false
def cleanAll : List PyData → Bool
  | [] => true
  | x :: xs => clean x && cleanAll xs
end
mutual
theorem clean_lay : ∀ d : PyData, clean d = true → d.canLay0 = true
  | .none, _ => by rw [PyData.canLay0]
  | .int _, _ => by rw [PyData.canLay0]
  | .str x, h => by rw [PyData.canLay0]; rw [clean] at h; exact h
  | .list xs, h => by rw [PyData.canLay0]; rw [clean] at h; exact cleanAll_lay xs h
  | .tuple xs, h => by rw [PyData.canLay0]; rw [clean] at h; exact cleanAll_lay xs h
  | .bool _, h => by rw [clean] at h; cases h
  | .dict _, h => by rw [clean] at h; cases h
theorem cleanAll_lay : ∀ ds : List PyData, cleanAll ds = true → PyData.canLayAll0 ds = true
  | [], _ => by rw [PyData.canLayAll0]
  | x :: xs, h => by
    rw [cleanAll, Bool.and_eq_true] at h
    rw [PyData.canLayAll0, clean_lay x h.1, cleanAll_lay xs h.2]; rfl
end
mutual
theorem clean_eqv : ∀ d e : PyData, clean d = true → clean e = true → (PyData.eqv d e = true ↔ d = e)
  | .none, e, _, _ => by cases e <;> simp [PyData.eqv]
  | .int i, e, _, he => by cases e <;> simp [PyData.eqv]; simp [clean] at he
  | .str x, e, _, _ => by cases e <;> simp [PyData.eqv]
  | .list xs, e, h, he => by
    cases e <;> simp [PyData.eqv]
    simp only [clean] at h he
    exact cleanAll_eqv xs _ h he
  | .tuple xs, e, h, he => by
    cases e <;> simp [PyData.eqv]
    simp only [clean] at h he
    exact cleanAll_eqv xs _ h he
  | .bool _, _, h, _ => by simp [clean] at h
  | .dict _, _, h, _ => by simp [clean] at h
theorem cleanAll_eqv : ∀ ds es : List PyData, cleanAll ds = true → cleanAll es = true → (PyData.eqvAll ds es = true ↔ ds = es)
  | [], es, _, _ => by cases es <;> simp [PyData.eqvAll]
  | x :: xs, [], _, _ => by simp [PyData.eqvAll]
  | x :: xs, y :: ys, h, he => by
    simp only [cleanAll, Bool.and_eq_true] at h he
    simp only [PyData.eqvAll, Bool.and_eq_true, clean_eqv x y h.1 he.1, cleanAll_eqv xs ys h.2 he.2, List.cons.injEq]
end
/-- to be compared by == -/
structure Cmp (d : PyData) : Prop where
  clean : clean d = true
  depth : d.depth ≤ 64
theorem Cmp.shaped {d : PyData} (c : Cmp d) : SeqAt.shaped d = true := by
  unfold SeqAt.shaped
  rw [clean_lay d c.clean, Bool.true_and, decide_eq_true_eq]
  exact c.depth
theorem eqv_iff {d e : PyData} (c : Cmp d) (c' : Cmp e) : PyData.eqv d e = true ↔ d = e := clean_eqv d e c.clean c'.clean
open Classical in
theorem w_eqP {K : PySem.W.Frag} {H : Hp} {x y : V} {Q : VK} {d e : PyData} (hd : Dp K H x d) (he : Dp K H y e) (cd : Cmp d) (ce : Cmp e) (k : ∀ b : Bool, (b = true ↔ d = e) → Q (.bl b) H) : rEqA K x y H Q :=
  w_eqD hd he cd.shaped ce.shaped (k _ (eqv_iff cd ce))
theorem w_neP {K : PySem.W.Frag} {H : Hp} {x y : V} {Q : VK} {d e : PyData} (hd : Dp K H x d) (he : Dp K H y e) (cd : Cmp d) (ce : Cmp e) (k : ∀ b : Bool, (b = true ↔ d ≠ e) → Q (.bl b) H) : rNeA K x y H Q :=
  w_neD hd he cd.shaped ce.shaped (k _ (by
    have h := eqv_iff cd ce
    cases hb : PyData.eqv d e <;> rw [hb] at h <;> simp at h ⊢ <;> exact h))
theorem dpAll_ints {K : PySem.W.Frag} {H : Hp} : ∀ ns : List Int, DpAll K H (ns.map V.int) (ns.map PyData.int)
  | [] => .nil
  | n :: ns => .cons (.int n) (dpAll_ints ns)
theorem dp_ints {K : PySem.W.Frag} {H : Hp} {a : Addr} {ns : List Int} (h : SqL K H a (ns.map V.int)) : Dp K H (.ref a) (.list (ns.map PyData.int)) := .lst h (dpAll_ints ns)
theorem cleanAll_ints : ∀ ns : List Int, cleanAll (ns.map PyData.int) = true
  | [] => by simp [cleanAll]
  | n :: ns => by rw [List.map_cons, cleanAll, cleanAll_ints ns, clean]; rfl
theorem depthAll_ints : ∀ ns : List Int, PyData.depthAll (ns.map PyData.int) = 0
  | [] => by simp [PyData.depthAll]
  | n :: ns => by rw [List.map_cons, PyData.depthAll, depthAll_ints ns, PyData.depth]; rfl
theorem cmp_ints (ns : List Int) : Cmp (.list (ns.map PyData.int)) := ⟨by rw [clean]; exact cleanAll_ints ns, by rw [PyData.depth, depthAll_ints]; decide⟩
theorem map_int_inj {ns ms : List Int} : PyData.list (ns.map PyData.int) = .list (ms.map PyData.int) ↔ ns = ms := by
  constructor
  · intro h
    have h2 : ns.map PyData.int = ms.map PyData.int := by injection h
    exact (List.map_inj_right (f := PyData.int) (fun x y e => by injection e)).mp h2
  · intro h; rw [h]
theorem w_eqIL {K : PySem.W.Frag} {H : Hp} {p q : Addr} {Q : VK} {ns ms : List Int} (h1 : SqL K H p (ns.map V.int)) (h2 : SqL K H q (ms.map V.int)) (k : Q (.bl (decide (ns = ms))) H) : rEqA K (.ref p) (.ref q) H Q :=
  w_eqP (dp_ints h1) (dp_ints h2) (cmp_ints _) (cmp_ints _) fun b hb => by
    rw [map_int_inj] at hb
    rw [show b = decide (ns = ms) by rw [Bool.eq_iff_iff, hb, decide_eq_true_eq]]
    exact k
theorem w_neIL {K : PySem.W.Frag} {H : Hp} {p q : Addr} {Q : VK} {ns ms : List Int} (h1 : SqL K H p (ns.map V.int)) (h2 : SqL K H q (ms.map V.int)) (k : Q (.bl (!decide (ns = ms))) H) : rNeA K (.ref p) (.ref q) H Q :=
  w_neP (dp_ints h1) (dp_ints h2) (cmp_ints _) (cmp_ints _) fun b hb => by
    rw [ne_eq, map_int_inj] at hb
    rw [show b = !decide (ns = ms) by rw [Bool.eq_iff_iff, hb]; simp]
    exact k
/-! slices -/
section
variable {K : PySem.W.Frag} {σ : L2.St} {H : Hp} {te : TE} {tl th : TO} {Q : VK} {a : Addr} {xs : List V} {lo hi : Option Int}
theorem sl_any {X : Cx} : SlR X (rSlAny X.K) := sl_list.or (sl_str.or sl_tupA)
theorem w_sl {r : V → Option Int → Option Int → Hp → VK → Prop} (k : te σ H fun x H1 => tl σ H1 fun l H2 => th σ H2 fun u H3 => r x l u H3 Q) : tSl r te tl th σ H Q := k
theorem w_noPart {R : Option Int → Hp → Prop} (k : R none H) : tNoPart σ H R := k
theorem w_part {R : Option Int → Hp → Prop} (k : te σ H fun x H1 => ∃ i, x = .int i ∧ R (some i) H1) : tPart te σ H R := k
theorem w_int {R : Int → Prop} {n : Int} (k : R n) : ∃ i, V.int n = .int i ∧ R i := ⟨n, rfl, k⟩
theorem w_slL (h : SqL K H a xs) (k : NewO (.lst (cutV xs lo hi)) H Q) : rSlAny K (.ref a) lo hi H Q := .inl ⟨a, xs, rfl, h, k⟩
theorem w_slS {z : Str} (h : z.length ≤ sizeLine) (k : Q (.str (cutS z lo hi)) H) : rSlAny K (.str z) lo hi H Q := .inr (.inl ⟨z, rfl, h, k⟩)
theorem w_rep {l : Addr} {n : Int} (h : H l = some (.lst xs)) (h0 : -(2 ^ 63) ≤ n) (h1 : n < 2 ^ 63) (hz : xs.length * n.toNat ≤ sizeLine) (k : NewO (.lst (List.replicate n.toNat xs).flatten) H Q) : rMulA (.ref l) (.int n) H Q :=
  .inr ⟨l, n, xs, rfl, rfl, h, h0, h1, hz, k⟩
end

/-! ### unpacking: a tuple or a list -/
def gSeq (K : PySem.W.Frag) (n : Nat) (t : TGs) : TG := fun v σ H Q => gLst K n t v σ H Q ∨ gTup K n t v σ H Q
theorem pg_seq {X : Cx} {pos : Pos} {es : List Expr} {k : Nat} {t : TGs} {n : Nat} (hc : X.calm = true) (h : PGs X es t)
    (hn : (assignEach es X.env).length = n := by rfl) (hst : (assignEach es X.env).findIdx? (·.1) = none := by rfl) : PG X (.Tuple es k pos) (gSeq X.K n t) := by
  refine ⟨fun pins s σ H v u Q I r hw => ?_⟩
  rcases hw with hw | hw
  · exact (pg_lst hc h hn hst).run pins s σ H v u Q I r hw
  · exact (pg_tup hc h hn hst).run pins s σ H v u Q I r hw
section
variable {K : PySem.W.Frag} {σ : L2.St} {H : Hp} {R : L2.St → Hp → Prop} {t : TGs} {g : TG} {xs : List V} {a : Addr} {v : V} {n : Nat}
theorem w_seqL (h : SqL K H a xs) (hl : xs.length = n) (k : t xs σ H R) : gSeq K n t (.ref a) σ H R := .inl ⟨a, xs, rfl, h, hl, k⟩
theorem w_seqT (h : SqT K H a xs) (hl : xs.length = n) (k : t xs σ H R) : gSeq K n t (.ref a) σ H R := .inr ⟨a, xs, rfl, h, hl, k⟩
theorem w_gNil (k : R σ H) : gNil [] σ H R := ⟨rfl, k⟩
theorem w_gCons (k : g v σ H fun σ' H' => t xs σ' H' R) : gCons g t (v :: xs) σ H R := ⟨v, xs, rfl, k⟩
end

/-! ### places -/
theorem atI_of {α : Type} {xs : List α} {n : Int} {v : α} (h0 : 0 ≤ n) (h : xs[n.toNat]? = some v) : atI xs n = some v := by
  have e : ((n.toNat : Nat) : Int) = n := Int.toNat_of_nonneg h0
  have q := atI_nat h
  rw [e] at q
  exact q
theorem at0 {α : Type} {a : α} {xs : List α} : atI (a :: xs) 0 = some a := atI_of (Int.le_refl 0) rfl
theorem at1 {α : Type} {a b : α} {xs : List α} : atI (a :: b :: xs) 1 = some b := atI_of (by decide) rfl
theorem at2 {α : Type} {a b c : α} {xs : List α} : atI (a :: b :: c :: xs) 2 = some c := atI_of (by decide) rfl
theorem atI_some {α : Type} {xs : List α} {n : Int} (h0 : 0 ≤ n) (h : n < xs.length) : ∃ v, atI xs n = some v ∧ v ∈ xs ∧ xs[n.toNat]? = some v := by
  have hl : n.toNat < xs.length := by omega
  refine ⟨xs[n.toNat], atI_of h0 (List.getElem?_eq_getElem hl), List.getElem_mem hl, List.getElem?_eq_getElem hl⟩

theorem cdw {i j : Int} (h : 0 < j) (h2 : j < 2 ^ 200) : CDivW i j := wide_div (b := 200) h (by omega) (by decide) (by decide)
/-! ### defs by names -/
/-- the def of the name x keeps the promise sp -/
structure Fn (P : Program) (w : World) (K : PySem.W.Frag) (mg : Str → Option Value) (x : Str) (k : Nat) (ps : List Str) (sp : Sp) : Prop where
  ex : ∃ fd, (∀ base, FnOk P w K mg base CX0 k (He.ga K x) fd ps sp) ∧ Binds K fd ps [] ∧ ∀ (s : Shared) (us : List Value), us.length = ps.length → BindsTo s fd ⟨us, []⟩ (ps.zip us)
  gl : mg x = some (.ref (He.ga K x))
  kp : PySem.W.keepIn K (.ref (He.ga K x)) = true
section
variable {X : Cx} {k : Nat} {x : Str} {ps : List Str} {sp : Sp} {p pos : Pos} {e : Expr} {es : List Expr} {t : TA}
theorem pe_fn (F : Fn X.prog X.w X.K X.mg x k ps sp) (hr : Room k X.A) (hg : Gl X x) (ha : PA X (e :: es) t)
    (hdb : (x == ("__debug__" : Str)) = false := by decide) (he : starEach (e :: es) X.env = (false, eval e X.env) :: starEach es X.env := by rfl) (hpl : (backTo pos (starEach es X.env)).any (·.1) = false := by rfl) :
    PE X (.Call (.Name x p) (e :: es) [] pos) (tCall sp [] E0 t) := by
  obtain ⟨fd, G, b, _⟩ := F.ex
  exact pe_call (G X.base) hr hg F.gl F.kp b .nil pass0 ha hdb he hpl
theorem pe_fn0 (F : Fn X.prog X.w X.K X.mg x k ps sp) (hr : Room k X.A) (hg : Gl X x) (hdb : (x == ("__debug__" : Str)) = false := by decide) :
    PE X (.Call (.Name x p) [] [] pos) (tCall sp [] E0 tNil) := by
  obtain ⟨fd, G, b, _⟩ := F.ex
  exact pe_call0 (G X.base) hr hg F.gl F.kp b .nil pass0 hdb
end
/-- a def's data as the head tells it -/
theorem Fn.mk' {P : Program} {w : World} {K : PySem.W.Frag} {mg : Str → Option Value} {x : Str} {k : Nat} {N ps : List Str} {sp : Sp} {args : Arguments} {body : List Stmt} {sc : Scope} {fd : FuncData}
    (F : FunD K x x args body sc [] [] (He.ga K x) fd) (gl : mg x = some (.ref (He.ga K x))) (S : FnScope N ps sc) (len : ∀ vs H Q E, sp vs H Q E → vs.length = ps.length)
    (hb : ∀ (kV doc pm : Value) (an : Option Addr) (cdv ct : Value) (us : List Value), us.length = ps.length → bindArgs (PySem.W.fnOf x x args body sc .none kV doc pm an cdv ct) ⟨us, []⟩ = pure (ps.zip us))
    (hbody : ∀ (base : Heap) (cdv : Value) (A : Around) (outer : List Env) (s : Shared) (H : Hp) (vs : List V) (Q : VK) (E : XK), Room k (A.deeper (envOfC x sc s.heap.objs.size (He.ga K x) cdv)) → sp vs H Q E →
      ∃ t, PSs (cxOf CX0 P w K mg base N x sc (He.ga K x) cdv A outer s H E).nox body t ∧ t ⟨fun _ H' => Q .non H', Q, fun _ _ => False, fun _ _ => False⟩ (start N vs) H) : Fn P w K mg x (k + 1) ps sp :=
  ⟨⟨fd, fun base => F.ok S len fun cdv A outer s H vs Q E hr h => by
      obtain ⟨t, d, q⟩ := hbody base cdv A outer s H vs Q E hr h
      exact ⟨t, d.nox, q⟩, F.bindsN hb, F.bindsA hb⟩, gl, F.kp⟩

end J
namespace J
open PySem PySem.Spec PyProof.Rows L2
def top (i : Nat) : Stmt := PySem.Challenge.pw_rowsjoined_k03_sums_together.main.body.getD i (.Pass ⟨0, 0, 0, 0⟩)
abbrev s_truth_of : Stmt := top 1
abbrev N_truth_of : List Str := ["word"]
theorem sc_truth_of : FnScope N_truth_of ["word"] (defScope s_truth_of) := ⟨rfl, rfl, rfl, by decide +kernel, rfl, by decide +kernel, by decide +kernel⟩
abbrev s_top_of : Stmt := top 2
abbrev N_top_of : List Str := ["word", "width"]
theorem sc_top_of : FnScope N_top_of ["word", "width"] (defScope s_top_of) := ⟨rfl, rfl, rfl, by decide +kernel, rfl, by decide +kernel, by decide +kernel⟩
abbrev s_told_by_bits : Stmt := top 3
abbrev N_told_by_bits : List Str := ["op", "one", "other"]
theorem sc_told_by_bits : FnScope N_told_by_bits ["op", "one", "other"] (defScope s_told_by_bits) := ⟨rfl, rfl, rfl, by decide +kernel, rfl, by decide +kernel, by decide +kernel⟩
abbrev s_reckoned : Stmt := top 4
abbrev N_reckoned : List Str := ["op", "one", "other", "width", "whole"]
theorem sc_reckoned : FnScope N_reckoned ["op", "one", "other", "width"] (defScope s_reckoned) := ⟨rfl, rfl, rfl, by decide +kernel, rfl, by decide +kernel, by decide +kernel⟩
abbrev s_law_cell : Stmt := top 6
abbrev N_law_cell : List Str := ["script", "k"]
theorem sc_law_cell : FnScope N_law_cell ["script", "k"] (defScope s_law_cell) := ⟨rfl, rfl, rfl, by decide +kernel, rfl, by decide +kernel, by decide +kernel⟩
abbrev s_law_stream : Stmt := top 7
abbrev N_law_stream : List Str := ["cell"]
theorem sc_law_stream : FnScope N_law_stream ["cell"] (defScope s_law_stream) := ⟨rfl, rfl, rfl, by decide +kernel, rfl, by decide +kernel, by decide +kernel⟩
abbrev s_law_take : Stmt := top 8
abbrev N_law_take : List Str := ["stream", "many", "digit", "number"]
theorem sc_law_take : FnScope N_law_take ["stream", "many"] (defScope s_law_take) := ⟨rfl, rfl, rfl, by decide +kernel, rfl, by decide +kernel, by decide +kernel⟩
abbrev s_law_word : Stmt := top 9
abbrev N_law_word : List Str := ["stream", "width", "way", "small"]
theorem sc_law_word : FnScope N_law_word ["stream", "width"] (defScope s_law_word) := ⟨rfl, rfl, rfl, by decide +kernel, rfl, by decide +kernel, by decide +kernel⟩
abbrev s_law_all : Stmt := top 10
abbrev N_law_all : List Str := ["op", "words", "width", "found", "word"]
theorem sc_law_all : FnScope N_law_all ["op", "words", "width"] (defScope s_law_all) := ⟨rfl, rfl, rfl, by decide +kernel, rfl, by decide +kernel, by decide +kernel⟩
abbrev s_law_sums_good : Stmt := top 11
abbrev N_law_sums_good : List Str := ["one", "other", "third", "width", "op", "rows", "found", "behind", "both", "against", "words"]
theorem sc_law_sums_good : FnScope N_law_sums_good ["one", "other", "third", "width"] (defScope s_law_sums_good) := ⟨rfl, rfl, rfl, by decide +kernel, rfl, by decide +kernel, by decide +kernel⟩
abbrev s_law_bits_good : Stmt := top 12
abbrev N_law_bits_good : List Str := ["one", "other", "width", "joined", "shared", "apart", "twice", "lower"]
theorem sc_law_bits_good : FnScope N_law_bits_good ["one", "other", "width"] (defScope s_law_bits_good) := ⟨rfl, rfl, rfl, by decide +kernel, rfl, by decide +kernel, by decide +kernel⟩
abbrev s_law_order_good : Stmt := top 13
abbrev N_law_order_good : List Str := ["one", "other", "width", "told"]
theorem sc_law_order_good : FnScope N_law_order_good ["one", "other", "width"] (defScope s_law_order_good) := ⟨rfl, rfl, rfl, by decide +kernel, rfl, by decide +kernel, by decide +kernel⟩
abbrev s_law : Stmt := top 14
abbrev N_law : List Str := ["script", "k", "stream", "width", "words", "one", "other", "third", "j"]
theorem sc_law : FnScope N_law ["script"] (defScope s_law) := ⟨rfl, rfl, rfl, by decide +kernel, rfl, by decide +kernel, by decide +kernel⟩
def fn : List He.DefD := [⟨("truth_of", none), "truth_of", "truth_of", defArgs s_truth_of, defBody s_truth_of, defScope s_truth_of, [], []⟩,
  ⟨("top_of", none), "top_of", "top_of", defArgs s_top_of, defBody s_top_of, defScope s_top_of, [], []⟩,
  ⟨("told_by_bits", none), "told_by_bits", "told_by_bits", defArgs s_told_by_bits, defBody s_told_by_bits, defScope s_told_by_bits, [], []⟩,
  ⟨("reckoned", none), "reckoned", "reckoned", defArgs s_reckoned, defBody s_reckoned, defScope s_reckoned, [], []⟩,
  ⟨("_law_cell", none), "_law_cell", "_law_cell", defArgs s_law_cell, defBody s_law_cell, defScope s_law_cell, [], []⟩,
  ⟨("_law_stream", none), "_law_stream", "_law_stream", defArgs s_law_stream, defBody s_law_stream, defScope s_law_stream, [], []⟩,
  ⟨("_law_take", none), "_law_take", "_law_take", defArgs s_law_take, defBody s_law_take, defScope s_law_take, [], []⟩,
  ⟨("_law_word", none), "_law_word", "_law_word", defArgs s_law_word, defBody s_law_word, defScope s_law_word, [], []⟩,
  ⟨("_law_all", none), "_law_all", "_law_all", defArgs s_law_all, defBody s_law_all, defScope s_law_all, [], []⟩,
  ⟨("_law_sums_good", none), "_law_sums_good", "_law_sums_good", defArgs s_law_sums_good, defBody s_law_sums_good, defScope s_law_sums_good, [], []⟩,
  ⟨("_law_bits_good", none), "_law_bits_good", "_law_bits_good", defArgs s_law_bits_good, defBody s_law_bits_good, defScope s_law_bits_good, [], []⟩,
  ⟨("_law_order_good", none), "_law_order_good", "_law_order_good", defArgs s_law_order_good, defBody s_law_order_good, defScope s_law_order_good, [], []⟩,
  ⟨("law", none), "law", "law", defArgs s_law, defBody s_law, defScope s_law, [], []⟩]
def fa : List He.Fa := [.glo "truth_of", .glo "top_of", .glo "told_by_bits", .glo "reckoned", .glo "_law_cell", .glo "_law_stream", .glo "_law_take", .glo "_law_word", .glo "_law_all", .glo "_law_sums_good", .glo "_law_bits_good", .glo "_law_order_good", .glo "law", .free "int", .free "len", .free "max", .free "min", .free "range", .free "sorted"]
/-- what the head tells of the text -/
structure Facts (K : PySem.W.Frag) (mg : Str → Option Value) : Prop where
  d_truth_of : ∃ fd, FunD K "truth_of" "truth_of" (defArgs s_truth_of) (defBody s_truth_of) (defScope s_truth_of) [] [] (He.ga K "truth_of") fd
  g_truth_of : mg "truth_of" = some (.ref (He.ga K "truth_of"))
  d_top_of : ∃ fd, FunD K "top_of" "top_of" (defArgs s_top_of) (defBody s_top_of) (defScope s_top_of) [] [] (He.ga K "top_of") fd
  g_top_of : mg "top_of" = some (.ref (He.ga K "top_of"))
  d_told_by_bits : ∃ fd, FunD K "told_by_bits" "told_by_bits" (defArgs s_told_by_bits) (defBody s_told_by_bits) (defScope s_told_by_bits) [] [] (He.ga K "told_by_bits") fd
  g_told_by_bits : mg "told_by_bits" = some (.ref (He.ga K "told_by_bits"))
  d_reckoned : ∃ fd, FunD K "reckoned" "reckoned" (defArgs s_reckoned) (defBody s_reckoned) (defScope s_reckoned) [] [] (He.ga K "reckoned") fd
  g_reckoned : mg "reckoned" = some (.ref (He.ga K "reckoned"))
  d_law_cell : ∃ fd, FunD K "_law_cell" "_law_cell" (defArgs s_law_cell) (defBody s_law_cell) (defScope s_law_cell) [] [] (He.ga K "_law_cell") fd
  g_law_cell : mg "_law_cell" = some (.ref (He.ga K "_law_cell"))
  d_law_stream : ∃ fd, FunD K "_law_stream" "_law_stream" (defArgs s_law_stream) (defBody s_law_stream) (defScope s_law_stream) [] [] (He.ga K "_law_stream") fd
  g_law_stream : mg "_law_stream" = some (.ref (He.ga K "_law_stream"))
  d_law_take : ∃ fd, FunD K "_law_take" "_law_take" (defArgs s_law_take) (defBody s_law_take) (defScope s_law_take) [] [] (He.ga K "_law_take") fd
  g_law_take : mg "_law_take" = some (.ref (He.ga K "_law_take"))
  d_law_word : ∃ fd, FunD K "_law_word" "_law_word" (defArgs s_law_word) (defBody s_law_word) (defScope s_law_word) [] [] (He.ga K "_law_word") fd
  g_law_word : mg "_law_word" = some (.ref (He.ga K "_law_word"))
  d_law_all : ∃ fd, FunD K "_law_all" "_law_all" (defArgs s_law_all) (defBody s_law_all) (defScope s_law_all) [] [] (He.ga K "_law_all") fd
  g_law_all : mg "_law_all" = some (.ref (He.ga K "_law_all"))
  d_law_sums_good : ∃ fd, FunD K "_law_sums_good" "_law_sums_good" (defArgs s_law_sums_good) (defBody s_law_sums_good) (defScope s_law_sums_good) [] [] (He.ga K "_law_sums_good") fd
  g_law_sums_good : mg "_law_sums_good" = some (.ref (He.ga K "_law_sums_good"))
  d_law_bits_good : ∃ fd, FunD K "_law_bits_good" "_law_bits_good" (defArgs s_law_bits_good) (defBody s_law_bits_good) (defScope s_law_bits_good) [] [] (He.ga K "_law_bits_good") fd
  g_law_bits_good : mg "_law_bits_good" = some (.ref (He.ga K "_law_bits_good"))
  d_law_order_good : ∃ fd, FunD K "_law_order_good" "_law_order_good" (defArgs s_law_order_good) (defBody s_law_order_good) (defScope s_law_order_good) [] [] (He.ga K "_law_order_good") fd
  g_law_order_good : mg "_law_order_good" = some (.ref (He.ga K "_law_order_good"))
  d_law : ∃ fd, FunD K "law" "law" (defArgs s_law) (defBody s_law) (defScope s_law) [] [] (He.ga K "law") fd
  g_law : mg "law" = some (.ref (He.ga K "law"))
  f_int : mg "int" = none
  f_len : mg "len" = none
  f_max : mg "max" = none
  f_min : mg "min" = none
  f_range : mg "range" = none
  f_sorted : mg "sorted" = none
theorem facts_of {h : Heap} {K : PySem.W.Frag} {mg : Str → Option Value} (X : K.In h) (G : h.Ns mainGlobals mg) (c : He.SaysD fa fn K) : Facts K mg where
  d_truth_of := c.def_ 0 rfl
  g_truth_of := He.glo_ok X G (c.fact 0 rfl)
  d_top_of := c.def_ 1 rfl
  g_top_of := He.glo_ok X G (c.fact 1 rfl)
  d_told_by_bits := c.def_ 2 rfl
  g_told_by_bits := He.glo_ok X G (c.fact 2 rfl)
  d_reckoned := c.def_ 3 rfl
  g_reckoned := He.glo_ok X G (c.fact 3 rfl)
  d_law_cell := c.def_ 4 rfl
  g_law_cell := He.glo_ok X G (c.fact 4 rfl)
  d_law_stream := c.def_ 5 rfl
  g_law_stream := He.glo_ok X G (c.fact 5 rfl)
  d_law_take := c.def_ 6 rfl
  g_law_take := He.glo_ok X G (c.fact 6 rfl)
  d_law_word := c.def_ 7 rfl
  g_law_word := He.glo_ok X G (c.fact 7 rfl)
  d_law_all := c.def_ 8 rfl
  g_law_all := He.glo_ok X G (c.fact 8 rfl)
  d_law_sums_good := c.def_ 9 rfl
  g_law_sums_good := He.glo_ok X G (c.fact 9 rfl)
  d_law_bits_good := c.def_ 10 rfl
  g_law_bits_good := He.glo_ok X G (c.fact 10 rfl)
  d_law_order_good := c.def_ 11 rfl
  g_law_order_good := He.glo_ok X G (c.fact 11 rfl)
  d_law := c.def_ 12 rfl
  g_law := He.glo_ok X G (c.fact 12 rfl)
  f_int := He.free_ok X G (c.fact 13 rfl)
  f_len := He.free_ok X G (c.fact 14 rfl)
  f_max := He.free_ok X G (c.fact 15 rfl)
  f_min := He.free_ok X G (c.fact 16 rfl)
  f_range := He.free_ok X G (c.fact 17 rfl)
  f_sorted := He.free_ok X G (c.fact 18 rfl)
end J
namespace J
open PySem PySem.Spec PyProof.Rows L2
local macro_rules | `(tactic| walk_at "ix") => `(tactic| first | exact at0 | exact at1 | exact at2 | assumption)
local macro_rules | `(tactic| walk_at "size") => `(tactic| first
  | assumption
  | (show _ < sizeLine; rw [sizeLine_eq]; simp only [List.length_cons, List.length_nil, List.length_append, List.length_map]; omega)
  | (show _ ≤ sizeLine; rw [sizeLine_eq]; simp only [List.length_cons, List.length_nil, List.length_append, List.length_map]; omega))
local macro_rules | `(tactic| walk_at "side") => `(tactic| first
  | assumption
  | ((with_reducible refine cdw ?_ ?_) <;> omega)
  | omega
  | (exact ⟨by omega, by omega⟩)
  | (exact Or.inl ⟨by omega, by omega⟩)
  | (exact Or.inr ⟨by omega, by omega⟩)
  | decide
  | (simp only [List.length_cons, List.length_nil, List.length_append, List.length_map]; omega)
  | (show _ ≤ _; decide))
local macro_rules | `(tactic| walk_at "as") => `(tactic| with_reducible assumption)
local macro_rules | `(tactic| walk_at "tr") => `(tactic| first
  | with_reducible assumption
  | with_reducible exact upd_same
  | ((with_reducible refine' SqL.of ?hh); (case hh => walk_at "as"))
  | ((with_reducible refine' SqT.of ?hh); (case hh => walk_at "as"))
  | ((with_reducible refine' Same.stm ?ee ?gg); (case ee => walk_at "as"); (case gg => walk_at "tr"))
  | ((with_reducible refine' Same.sqT ?ee ?gg); (case ee => walk_at "as"); (case gg => walk_at "tr"))
  | ((with_reducible refine' Same.sqL ?ee ?gg); (case ee => walk_at "as"); (case gg => walk_at "tr"))
  | ((with_reducible refine' Same.at ?ee ?gg); (case ee => walk_at "as"); (case gg => walk_at "tr"))
  | ((with_reducible refine' But.stm ?ee ?ff ?gg); (case ee => walk_at "as"); (case ff => walk_at "ne"); (case gg => walk_at "tr"))
  | ((with_reducible refine' But.tup ?ee ?ff ?gg); (case ee => walk_at "as"); (case ff => walk_at "tr1"); (case gg => walk_at "tr"))
  | ((with_reducible refine' But.sqT ?ee ?ff ?gg); (case ee => walk_at "as"); (case ff => walk_at "tr1"); (case gg => walk_at "tr"))
  | ((with_reducible refine' But.tupL ?ee ?ff ?gg); (case ee => walk_at "as"); (case ff => walk_at "tr1"); (case gg => walk_at "tr"))
  | ((with_reducible refine' But.sqTL ?ee ?ff ?gg); (case ee => walk_at "as"); (case ff => walk_at "tr1"); (case gg => walk_at "tr"))
  | ((with_reducible refine' But.sqL ?ee ?ff ?gg); (case ee => walk_at "as"); (case ff => walk_at "ne"); (case gg => walk_at "tr"))
  | ((with_reducible refine' But.at ?ee ?ff ?gg); (case ee => walk_at "as"); (case ff => walk_at "ne"); (case gg => walk_at "tr")))
local macro_rules | `(tactic| walk_at "tr1") => `(tactic| first
  | with_reducible assumption
  | ((with_reducible refine' Same.stm ?ee ?gg); (case ee => walk_at "as"); (case gg => walk_at "tr1"))
  | ((with_reducible refine' Same.at ?ee ?gg); (case ee => walk_at "as"); (case gg => walk_at "tr1"))
  | ((with_reducible refine' But.at ?ee ?ff ?gg); (case ee => walk_at "as"); (case ff => walk_at "ne0"); (case gg => walk_at "tr1"))
  | ((with_reducible refine' But.stm ?ee ?ff ?gg); (case ee => walk_at "as"); (case ff => walk_at "ne0"); (case gg => walk_at "tr1")))
local macro_rules | `(tactic| walk_at "ne0") => `(tactic| first
  | with_reducible assumption
  | (with_reducible apply Ne.symm; with_reducible assumption))
local macro_rules | `(tactic| walk_at "ne") => `(tactic| first
  | with_reducible assumption
  | (with_reducible apply Ne.symm; with_reducible assumption)
  | ((with_reducible refine' ne_of_none ?hh ?nn); (case nn => walk_at "as"); (case hh => walk_at "tr1"))
  | ((with_reducible apply Ne.symm); (with_reducible refine' ne_of_none ?hh ?nn); (case nn => walk_at "as"); (case hh => walk_at "tr1")))
local macro_rules | `(tactic| walk_at "w") => `(tactic| first
  | with_reducible refine w_seq ?_
  | ((with_reducible refine' w_var ?vv ?_); (case vv => exact rfl))
  | with_reducible refine w_c ?_
  | with_reducible refine w_op ?_
  | with_reducible refine w_asg ?_
  | with_reducible refine w_gName ?_
  | with_reducible refine w_ret ?_
  | with_reducible refine w_ifS ?_
  | with_reducible refine w_drop ?_
  | with_reducible refine w_next ?_
  | with_reducible refine w_cons ?_
  | with_reducible refine w_nil ?_
  | with_reducible refine w_call ?_
  | with_reducible refine w_cb ?_
  | with_reducible refine w_rI0 ?_
  | with_reducible refine w_addI ?_
  | with_reducible refine w_eqI ?_
  | with_reducible refine w_neI ?_
  | with_reducible refine w_eqS ?_
  | with_reducible refine w_neS ?_
  | with_reducible refine w_eqB ?_
  | with_reducible refine w_neB ?_
  | with_reducible refine w_test ?_
  | with_reducible refine w_tB ?_
  | with_reducible refine w_bl ?_
  | ((with_reducible refine' w_mulI ?vv ?_); (case vv => walk_at "side"))
  | ((with_reducible refine' w_rI ?vv ?_); (case vv => walk_at "side"))
  | with_reducible refine w_int1 ?_
  | with_reducible refine w_int1b ?_
  | with_reducible refine w_tup ?_
  | with_reducible refine w_lst ?_
  | with_reducible refine w_un ?_
  | with_reducible refine w_rU ?_
  | with_reducible refine w_and ?_
  | with_reducible refine w_or ?_
  | with_reducible refine w_not ?_
  | with_reducible refine w_andV ?_
  | with_reducible refine w_orV ?_
  | with_reducible refine w_notV ?_
  | with_reducible refine w_ifE ?_
  | with_reducible refine w_nT ?_
  | with_reducible refine w_nF ?_
  | with_reducible refine iteT ?_
  | with_reducible refine iteF ?_
  | ((with_reducible refine' w_ixT ?vv ?ww ?_); (case vv => walk_at "tr"); (case ww => walk_at "ix"))
  | ((with_reducible refine' w_ixL ?vv ?ww ?_); (case vv => walk_at "tr"); (case ww => walk_at "ix"))
  | with_reducible refine w_gSub ?_
  | ((with_reducible refine' w_setL ?vv ?ww ?_); (case vv => walk_at "tr"); (case ww => first | rfl | decide | assumption))
  | ((with_reducible refine' w_lenL ?vv ?_); (case vv => walk_at "tr"))
  | ((with_reducible refine' w_lenT ?vv ?_); (case vv => walk_at "tr"))
  | with_reducible refine w_max2 ?_
  | with_reducible refine w_min2 ?_
  | with_reducible refine w_bm ?_
  | with_reducible refine w_bm0 ?_
  | ((with_reducible refine' w_tyL ?vv ?_); (case vv => walk_at "tr"))
  | ((with_reducible refine' w_append ?vv ?ww ?_); (case vv => walk_at "tr"); (case ww => walk_at "size"))
  | ((with_reducible refine' w_size ?vv ?_); (case vv => walk_at "size"))
  | with_reducible refine w_forL ?_
  | with_reducible refine w_forT ?_
  | with_reducible refine w_forR1 ?_
  | with_reducible refine w_forR2 ?_
  | with_reducible refine w_lcL ?_
  | with_reducible refine w_lcT ?_
  | with_reducible refine w_lcR1 ?_
  | with_reducible refine w_yes ?_
  | with_reducible refine w_sl ?_
  | with_reducible refine w_noPart ?_
  | with_reducible refine w_part ?_
  | with_reducible refine w_int ?_
  | ((with_reducible refine' w_slL ?vv ?_); (case vv => walk_at "tr"))
  | ((with_reducible refine' w_seqL ?vv ?ww ?_); (case vv => walk_at "tr"); (case ww => rfl))
  | ((with_reducible refine' w_seqT ?vv ?ww ?_); (case vv => walk_at "tr"); (case ww => rfl))
  | with_reducible refine w_gNil ?_
  | with_reducible refine w_gCons ?_
  | with_reducible refine w_retN ?_
  | with_reducible refine w_break ?_
  | with_reducible refine w_cont ?_)


/-! ### the draws, alike in all laws -/
def spCell (K : PySem.W.Frag) : Sp := fun vs H Q _ => ∃ (a : Addr) (ns : List Int) (k : Int), vs = [.ref a, .int k] ∧ SqL K H a (ns.map V.int) ∧ 0 ≤ k ∧ ∀ n : Int, Q (.int n) H
def spStream : Sp := fun vs H Q _ => ∃ c : Int, vs = [.int c] ∧ ∀ s H', Same H H' → H s = none → Stm H' s → Q (.ref s) H'
def spTake : Sp := fun vs H Q _ => ∃ (s : Addr) (m : Int), vs = [.ref s, .int m] ∧ Stm H s ∧ 0 < m ∧ m < 2 ^ 200 ∧ ∀ d H', 0 ≤ d → d < m → Stm H' s → But s H H' → Q (.int d) H'
theorem len_law_cell {K : PySem.W.Frag} {vs H Q E} (h : spCell K vs H Q E) : vs.length = 2 := by obtain ⟨_, _, _, rfl, _⟩ := h; rfl
theorem len_law_stream {vs H Q E} (h : spStream vs H Q E) : vs.length = 1 := by obtain ⟨_, rfl, _⟩ := h; rfl
theorem len_law_take {vs H Q E} (h : spTake vs H Q E) : vs.length = 2 := by obtain ⟨_, _, rfl, _⟩ := h; rfl
def spLaw (K : PySem.W.Frag) : Sp := fun vs H Q _ => ∃ (a : Addr) (ns : List Int), vs = [.ref a] ∧ SqL K H a (ns.map V.int) ∧ ns.length ≤ 63 ∧ ∀ H', Q (.bl true) H'
theorem len_law {K : PySem.W.Frag} {vs H Q E} (h : spLaw K vs H Q E) : vs.length = 1 := by obtain ⟨_, _, rfl, _⟩ := h; rfl
theorem law_in {K : PySem.W.Frag} {H : Hp} {a : Addr} {ns : List Int} (hl : ns.length ≤ 63) (_ : Only H) (hS : SqL K H a (ns.map V.int)) : spLaw K [.ref a] H (fun v _ => v = .bl true) fun _ _ _ => False :=
  ⟨a, ns, rfl, hS, hl, fun _ => rfl⟩
section
variable {P : Program} {w : World} {K : PySem.W.Frag} {mg : Str → Option Value}
theorem ok_law_cell (c : Facts K mg) : Fn P w K mg "_law_cell" 1 ["script", "k"] (spCell K) := by
  obtain ⟨fd, F⟩ := c.d_law_cell
  refine Fn.mk' F c.g_law_cell sc_law_cell (fun vs H Q E h => ?_) (fun _ _ _ _ _ _ us hl => match us, hl with | [_, _], _ => rfl) (fun base cdv A outer s H vs Q E hr h => ?_)
  · exact len_law_cell h
  · have nd := sc_law_cell.nd
    refine ⟨_, (pss_cons (ps_if (pt_cmpR op_lt (pv 1) (pe_callB call_lenA (by rfl) c.f_len boot_len (pa_cons (pv 0) pa_nil)) (nomark _)) (pss_one (ps_ret (pe_ix ix_seq (pv 0) (pv 1) (fun _ _ => rfl)))) pss_nil)
      (pss_one (ps_ret (pe_op op_addA (pe_op op_mulA pe_int (pv 1)) pe_int)))), ?_⟩
    try dsimp only [cxOf, Cx.nox, Cx.wish]
    obtain ⟨a, ns, k, rfl, hS, h0, q⟩ := h
    repeat walk_at "w"
    refine ite2 (fun hk => ?_) (fun hk => ?_)
    · rw [decide_eq_true_eq] at hk
      repeat walk_at "w"
      obtain ⟨v, e1, e2, _⟩ := atI_some h0 hk
      obtain ⟨n, _, rfl⟩ := List.mem_map.mp e2
      exact w_ixL hS e1 (q n)
    · repeat walk_at "w"
      exact q _
theorem ok_law_stream (c : Facts K mg) : Fn P w K mg "_law_stream" 1 ["cell"] spStream := by
  obtain ⟨fd, F⟩ := c.d_law_stream
  refine Fn.mk' F c.g_law_stream sc_law_stream (fun vs H Q E h => ?_) (fun _ _ _ _ _ _ us hl => match us, hl with | [_], _ => rfl) (fun base cdv A outer s H vs Q E hr h => ?_)
  · exact len_law_stream h
  · have nd := sc_law_stream.nd
    refine ⟨_, (pss_one (ps_ret (pe_lst (pa_cons (pe_op op_mulA (pv 0) (pe_callTy call_int1A (by rfl) c.f_int boot_int (pa_cons (pe_cmpR op_ge (pv 0) (pe_op op_pow pe_int pe_int) (nomark _)) pa_nil))) (pa_cons (pe_op op_mod (pv 0) pe_int) (pa_cons pe_int pa_nil)))))), ?_⟩
    try dsimp only [cxOf, Cx.nox, Cx.wish]
    obtain ⟨n, rfl, q⟩ := h
    repeat walk_at "w"
    exact w_new fun p H1 n1 s1 f1 => q _ _ s1 n1 ⟨_, _, _, f1⟩
theorem ok_law_take (c : Facts K mg) : Fn P w K mg "_law_take" 1 ["stream", "many"] spTake := by
  obtain ⟨fd, F⟩ := c.d_law_take
  refine Fn.mk' F c.g_law_take sc_law_take (fun vs H Q E h => ?_) (fun _ _ _ _ _ _ us hl => match us, hl with | [_, _], _ => rfl) (fun base cdv A outer s H vs Q E hr h => ?_)
  · exact len_law_take h
  · have nd := sc_law_take.nd
    refine ⟨_, (pss_cons (ps_if (pt_cmpR op_gt (pe_ix ix_seq (pv 0) pe_int (fun _ _ => rfl)) pe_int (nomark _)) (pss_cons (ps_set (i := 2) nd rfl (Or.inl rfl) (pe_op op_mod (pe_ix ix_seq (pv 0) pe_int (fun _ _ => rfl)) (pv 1)))
      (pss_cons (ps_asg (pe_op op_fdivW (pe_ix ix_seq (pv 0) pe_int (fun _ _ => rfl)) (pv 1)) (pg_sub (pv 0) pe_int set_list))
      (pss_one (ps_ret (pv 2))))) pss_nil)
      (pss_cons (ps_asg (pe_op op_addA (pe_ix ix_seq (pv 0) pe_int (fun _ _ => rfl)) pe_int) (pg_sub (pv 0) pe_int set_list))
      (pss_cons (ps_set (i := 3) nd rfl (Or.inl rfl) (pe_op op_mod (pe_op op_addA (pe_op op_mulA (pe_op op_addA (pe_ix ix_seq (pv 0) pe_int (fun _ _ => rfl)) (pe_op op_mulA pe_int (pe_ix ix_seq (pv 0) pe_int (fun _ _ => rfl)))) pe_int) pe_int) pe_int))
      (pss_cons (ps_set (i := 3) nd rfl (Or.inl rfl) (pe_op op_mod (pe_op op_mulA (pv 3) (pv 3)) pe_int))
      (pss_one (ps_ret (pe_op op_mod (pe_op op_fdivW (pe_op op_mod (pe_op op_addA (pe_op op_mulA (pv 3) (pv 3)) (pe_op op_mulA pe_int (pe_ix ix_seq (pv 0) pe_int (fun _ _ => rfl)))) pe_int) pe_int) (pv 1)))))))), ?_⟩
    try dsimp only [cxOf, Cx.nox, Cx.wish]
    obtain ⟨s, m, rfl, ⟨a, b, d, hs⟩, hm, hl, q⟩ := h
    repeat walk_at "w"
    refine ite2 (fun hk => ?_) (fun hk => ?_)
    · repeat walk_at "w"
      refine w_chg fun H1 e1 f1 => ?_
      repeat walk_at "w"
      exact q _ _ (Int.emod_nonneg _ (by omega)) (Int.emod_lt_of_pos _ hm) ⟨_, _, _, f1⟩ e1
    · repeat walk_at "w"
      refine w_chg fun H1 e1 f1 => ?_
      repeat walk_at "w"
      exact q _ _ (Int.emod_nonneg _ (by omega)) (Int.emod_lt_of_pos _ hm) ⟨_, _, _, f1⟩ e1
end


end J
namespace J
open PySem PySem.Spec PyProof.Rows L2
local macro_rules | `(tactic| walk_at "ix") => `(tactic| first | exact at0 | exact at1 | exact at2 | assumption)
local macro_rules | `(tactic| walk_at "size") => `(tactic| first
  | assumption
  | (show _ < sizeLine; rw [sizeLine_eq]; simp only [List.length_cons, List.length_nil, List.length_append, List.length_map]; omega)
  | (show _ ≤ sizeLine; rw [sizeLine_eq]; simp only [List.length_cons, List.length_nil, List.length_append, List.length_map]; omega))
local macro_rules | `(tactic| walk_at "side") => `(tactic| first
  | assumption
  | ((with_reducible refine cdw ?_ ?_) <;> omega)
  | omega
  | (exact ⟨by omega, by omega⟩)
  | (exact Or.inl ⟨by omega, by omega⟩)
  | (exact Or.inr ⟨by omega, by omega⟩)
  | decide
  | (simp only [List.length_cons, List.length_nil, List.length_append, List.length_map]; omega)
  | (show _ ≤ _; decide))
local macro_rules | `(tactic| walk_at "as") => `(tactic| with_reducible assumption)
local macro_rules | `(tactic| walk_at "tr") => `(tactic| first
  | with_reducible assumption
  | with_reducible exact upd_same
  | ((with_reducible refine' SqL.of ?hh); (case hh => walk_at "as"))
  | ((with_reducible refine' SqT.of ?hh); (case hh => walk_at "as"))
  | ((with_reducible refine' Same.stm ?ee ?gg); (case ee => walk_at "as"); (case gg => walk_at "tr"))
  | ((with_reducible refine' Same.sqT ?ee ?gg); (case ee => walk_at "as"); (case gg => walk_at "tr"))
  | ((with_reducible refine' Same.sqL ?ee ?gg); (case ee => walk_at "as"); (case gg => walk_at "tr"))
  | ((with_reducible refine' Same.at ?ee ?gg); (case ee => walk_at "as"); (case gg => walk_at "tr"))
  | ((with_reducible refine' But.stm ?ee ?ff ?gg); (case ee => walk_at "as"); (case ff => walk_at "ne"); (case gg => walk_at "tr"))
  | ((with_reducible refine' But.tup ?ee ?ff ?gg); (case ee => walk_at "as"); (case ff => walk_at "tr1"); (case gg => walk_at "tr"))
  | ((with_reducible refine' But.sqT ?ee ?ff ?gg); (case ee => walk_at "as"); (case ff => walk_at "tr1"); (case gg => walk_at "tr"))
  | ((with_reducible refine' But.tupL ?ee ?ff ?gg); (case ee => walk_at "as"); (case ff => walk_at "tr1"); (case gg => walk_at "tr"))
  | ((with_reducible refine' But.sqTL ?ee ?ff ?gg); (case ee => walk_at "as"); (case ff => walk_at "tr1"); (case gg => walk_at "tr"))
  | ((with_reducible refine' But.sqL ?ee ?ff ?gg); (case ee => walk_at "as"); (case ff => walk_at "ne"); (case gg => walk_at "tr"))
  | ((with_reducible refine' But.at ?ee ?ff ?gg); (case ee => walk_at "as"); (case ff => walk_at "ne"); (case gg => walk_at "tr")))
local macro_rules | `(tactic| walk_at "tr1") => `(tactic| first
  | with_reducible assumption
  | ((with_reducible refine' Same.stm ?ee ?gg); (case ee => walk_at "as"); (case gg => walk_at "tr1"))
  | ((with_reducible refine' Same.at ?ee ?gg); (case ee => walk_at "as"); (case gg => walk_at "tr1"))
  | ((with_reducible refine' But.at ?ee ?ff ?gg); (case ee => walk_at "as"); (case ff => walk_at "ne0"); (case gg => walk_at "tr1"))
  | ((with_reducible refine' But.stm ?ee ?ff ?gg); (case ee => walk_at "as"); (case ff => walk_at "ne0"); (case gg => walk_at "tr1")))
local macro_rules | `(tactic| walk_at "ne0") => `(tactic| first
  | with_reducible assumption
  | (with_reducible apply Ne.symm; with_reducible assumption))
local macro_rules | `(tactic| walk_at "ne") => `(tactic| first
  | with_reducible assumption
  | (with_reducible apply Ne.symm; with_reducible assumption)
  | ((with_reducible refine' ne_of_none ?hh ?nn); (case nn => walk_at "as"); (case hh => walk_at "tr1"))
  | ((with_reducible apply Ne.symm); (with_reducible refine' ne_of_none ?hh ?nn); (case nn => walk_at "as"); (case hh => walk_at "tr1")))
local macro_rules | `(tactic| walk_at "w") => `(tactic| first
  | with_reducible refine w_seq ?_
  | ((with_reducible refine' w_var ?vv ?_); (case vv => exact rfl))
  | with_reducible refine w_c ?_
  | with_reducible refine w_op ?_
  | with_reducible refine w_asg ?_
  | with_reducible refine w_gName ?_
  | with_reducible refine w_ret ?_
  | with_reducible refine w_ifS ?_
  | with_reducible refine w_drop ?_
  | with_reducible refine w_next ?_
  | with_reducible refine w_cons ?_
  | with_reducible refine w_nil ?_
  | with_reducible refine w_call ?_
  | with_reducible refine w_cb ?_
  | with_reducible refine w_rI0 ?_
  | with_reducible refine w_addI ?_
  | with_reducible refine w_eqI ?_
  | with_reducible refine w_neI ?_
  | with_reducible refine w_eqS ?_
  | with_reducible refine w_neS ?_
  | with_reducible refine w_eqB ?_
  | with_reducible refine w_neB ?_
  | with_reducible refine w_test ?_
  | with_reducible refine w_tB ?_
  | with_reducible refine w_bl ?_
  | ((with_reducible refine' w_mulI ?vv ?_); (case vv => walk_at "side"))
  | ((with_reducible refine' w_rI ?vv ?_); (case vv => walk_at "side"))
  | with_reducible refine w_int1 ?_
  | with_reducible refine w_int1b ?_
  | with_reducible refine w_tup ?_
  | with_reducible refine w_lst ?_
  | with_reducible refine w_un ?_
  | with_reducible refine w_rU ?_
  | with_reducible refine w_and ?_
  | with_reducible refine w_or ?_
  | with_reducible refine w_not ?_
  | with_reducible refine w_andV ?_
  | with_reducible refine w_orV ?_
  | with_reducible refine w_notV ?_
  | with_reducible refine w_ifE ?_
  | with_reducible refine w_nT ?_
  | with_reducible refine w_nF ?_
  | with_reducible refine iteT ?_
  | with_reducible refine iteF ?_
  | ((with_reducible refine' w_ixT ?vv ?ww ?_); (case vv => walk_at "tr"); (case ww => walk_at "ix"))
  | ((with_reducible refine' w_ixL ?vv ?ww ?_); (case vv => walk_at "tr"); (case ww => walk_at "ix"))
  | with_reducible refine w_gSub ?_
  | ((with_reducible refine' w_setL ?vv ?ww ?_); (case vv => walk_at "tr"); (case ww => first | rfl | decide | assumption))
  | ((with_reducible refine' w_lenL ?vv ?_); (case vv => walk_at "tr"))
  | ((with_reducible refine' w_lenT ?vv ?_); (case vv => walk_at "tr"))
  | with_reducible refine w_max2 ?_
  | with_reducible refine w_min2 ?_
  | with_reducible refine w_bm ?_
  | with_reducible refine w_bm0 ?_
  | ((with_reducible refine' w_tyL ?vv ?_); (case vv => walk_at "tr"))
  | ((with_reducible refine' w_append ?vv ?ww ?_); (case vv => walk_at "tr"); (case ww => walk_at "size"))
  | ((with_reducible refine' w_size ?vv ?_); (case vv => walk_at "size"))
  | with_reducible refine w_forL ?_
  | with_reducible refine w_forT ?_
  | with_reducible refine w_forR1 ?_
  | with_reducible refine w_forR2 ?_
  | with_reducible refine w_lcL ?_
  | with_reducible refine w_lcT ?_
  | with_reducible refine w_lcR1 ?_
  | with_reducible refine w_yes ?_
  | with_reducible refine w_sl ?_
  | with_reducible refine w_noPart ?_
  | with_reducible refine w_part ?_
  | with_reducible refine w_int ?_
  | ((with_reducible refine' w_slL ?vv ?_); (case vv => walk_at "tr"))
  | ((with_reducible refine' w_seqL ?vv ?ww ?_); (case vv => walk_at "tr"); (case ww => rfl))
  | ((with_reducible refine' w_seqT ?vv ?ww ?_); (case vv => walk_at "tr"); (case ww => rfl))
  | with_reducible refine w_gNil ?_
  | with_reducible refine w_gCons ?_
  | with_reducible refine w_retN ?_
  | with_reducible refine w_break ?_
  | with_reducible refine w_cont ?_)


/-! ### words: what the operations are -/
def tbits (op : Str) (x y : Int) : Int := if op = "&" then Builtin.bitAnd x y else if op = "|" then Builtin.bitOr x y else Builtin.bitXor x y
def reck (op : Str) (x y w : Int) : Int :=
  if op = "+" then (x + y) % 2 ^ w.toNat else if op = "-" then (x - y) % 2 ^ w.toNat
  else if op = "<<" then (x * 2 ^ (y % w).toNat) % 2 ^ w.toNat else if op = ">>" then x / 2 ^ (y % w).toNat
  else if op = "<" then (if x < y then 1 else 0) else if op = "=" then (if x = y then 1 else 0) else tbits op x y
def truthI (x : Int) : Int := if x = 0 then 0 else 1
def topI (x w : Int) : Int := Builtin.bitAnd (x / 2 ^ (w - 1).toNat) 1
def Word (w x : Int) : Prop := 0 ≤ x ∧ x < 2 ^ w.toNat
theorem two_le {w : Int} (h4 : 1 ≤ w) (h24 : w ≤ 24) : (2 : Int) ≤ 2 ^ w.toNat ∧ (2 : Int) ^ w.toNat ≤ 16777216 := by
  have e : ∃ n : Nat, w = n ∧ 1 ≤ n ∧ n ≤ 24 := ⟨w.toNat, by omega, by omega, by omega⟩
  obtain ⟨n, rfl, h1, h2⟩ := e
  rw [Int.toNat_natCast]
  have a : 2 ^ 1 ≤ 2 ^ n := Nat.pow_le_pow_right (by decide) h1
  have b : 2 ^ n ≤ 2 ^ 24 := Nat.pow_le_pow_right (by decide) h2
  have c : ((2 ^ n : Nat) : Int) = (2 : Int) ^ n := by norm_cast
  omega
theorem two16 {w : Int} (h4 : 4 ≤ w) : (16 : Int) ≤ 2 ^ w.toNat := by
  have e : ∃ n : Nat, w = n ∧ 4 ≤ n := ⟨w.toNat, by omega, by omega⟩
  obtain ⟨n, rfl, h1⟩ := e
  rw [Int.toNat_natCast]
  have a : 2 ^ 4 ≤ 2 ^ n := Nat.pow_le_pow_right (by decide) h1
  have c : ((2 ^ n : Nat) : Int) = (2 : Int) ^ n := by norm_cast
  omega
def spTruth : Sp := fun vs H Q _ => ∃ x : Int, vs = [.int x] ∧ Q (.int (truthI x)) H
def spTop : Sp := fun vs H Q _ => ∃ x w : Int, vs = [.int x, .int w] ∧ 1 ≤ w ∧ Q (.int (topI x w)) H
def spTold : Sp := fun vs H Q _ => ∃ (op : Str) (x y : Int), vs = [.str op, .int x, .int y] ∧ Q (.int (tbits op x y)) H
def spReck : Sp := fun vs H Q _ => ∃ (op : Str) (x y w : Int), vs = [.str op, .int x, .int y, .int w] ∧ 1 ≤ w ∧ w ≤ 24 ∧ Word w x ∧ Q (.int (reck op x y w)) H
theorem len_truth_of {vs H Q E} (h : spTruth vs H Q E) : vs.length = 1 := by obtain ⟨_, rfl, _⟩ := h; rfl
theorem len_top_of {vs H Q E} (h : spTop vs H Q E) : vs.length = 2 := by obtain ⟨_, _, rfl, _⟩ := h; rfl
theorem len_told_by_bits {vs H Q E} (h : spTold vs H Q E) : vs.length = 3 := by obtain ⟨_, _, _, rfl, _⟩ := h; rfl
theorem len_reckoned {vs H Q E} (h : spReck vs H Q E) : vs.length = 4 := by obtain ⟨_, _, _, _, rfl, _⟩ := h; rfl
section
variable {P : Program} {w : World} {K : PySem.W.Frag} {mg : Str → Option Value}
theorem ok_truth_of (c : Facts K mg) : Fn P w K mg "truth_of" 1 ["word"] spTruth := by
  obtain ⟨fd, F⟩ := c.d_truth_of
  refine Fn.mk' F c.g_truth_of sc_truth_of (fun vs H Q E h => ?_) (fun _ _ _ _ _ _ us hl => match us, hl with | [_], _ => rfl) (fun base cdv A outer s H vs Q E hr h => ?_)
  · exact len_truth_of h
  · have nd := sc_truth_of.nd
    refine ⟨_, (pss_one (ps_ret (pe_callTy call_int1A (by rfl) c.f_int boot_int (pa_cons (pe_cmpR (op_neA hr.units) (pv 0) pe_int (nomark _)) pa_nil)))), ?_⟩
    try dsimp only [cxOf, Cx.nox, Cx.wish]
    obtain ⟨x, rfl, q⟩ := h
    repeat walk_at "w"
    have e : (if (!decide (x = 0)) = true then (1 : Int) else 0) = truthI x := by
      unfold truthI; by_cases h : x = 0 <;> simp [h]
    rw [e]; exact q
theorem ok_top_of (c : Facts K mg) : Fn P w K mg "top_of" 1 ["word", "width"] spTop := by
  obtain ⟨fd, F⟩ := c.d_top_of
  refine Fn.mk' F c.g_top_of sc_top_of (fun vs H Q E h => ?_) (fun _ _ _ _ _ _ us hl => match us, hl with | [_, _], _ => rfl) (fun base cdv A outer s H vs Q E hr h => ?_)
  · exact len_top_of h
  · have nd := sc_top_of.nd
    refine ⟨_, (pss_one (ps_ret (pe_op op_and (pe_op op_shr (pv 0) (pe_op op_sub (pv 1) pe_int)) pe_int))), ?_⟩
    try dsimp only [cxOf, Cx.nox, Cx.wish]
    obtain ⟨x, w, rfl, hw, q⟩ := h
    repeat walk_at "w"
    exact q
theorem ok_told_by_bits (c : Facts K mg) : Fn P w K mg "told_by_bits" 1 ["op", "one", "other"] spTold := by
  obtain ⟨fd, F⟩ := c.d_told_by_bits
  refine Fn.mk' F c.g_told_by_bits sc_told_by_bits (fun vs H Q E h => ?_) (fun _ _ _ _ _ _ us hl => match us, hl with | [_, _, _], _ => rfl) (fun base cdv A outer s H vs Q E hr h => ?_)
  · exact len_told_by_bits h
  · have nd := sc_told_by_bits.nd
    refine ⟨_, (pss_cons (ps_if (pt_cmpR (op_eqA hr.units) (pv 0) pe_str (nomark _)) (pss_one (ps_ret (pe_op op_and (pv 1) (pv 2)))) pss_nil)
      (pss_cons (ps_if (pt_cmpR (op_eqA hr.units) (pv 0) pe_str (nomark _)) (pss_one (ps_ret (pe_op op_or (pv 1) (pv 2)))) pss_nil)
      (pss_one (ps_ret (pe_op op_xor (pv 1) (pv 2)))))), ?_⟩
    try dsimp only [cxOf, Cx.nox, Cx.wish]
    obtain ⟨op, x, y, rfl, q⟩ := h
    unfold tbits at q
    repeat walk_at "w"
    refine ite2 (fun hk => ?_) (fun hk => ?_)
    · repeat walk_at "w"
      simp only [decide_eq_true_eq] at hk
      rw [if_pos hk] at q; exact q
    simp only [decide_eq_true_eq] at hk
    rw [if_neg hk] at q
    repeat walk_at "w"
    refine ite2 (fun hk => ?_) (fun hk => ?_)
    · repeat walk_at "w"
      simp only [decide_eq_true_eq] at hk
      rw [if_pos hk] at q; exact q
    simp only [decide_eq_true_eq] at hk
    rw [if_neg hk] at q
    repeat walk_at "w"
    exact q
theorem ok_reckoned (c : Facts K mg) (G_told_by_bits : Fn P w K mg "told_by_bits" 1 ["op", "one", "other"] spTold) : Fn P w K mg "reckoned" 2 ["op", "one", "other", "width"] spReck := by
  obtain ⟨fd, F⟩ := c.d_reckoned
  refine Fn.mk' F c.g_reckoned sc_reckoned (fun vs H Q E h => ?_) (fun _ _ _ _ _ _ us hl => match us, hl with | [_, _, _, _], _ => rfl) (fun base cdv A outer s H vs Q E hr h => ?_)
  · exact len_reckoned h
  · have nd := sc_reckoned.nd
    have hr_told_by_bits : Room 1 _ := hr.mono (by decide)
    refine ⟨_, (pss_cons (ps_set (i := 4) nd rfl (Or.inl rfl) (pe_op op_shl pe_int (pv 3)))
      (pss_cons (ps_if (pt_cmpR (op_eqA hr.units) (pv 0) pe_str (nomark _)) (pss_one (ps_ret (pe_op op_mod (pe_op op_addA (pv 1) (pv 2)) (pv 4)))) pss_nil)
      (pss_cons (ps_if (pt_cmpR (op_eqA hr.units) (pv 0) pe_str (nomark _)) (pss_one (ps_ret (pe_op op_mod (pe_op op_sub (pv 1) (pv 2)) (pv 4)))) pss_nil)
      (pss_cons (ps_if (pt_cmpR (op_eqA hr.units) (pv 0) pe_str (nomark _)) (pss_one (ps_ret (pe_op op_mod (pe_op op_shl (pv 1) (pe_op op_mod (pv 2) (pv 3))) (pv 4)))) pss_nil)
      (pss_cons (ps_if (pt_cmpR (op_eqA hr.units) (pv 0) pe_str (nomark _)) (pss_one (ps_ret (pe_op op_shr (pv 1) (pe_op op_mod (pv 2) (pv 3))))) pss_nil)
      (pss_cons (ps_if (pt_cmpR (op_eqA hr.units) (pv 0) pe_str (nomark _)) (pss_one (ps_ret (pe_callTy call_int1A (by rfl) c.f_int boot_int (pa_cons (pe_cmpR op_lt (pv 1) (pv 2) (nomark _)) pa_nil)))) pss_nil)
      (pss_cons (ps_if (pt_cmpR (op_eqA hr.units) (pv 0) pe_str (nomark _)) (pss_one (ps_ret (pe_callTy call_int1A (by rfl) c.f_int boot_int (pa_cons (pe_cmpR (op_eqA hr.units) (pv 1) (pv 2) (nomark _)) pa_nil)))) pss_nil)
      (pss_one (ps_ret (pe_fn G_told_by_bits hr_told_by_bits (by rfl) (pa_cons (pv 0) (pa_cons (pv 1) (pa_cons (pv 2) pa_nil))))))))))))), ?_⟩
    try dsimp only [cxOf, Cx.nox, Cx.wish]
    obtain ⟨op, x, y, w, rfl, h1, h24, ⟨hx0, hx1⟩, q⟩ := h
    obtain ⟨t1, t2⟩ := two_le h1 h24
    unfold reck at q
    have ew : ((1 : Int) * 2 ^ w.toNat) = 2 ^ w.toNat := Int.one_mul _
    have hyw : 0 ≤ y % w ∧ y % w < w := ⟨Int.emod_nonneg _ (by omega), Int.emod_lt_of_pos _ (by omega)⟩
    repeat walk_at "w"
    rw [ew]
    refine ite2 (fun hk => ?_) (fun hk => ?_) <;> simp only [decide_eq_true_eq] at hk
    · repeat walk_at "w"
      rw [if_pos hk] at q; exact q
    rw [if_neg hk] at q
    repeat walk_at "w"
    refine ite2 (fun hk => ?_) (fun hk => ?_) <;> simp only [decide_eq_true_eq] at hk
    · repeat walk_at "w"
      rw [if_pos hk] at q; exact q
    rw [if_neg hk] at q
    repeat walk_at "w"
    refine ite2 (fun hk => ?_) (fun hk => ?_) <;> simp only [decide_eq_true_eq] at hk
    · repeat walk_at "w"
      rw [if_pos hk] at q; exact q
    rw [if_neg hk] at q
    repeat walk_at "w"
    refine ite2 (fun hk => ?_) (fun hk => ?_) <;> simp only [decide_eq_true_eq] at hk
    · repeat walk_at "w"
      rw [if_pos hk] at q; exact q
    rw [if_neg hk] at q
    repeat walk_at "w"
    refine ite2 (fun hk => ?_) (fun hk => ?_) <;> simp only [decide_eq_true_eq] at hk
    · repeat walk_at "w"
      rw [if_pos hk] at q
      simp only [decide_eq_true_eq]; exact q
    rw [if_neg hk] at q
    repeat walk_at "w"
    refine ite2 (fun hk => ?_) (fun hk => ?_) <;> simp only [decide_eq_true_eq] at hk
    · repeat walk_at "w"
      rw [if_pos hk] at q
      simp only [decide_eq_true_eq]; exact q
    rw [if_neg hk] at q
    repeat walk_at "w"
    exact ⟨op, x, y, rfl, q⟩
end

end J
namespace J
open PySem PySem.Spec PyProof.Rows L2
local macro_rules | `(tactic| walk_at "ix") => `(tactic| first | exact at0 | exact at1 | exact at2 | assumption)
local macro_rules | `(tactic| walk_at "size") => `(tactic| first
  | assumption
  | (show _ < sizeLine; rw [sizeLine_eq]; simp only [List.length_cons, List.length_nil, List.length_append, List.length_map]; omega)
  | (show _ ≤ sizeLine; rw [sizeLine_eq]; simp only [List.length_cons, List.length_nil, List.length_append, List.length_map]; omega))
local macro_rules | `(tactic| walk_at "side") => `(tactic| first
  | assumption
  | ((with_reducible refine cdw ?_ ?_) <;> omega)
  | omega
  | (exact ⟨by omega, by omega⟩)
  | (exact Or.inl ⟨by omega, by omega⟩)
  | (exact Or.inr ⟨by omega, by omega⟩)
  | decide
  | (simp only [List.length_cons, List.length_nil, List.length_append, List.length_map]; omega)
  | (show _ ≤ _; decide))
local macro_rules | `(tactic| walk_at "as") => `(tactic| with_reducible assumption)
local macro_rules | `(tactic| walk_at "tr") => `(tactic| first
  | with_reducible assumption
  | with_reducible exact upd_same
  | ((with_reducible refine' SqL.of ?hh); (case hh => walk_at "as"))
  | ((with_reducible refine' SqT.of ?hh); (case hh => walk_at "as"))
  | ((with_reducible refine' Same.stm ?ee ?gg); (case ee => walk_at "as"); (case gg => walk_at "tr"))
  | ((with_reducible refine' Same.sqT ?ee ?gg); (case ee => walk_at "as"); (case gg => walk_at "tr"))
  | ((with_reducible refine' Same.sqL ?ee ?gg); (case ee => walk_at "as"); (case gg => walk_at "tr"))
  | ((with_reducible refine' Same.at ?ee ?gg); (case ee => walk_at "as"); (case gg => walk_at "tr"))
  | ((with_reducible refine' But.stm ?ee ?ff ?gg); (case ee => walk_at "as"); (case ff => walk_at "ne"); (case gg => walk_at "tr"))
  | ((with_reducible refine' But.tup ?ee ?ff ?gg); (case ee => walk_at "as"); (case ff => walk_at "tr1"); (case gg => walk_at "tr"))
  | ((with_reducible refine' But.sqT ?ee ?ff ?gg); (case ee => walk_at "as"); (case ff => walk_at "tr1"); (case gg => walk_at "tr"))
  | ((with_reducible refine' But.tupL ?ee ?ff ?gg); (case ee => walk_at "as"); (case ff => walk_at "tr1"); (case gg => walk_at "tr"))
  | ((with_reducible refine' But.sqTL ?ee ?ff ?gg); (case ee => walk_at "as"); (case ff => walk_at "tr1"); (case gg => walk_at "tr"))
  | ((with_reducible refine' But.sqL ?ee ?ff ?gg); (case ee => walk_at "as"); (case ff => walk_at "ne"); (case gg => walk_at "tr"))
  | ((with_reducible refine' But.at ?ee ?ff ?gg); (case ee => walk_at "as"); (case ff => walk_at "ne"); (case gg => walk_at "tr")))
local macro_rules | `(tactic| walk_at "tr1") => `(tactic| first
  | with_reducible assumption
  | ((with_reducible refine' Same.stm ?ee ?gg); (case ee => walk_at "as"); (case gg => walk_at "tr1"))
  | ((with_reducible refine' Same.at ?ee ?gg); (case ee => walk_at "as"); (case gg => walk_at "tr1"))
  | ((with_reducible refine' But.at ?ee ?ff ?gg); (case ee => walk_at "as"); (case ff => walk_at "ne0"); (case gg => walk_at "tr1"))
  | ((with_reducible refine' But.stm ?ee ?ff ?gg); (case ee => walk_at "as"); (case ff => walk_at "ne0"); (case gg => walk_at "tr1")))
local macro_rules | `(tactic| walk_at "ne0") => `(tactic| first
  | with_reducible assumption
  | (with_reducible apply Ne.symm; with_reducible assumption))
local macro_rules | `(tactic| walk_at "ne") => `(tactic| first
  | with_reducible assumption
  | (with_reducible apply Ne.symm; with_reducible assumption)
  | ((with_reducible refine' ne_of_none ?hh ?nn); (case nn => walk_at "as"); (case hh => walk_at "tr1"))
  | ((with_reducible apply Ne.symm); (with_reducible refine' ne_of_none ?hh ?nn); (case nn => walk_at "as"); (case hh => walk_at "tr1")))
local macro_rules | `(tactic| walk_at "w") => `(tactic| first
  | with_reducible refine w_seq ?_
  | ((with_reducible refine' w_var ?vv ?_); (case vv => exact rfl))
  | with_reducible refine w_c ?_
  | with_reducible refine w_op ?_
  | with_reducible refine w_asg ?_
  | with_reducible refine w_gName ?_
  | with_reducible refine w_ret ?_
  | with_reducible refine w_ifS ?_
  | with_reducible refine w_drop ?_
  | with_reducible refine w_next ?_
  | with_reducible refine w_cons ?_
  | with_reducible refine w_nil ?_
  | with_reducible refine w_call ?_
  | with_reducible refine w_cb ?_
  | with_reducible refine w_rI0 ?_
  | with_reducible refine w_addI ?_
  | with_reducible refine w_eqI ?_
  | with_reducible refine w_neI ?_
  | with_reducible refine w_eqS ?_
  | with_reducible refine w_neS ?_
  | with_reducible refine w_eqB ?_
  | with_reducible refine w_neB ?_
  | with_reducible refine w_test ?_
  | with_reducible refine w_tB ?_
  | with_reducible refine w_bl ?_
  | ((with_reducible refine' w_mulI ?vv ?_); (case vv => walk_at "side"))
  | ((with_reducible refine' w_rI ?vv ?_); (case vv => walk_at "side"))
  | with_reducible refine w_int1 ?_
  | with_reducible refine w_int1b ?_
  | with_reducible refine w_tup ?_
  | with_reducible refine w_lst ?_
  | with_reducible refine w_un ?_
  | with_reducible refine w_rU ?_
  | with_reducible refine w_and ?_
  | with_reducible refine w_or ?_
  | with_reducible refine w_not ?_
  | with_reducible refine w_andV ?_
  | with_reducible refine w_orV ?_
  | with_reducible refine w_notV ?_
  | with_reducible refine w_ifE ?_
  | with_reducible refine w_nT ?_
  | with_reducible refine w_nF ?_
  | with_reducible refine iteT ?_
  | with_reducible refine iteF ?_
  | ((with_reducible refine' w_ixT ?vv ?ww ?_); (case vv => walk_at "tr"); (case ww => walk_at "ix"))
  | ((with_reducible refine' w_ixL ?vv ?ww ?_); (case vv => walk_at "tr"); (case ww => walk_at "ix"))
  | with_reducible refine w_gSub ?_
  | ((with_reducible refine' w_setL ?vv ?ww ?_); (case vv => walk_at "tr"); (case ww => first | rfl | decide | assumption))
  | ((with_reducible refine' w_lenL ?vv ?_); (case vv => walk_at "tr"))
  | ((with_reducible refine' w_lenT ?vv ?_); (case vv => walk_at "tr"))
  | with_reducible refine w_max2 ?_
  | with_reducible refine w_min2 ?_
  | with_reducible refine w_bm ?_
  | with_reducible refine w_bm0 ?_
  | ((with_reducible refine' w_tyL ?vv ?_); (case vv => walk_at "tr"))
  | ((with_reducible refine' w_append ?vv ?ww ?_); (case vv => walk_at "tr"); (case ww => walk_at "size"))
  | ((with_reducible refine' w_size ?vv ?_); (case vv => walk_at "size"))
  | with_reducible refine w_forL ?_
  | with_reducible refine w_forT ?_
  | with_reducible refine w_forR1 ?_
  | with_reducible refine w_forR2 ?_
  | with_reducible refine w_lcL ?_
  | with_reducible refine w_lcT ?_
  | with_reducible refine w_lcR1 ?_
  | with_reducible refine w_yes ?_
  | with_reducible refine w_sl ?_
  | with_reducible refine w_noPart ?_
  | with_reducible refine w_part ?_
  | with_reducible refine w_int ?_
  | ((with_reducible refine' w_slL ?vv ?_); (case vv => walk_at "tr"))
  | ((with_reducible refine' w_seqL ?vv ?ww ?_); (case vv => walk_at "tr"); (case ww => rfl))
  | ((with_reducible refine' w_seqT ?vv ?ww ?_); (case vv => walk_at "tr"); (case ww => rfl))
  | with_reducible refine w_gNil ?_
  | with_reducible refine w_gCons ?_
  | with_reducible refine w_retN ?_
  | with_reducible refine w_break ?_
  | with_reducible refine w_cont ?_)


/-! ### words: the mathematics -/
theorem word_nat {w x : Int} (h1 : 1 ≤ w) (hx : Word w x) : ∃ n a : Nat, w = n ∧ x = a ∧ 1 ≤ n ∧ a < 2 ^ n := by
  refine ⟨w.toNat, x.toNat, by omega, by have := hx.1; omega, by omega, ?_⟩
  have h := hx.2
  have e : (2 : Int) ^ w.toNat = ((2 ^ w.toNat : Nat) : Int) := by norm_cast
  have := hx.1
  omega
theorem word_of {n a : Nat} (h : a < 2 ^ n) : Word (n : Int) (a : Int) := by
  refine ⟨by omega, ?_⟩
  rw [Int.toNat_natCast]
  exact_mod_cast h
theorem pow_cast (n : Nat) : ((2 : Int) ^ n) = ((2 ^ n : Nat) : Int) := by norm_cast
theorem reck_add (n a b : Nat) : reck "+" a b n = (((a + b) % 2 ^ n : Nat) : Int) := by
  show ((a : Int) + b) % 2 ^ (n : Int).toNat = _
  rw [Int.toNat_natCast, pow_cast]; norm_cast
theorem reck_sub (n a b : Nat) : reck "-" a b n = ((a : Int) - b) % ((2 ^ n : Nat) : Int) := by
  show ((a : Int) - b) % 2 ^ (n : Int).toNat = _
  rw [Int.toNat_natCast, pow_cast]
theorem reck_shl (n a b : Nat) : reck "<<" a b n = (((a * 2 ^ (b % n)) % 2 ^ n : Nat) : Int) := by
  show ((a : Int) * 2 ^ ((b : Int) % n).toNat) % 2 ^ (n : Int).toNat = _
  rw [Int.toNat_natCast, pow_cast, show ((b : Int) % n).toNat = b % n by omega, pow_cast]; norm_cast
theorem reck_shr (n a b : Nat) : reck ">>" a b n = ((a / 2 ^ (b % n) : Nat) : Int) := by
  show ((a : Int) / 2 ^ ((b : Int) % n).toNat) = _
  rw [show ((b : Int) % n).toNat = b % n by omega, pow_cast]; norm_cast
theorem reck_lt (x y w : Int) : reck "<" x y w = if x < y then 1 else 0 := rfl
theorem reck_eq (x y w : Int) : reck "=" x y w = if x = y then 1 else 0 := rfl
theorem reck_and (n a b : Nat) : reck "&" a b n = ((a &&& b : Nat) : Int) := by
  show Builtin.bitAnd a b = _
  rw [bitAnd_pp (by omega) (by omega)]; rfl
theorem reck_or (n a b : Nat) : reck "|" a b n = ((a ||| b : Nat) : Int) := by
  show Builtin.bitOr a b = _
  rw [Bits.bitOr_pp (by omega) (by omega)]; rfl
theorem reck_xor (n a b : Nat) : reck "^" a b n = ((a ^^^ b : Nat) : Int) := by
  show Builtin.bitXor a b = _
  rw [Bits.bitXor_pp (by omega) (by omega)]; rfl
theorem reck_word {op : Str} {x y w : Int} (h1 : 1 ≤ w) (hx : Word w x) (hy : Word w y) : Word w (reck op x y w) := by
  obtain ⟨n, a, rfl, rfl, hn, ha⟩ := word_nat h1 hx
  obtain ⟨b, hb0, rfl⟩ : ∃ b : Nat, b < 2 ^ n ∧ y = b := by
    obtain ⟨n', b, e, rfl, _, hb⟩ := word_nat h1 hy
    have e' : n = n' := by omega
    subst e'
    exact ⟨b, hb, rfl⟩
  have hp : 0 < 2 ^ n := Nat.two_pow_pos n
  have h2 : 2 ≤ 2 ^ n := by
    have := Nat.pow_le_pow_right (show 0 < 2 by decide) hn
    omega
  by_cases e1 : op = "+"
  · rw [e1, reck_add]; exact word_of (Nat.mod_lt _ hp)
  by_cases e2 : op = "-"
  · rw [e2, reck_sub]
    have q1 := Int.emod_nonneg ((a : Int) - b) (show ((2 ^ n : Nat) : Int) ≠ 0 by omega)
    have q2 := Int.emod_lt_of_pos ((a : Int) - b) (show (0 : Int) < ((2 ^ n : Nat) : Int) by omega)
    refine ⟨q1, ?_⟩
    rw [Int.toNat_natCast, pow_cast]; exact q2
  by_cases e3 : op = "<<"
  · rw [e3, reck_shl]; exact word_of (Nat.mod_lt _ hp)
  by_cases e4 : op = ">>"
  · rw [e4, reck_shr]; exact word_of (Nat.lt_of_le_of_lt (Nat.div_le_self _ _) ha)
  have w01 : ∀ c : Prop, [Decidable c] → Word (n : Int) (if c then 1 else 0) := fun c _ => by
    split
    · exact word_of (a := 1) (by omega)
    · exact word_of (a := 0) (by omega)
  by_cases e5 : op = "<"
  · rw [e5, reck_lt]; exact w01 _
  by_cases e6 : op = "="
  · rw [e6, reck_eq]; exact w01 _
  have e : reck op a b n = tbits op a b := by
    unfold reck
    rw [if_neg e1, if_neg e2, if_neg e3, if_neg e4, if_neg e5, if_neg e6]
  rw [e]
  unfold tbits
  by_cases e7 : op = "&"
  · rw [if_pos e7, bitAnd_pp (by omega) (by omega)]; exact word_of (Nat.lt_of_le_of_lt Nat.and_le_left ha)
  rw [if_neg e7]
  by_cases e8 : op = "|"
  · rw [if_pos e8, Bits.bitOr_pp (by omega) (by omega)]; exact word_of (Nat.or_lt_two_pow ha hb0)
  rw [if_neg e8, Bits.bitXor_pp (by omega) (by omega)]; exact word_of (Nat.xor_lt_two_pow ha hb0)

theorem word_nat2 {n : Nat} {y : Int} (h1 : 1 ≤ n) (hy : Word (n : Int) y) : ∃ b : Nat, y = b ∧ b < 2 ^ n := by
  obtain ⟨n', b, e, rfl, _, hb⟩ := word_nat (by omega) hy
  have e' : n = n' := by omega
  subst e'
  exact ⟨b, rfl, hb⟩
/-- + & | ^ -/
def Comm (op : Str) : Prop := op = "+" ∨ op = "&" ∨ op = "|" ∨ op = "^"
theorem c_comm {op : Str} (c : Comm op) {w x y : Int} (h1 : 1 ≤ w) (hx : Word w x) (hy : Word w y) : reck op x y w = reck op y x w := by
  obtain ⟨n, a, rfl, rfl, hn, ha⟩ := word_nat h1 hx
  obtain ⟨b, rfl, hb⟩ := word_nat2 hn hy
  rcases c with rfl | rfl | rfl | rfl
  · rw [reck_add, reck_add, Nat.add_comm]
  · rw [reck_and, reck_and, Nat.and_comm]
  · rw [reck_or, reck_or, Nat.or_comm]
  · rw [reck_xor, reck_xor, Nat.xor_comm]
theorem c_assoc {op : Str} (c : Comm op) {w x y z : Int} (h1 : 1 ≤ w) (hx : Word w x) (hy : Word w y) (hz : Word w z) : reck op (reck op x y w) z w = reck op x (reck op y z w) w := by
  obtain ⟨n, a, rfl, rfl, hn, ha⟩ := word_nat h1 hx
  obtain ⟨b, rfl, hb⟩ := word_nat2 hn hy
  obtain ⟨d, rfl, hd⟩ := word_nat2 hn hz
  rcases c with rfl | rfl | rfl | rfl
  · rw [reck_add, reck_add, reck_add, reck_add, Nat.mod_add_mod, Nat.add_mod_mod, Nat.add_assoc]
  · rw [reck_and, reck_and, reck_and, reck_and, Nat.and_assoc]
  · rw [reck_or, reck_or, reck_or, reck_or, Nat.or_assoc]
  · rw [reck_xor, reck_xor, reck_xor, reck_xor, Nat.xor_assoc]
theorem sub_mod {n a b c : Nat} (hc : c < 2 ^ n) (h : ∃ k : Int, (a : Int) - b = c + k * ((2 ^ n : Nat) : Int)) : reck "-" a b n = (c : Int) := by
  obtain ⟨k, h⟩ := h
  rw [reck_sub, h, Int.add_mul_emod_self_right]
  exact Int.emod_eq_of_lt (by omega) (by omega)
theorem add_dm (n a : Nat) : ∃ k : Int, ((a % 2 ^ n : Nat) : Int) = a + k * ((2 ^ n : Nat) : Int) := by
  refine ⟨-((a / 2 ^ n : Nat) : Int), ?_⟩
  have h := Nat.div_add_mod a (2 ^ n)
  have h2 : ((2 ^ n * (a / 2 ^ n) + a % 2 ^ n : Nat) : Int) = (a : Int) := by rw [h]
  rw [Int.natCast_add, Int.natCast_mul] at h2
  rw [Int.neg_mul, Int.mul_comm]
  omega
theorem sub_back {w x y : Int} (h1 : 1 ≤ w) (hx : Word w x) (hy : Word w y) : reck "-" (reck "+" x y w) y w = x := by
  obtain ⟨n, a, rfl, rfl, hn, ha⟩ := word_nat h1 hx
  obtain ⟨b, rfl, hb⟩ := word_nat2 hn hy
  rw [reck_add]
  obtain ⟨k, hk⟩ := add_dm n (a + b)
  exact sub_mod ha ⟨k, by rw [hk]; omega⟩
theorem neg_word {n b : Nat} (hb : b < 2 ^ n) : ∃ d : Nat, reck "-" (0 : Nat) b n = (d : Int) ∧ d < 2 ^ n ∧ ∃ k : Int, (d : Int) = -(b : Int) + k * ((2 ^ n : Nat) : Int) := by
  by_cases h : b = 0
  · refine ⟨0, sub_mod (Nat.two_pow_pos n) ⟨0, by omega⟩, Nat.two_pow_pos n, 0, by omega⟩
  · refine ⟨2 ^ n - b, sub_mod (by omega) ⟨-1, by omega⟩, by omega, 1, by omega⟩
theorem sub_neg {w x y : Int} (h1 : 1 ≤ w) (hx : Word w x) (hy : Word w y) : reck "-" x (reck "-" 0 y w) w = reck "+" x y w := by
  obtain ⟨n, a, rfl, rfl, hn, ha⟩ := word_nat h1 hx
  obtain ⟨b, rfl, hb⟩ := word_nat2 hn hy
  obtain ⟨d, e, hd, k, hk⟩ := neg_word hb
  rw [show ((0 : Int)) = ((0 : Nat) : Int) from rfl, e, reck_add]
  obtain ⟨j, hj⟩ := add_dm n (a + b)
  refine sub_mod (Nat.mod_lt _ (Nat.two_pow_pos n)) ⟨-k - j, ?_⟩
  rw [hj, hk, Int.sub_mul, Int.neg_mul]
  omega
theorem add_neg {w y : Int} (h1 : 1 ≤ w) (hy : Word w y) : reck "+" y (reck "-" 0 y w) w = 0 := by
  obtain ⟨n, b, rfl, rfl, hn, hb⟩ := word_nat h1 hy
  obtain ⟨d, e, hd, k, hk⟩ := neg_word hb
  rw [show ((0 : Int)) = ((0 : Nat) : Int) from rfl, e, reck_add]
  have h2 : ((b + d : Nat) : Int) = k * ((2 ^ n : Nat) : Int) := by omega
  have h3 : (((b + d) % 2 ^ n : Nat) : Int) = ((b + d : Nat) : Int) % ((2 ^ n : Nat) : Int) := by norm_cast
  rw [h3, h2, Int.mul_emod_left]; rfl
theorem or_split (a b : Nat) : (a ||| b) = (a ^^^ b) + (a &&& b) := by
  have h1 := Bits.nat_xor_add_and a b
  have h2 : (a ||| b) + (a &&& b) = a + b := by
    have e : ∀ m n : Nat, (m ||| n) + (m &&& n) = m + n := by
      intro m
      induction m using Nat.strongRecOn with
      | _ m ih =>
        intro n
        by_cases hm : m = 0
        · subst hm; simp
        have hm2 : m / 2 < m := by omega
        have q := ih (m / 2) hm2 (n / 2)
        have o := Nat.or_div_two (a := m) (b := n)
        have d := Nat.and_div_two (a := m) (b := n)
        have om : (m ||| n) % 2 = if m % 2 = 1 ∨ n % 2 = 1 then 1 else 0 := by
          have := Nat.testBit_or m n 0
          simp only [Nat.testBit_zero] at this
          rcases Nat.mod_two_eq_zero_or_one (m ||| n) with h | h <;> rcases Nat.mod_two_eq_zero_or_one m with h' | h' <;> rcases Nat.mod_two_eq_zero_or_one n with h'' | h'' <;> simp [h, h', h''] at this ⊢
        have dm : (m &&& n) % 2 = if m % 2 = 1 ∧ n % 2 = 1 then 1 else 0 := by
          have := Nat.testBit_and m n 0
          simp only [Nat.testBit_zero] at this
          rcases Nat.mod_two_eq_zero_or_one (m &&& n) with h | h <;> rcases Nat.mod_two_eq_zero_or_one m with h' | h' <;> rcases Nat.mod_two_eq_zero_or_one n with h'' | h'' <;> simp [h, h', h''] at this ⊢
        have z1 := Nat.div_add_mod (m ||| n) 2
        have z2 := Nat.div_add_mod (m &&& n) 2
        have z3 := Nat.div_add_mod m 2
        have z4 := Nat.div_add_mod n 2
        rw [o, om] at z1
        rw [d, dm] at z2
        rcases Nat.mod_two_eq_zero_or_one m with h' | h' <;> rcases Nat.mod_two_eq_zero_or_one n with h'' | h'' <;> simp [h', h''] at z1 z2 <;> omega
    exact e a b
  omega
theorem or_sub {w x y : Int} (h1 : 1 ≤ w) (hx : Word w x) (hy : Word w y) : reck "-" (reck "|" x y w) (reck "&" x y w) w = reck "^" x y w := by
  obtain ⟨n, a, rfl, rfl, hn, ha⟩ := word_nat h1 hx
  obtain ⟨b, rfl, hb⟩ := word_nat2 hn hy
  rw [reck_or, reck_and, reck_xor, or_split]
  exact sub_mod (Nat.xor_lt_two_pow ha hb) ⟨0, by omega⟩
theorem xor_back {w x y : Int} (h1 : 1 ≤ w) (hx : Word w x) (hy : Word w y) : reck "^" (reck "^" x y w) y w = x := by
  obtain ⟨n, a, rfl, rfl, hn, ha⟩ := word_nat h1 hx
  obtain ⟨b, rfl, hb⟩ := word_nat2 hn hy
  rw [reck_xor, reck_xor, Nat.xor_assoc, Nat.xor_self, Nat.xor_zero]
theorem add_or_and {w x y : Int} (h1 : 1 ≤ w) (hx : Word w x) (hy : Word w y) : reck "+" x y w = reck "+" (reck "|" x y w) (reck "&" x y w) w := by
  obtain ⟨n, a, rfl, rfl, hn, ha⟩ := word_nat h1 hx
  obtain ⟨b, rfl, hb⟩ := word_nat2 hn hy
  rw [reck_or, reck_and, reck_add, reck_add, or_split]
  have h := Bits.nat_xor_add_and a b
  congr 2
  omega
theorem shl_one {w x : Int} (h1 : 2 ≤ w) (hx : Word w x) : reck "<<" x 1 w = reck "+" x x w := by
  obtain ⟨n, a, rfl, rfl, hn, ha⟩ := word_nat (by omega) hx
  rw [show ((1 : Int)) = ((1 : Nat) : Int) from rfl, reck_shl, reck_add, Nat.mod_eq_of_lt (show 1 < n by omega)]
  congr 2
  omega
theorem shl_self {w x : Int} (h1 : 1 ≤ w) (hx : Word w x) : reck "<<" x w w = x := by
  obtain ⟨n, a, rfl, rfl, hn, ha⟩ := word_nat h1 hx
  rw [reck_shl, Nat.mod_self, Nat.pow_zero, Nat.mul_one, Nat.mod_eq_of_lt ha]
theorem top_eq {n a : Nat} (hn : 1 ≤ n) (ha : a < 2 ^ n) : topI a n = ((a / 2 ^ (n - 1) : Nat) : Int) ∧ a / 2 ^ (n - 1) < 2 := by
  have hp : 2 ^ n = 2 * 2 ^ (n - 1) := by
    rw [show n = (n - 1) + 1 by omega, Nat.pow_succ]; simp [Nat.mul_comm]
  have h : a / 2 ^ (n - 1) < 2 := by
    rw [Nat.div_lt_iff_lt_mul (Nat.two_pow_pos _)]; omega
  refine ⟨?_, h⟩
  unfold topI
  rw [show ((n : Int) - 1).toNat = n - 1 by omega, pow_cast]
  have e : ((a : Int) / ((2 ^ (n - 1) : Nat) : Int)) = ((a / 2 ^ (n - 1) : Nat) : Int) := by norm_cast
  rw [e, bitAnd_pp (Int.natCast_nonneg _) (by decide)]
  rw [Int.toNat_natCast]
  have e2 : (1 : Int).toNat = 1 := rfl
  rw [e2, Nat.and_one_is_mod, Nat.mod_eq_of_lt h]
theorem halved {w x : Int} (h1 : 2 ≤ w) (hx : Word w x) : reck "+" (reck ">>" (reck "+" x x w) 1 w) (reck "<<" (topI x w) (w - 1) w) w = x := by
  obtain ⟨n, a, rfl, rfl, hn, ha⟩ := word_nat (by omega) hx
  obtain ⟨e, ht⟩ := top_eq hn ha
  rw [e, show ((1 : Int)) = ((1 : Nat) : Int) from rfl, show ((n : Int) - ((1 : Nat) : Int)) = ((n - 1 : Nat) : Int) by omega, reck_add, reck_shr, reck_shl, reck_add, Nat.mod_eq_of_lt (show 1 < n by omega), Nat.mod_eq_of_lt (show n - 1 < n by omega)]
  have hp : 2 ^ n = 2 * 2 ^ (n - 1) := by
    rw [show n = (n - 1) + 1 by omega, Nat.pow_succ]; simp [Nat.mul_comm]
  have hd := Nat.div_add_mod a (2 ^ (n - 1))
  have hm := Nat.mod_lt a (Nat.two_pow_pos (n - 1))
  have hpp := Nat.two_pow_pos (n - 1)
  generalize a / 2 ^ (n - 1) = t at *
  generalize a % 2 ^ (n - 1) = r at *
  generalize 2 ^ (n - 1) = p at *
  rw [hp] at *
  congr 1
  have ct : t = 0 ∨ t = 1 := by omega
  rcases ct with rfl | rfl
  · have : (a + a) % (2 * p) = a + a := Nat.mod_eq_of_lt (by omega)
    rw [this]
    simp only [Nat.zero_mul, Nat.zero_mod, Nat.add_zero, Nat.pow_one]
    rw [show (a + a) / 2 = a by omega]
    exact Nat.mod_eq_of_lt (by omega)
  · have : (a + a) % (2 * p) = a + a - 2 * p := by
      rw [Nat.mod_eq_sub_mod (by omega)]
      exact Nat.mod_eq_of_lt (by omega)
    rw [this]
    simp only [Nat.one_mul, Nat.pow_one]
    rw [Nat.mod_eq_of_lt (show p < 2 * p by omega), show (a + a - 2 * p) / 2 = a - p by omega, Nat.mod_eq_of_lt (by omega)]
    omega
theorem sorted3 {x y w : Int} : (reck "<" x y w = 0 ∧ reck "<" y x w = 0 ∧ reck "=" x y w = 1) ∨ (reck "<" x y w = 1 ∧ reck "<" y x w = 0 ∧ reck "=" x y w = 0) ∨ (reck "<" x y w = 0 ∧ reck "<" y x w = 1 ∧ reck "=" x y w = 0) := by
  simp only [reck_lt, reck_eq]
  rcases Int.lt_trichotomy x y with h | h | h
  · rw [if_pos h, if_neg (by omega), if_neg (by omega)]; simp
  · rw [if_neg (by omega), if_neg (by omega), if_pos h]; simp
  · rw [if_neg (by omega), if_pos h, if_neg (by omega)]; simp
theorem eq_xor {w x y : Int} (h1 : 1 ≤ w) (hx : Word w x) (hy : Word w y) : reck "=" x y w = 1 - truthI (reck "^" x y w) := by
  obtain ⟨n, a, rfl, rfl, hn, ha⟩ := word_nat h1 hx
  obtain ⟨b, rfl, hb⟩ := word_nat2 hn hy
  rw [reck_xor, reck_eq]
  unfold truthI
  by_cases h : a = b
  · subst h; simp
  · have h2 : a ^^^ b ≠ 0 := fun e => h (by
      have q : (a ^^^ b) ^^^ b = 0 ^^^ b := by rw [e]
      rw [Nat.xor_assoc, Nat.xor_self, Nat.xor_zero, Nat.zero_xor] at q
      exact q)
    rw [if_neg (by omega), if_neg (by omega)]; rfl
theorem truth_lt {w x : Int} (hx : Word w x) : truthI x = reck "<" 0 x w := by
  have := hx.1
  unfold truthI
  rw [reck_lt]
  by_cases h : x = 0
  · rw [if_pos h, if_neg (by omega)]
  · rw [if_neg h, if_pos (by omega)]
theorem top_lt {w x : Int} (h1 : 1 ≤ w) (hx : Word w x) : topI x w = 1 - reck "<" x (1 * 2 ^ (w - 1).toNat) w := by
  obtain ⟨n, a, rfl, rfl, hn, ha⟩ := word_nat h1 hx
  obtain ⟨e, ht⟩ := top_eq hn ha
  rw [e, reck_lt, show ((n : Int) - 1).toNat = n - 1 by omega, pow_cast, Int.one_mul]
  have hd := Nat.div_add_mod a (2 ^ (n - 1))
  have hm := Nat.mod_lt a (Nat.two_pow_pos (n - 1))
  by_cases h : a < 2 ^ (n - 1)
  · rw [Nat.div_eq_of_lt h, if_pos (by omega)]; rfl
  · have : a / 2 ^ (n - 1) ≠ 0 := fun e => h (by rw [e] at hd; omega)
    have h1 : a / 2 ^ (n - 1) = 1 := by
      generalize a / 2 ^ (n - 1) = t at *
      omega
    rw [if_neg (by omega), h1]; rfl

end J
namespace J
open PySem PySem.Spec PyProof.Rows L2
local macro_rules | `(tactic| walk_at "ix") => `(tactic| first | exact at0 | exact at1 | exact at2 | assumption)
local macro_rules | `(tactic| walk_at "size") => `(tactic| first
  | assumption
  | (show _ < sizeLine; rw [sizeLine_eq]; simp only [List.length_cons, List.length_nil, List.length_append, List.length_map]; omega)
  | (show _ ≤ sizeLine; rw [sizeLine_eq]; simp only [List.length_cons, List.length_nil, List.length_append, List.length_map]; omega))
local macro_rules | `(tactic| walk_at "side") => `(tactic| first
  | assumption
  | ((with_reducible refine cdw ?_ ?_) <;> omega)
  | omega
  | (exact ⟨by omega, by omega⟩)
  | (exact Or.inl ⟨by omega, by omega⟩)
  | (exact Or.inr ⟨by omega, by omega⟩)
  | decide
  | (simp only [List.length_cons, List.length_nil, List.length_append, List.length_map]; omega)
  | (show _ ≤ _; decide))
local macro_rules | `(tactic| walk_at "as") => `(tactic| with_reducible assumption)
local macro_rules | `(tactic| walk_at "tr") => `(tactic| first
  | with_reducible assumption
  | with_reducible exact upd_same
  | ((with_reducible refine' SqL.of ?hh); (case hh => walk_at "as"))
  | ((with_reducible refine' SqT.of ?hh); (case hh => walk_at "as"))
  | ((with_reducible refine' Same.stm ?ee ?gg); (case ee => walk_at "as"); (case gg => walk_at "tr"))
  | ((with_reducible refine' Same.sqT ?ee ?gg); (case ee => walk_at "as"); (case gg => walk_at "tr"))
  | ((with_reducible refine' Same.sqL ?ee ?gg); (case ee => walk_at "as"); (case gg => walk_at "tr"))
  | ((with_reducible refine' Same.at ?ee ?gg); (case ee => walk_at "as"); (case gg => walk_at "tr"))
  | ((with_reducible refine' But.stm ?ee ?ff ?gg); (case ee => walk_at "as"); (case ff => walk_at "ne"); (case gg => walk_at "tr"))
  | ((with_reducible refine' But.tup ?ee ?ff ?gg); (case ee => walk_at "as"); (case ff => walk_at "tr1"); (case gg => walk_at "tr"))
  | ((with_reducible refine' But.sqT ?ee ?ff ?gg); (case ee => walk_at "as"); (case ff => walk_at "tr1"); (case gg => walk_at "tr"))
  | ((with_reducible refine' But.tupL ?ee ?ff ?gg); (case ee => walk_at "as"); (case ff => walk_at "tr1"); (case gg => walk_at "tr"))
  | ((with_reducible refine' But.sqTL ?ee ?ff ?gg); (case ee => walk_at "as"); (case ff => walk_at "tr1"); (case gg => walk_at "tr"))
  | ((with_reducible refine' But.sqL ?ee ?ff ?gg); (case ee => walk_at "as"); (case ff => walk_at "ne"); (case gg => walk_at "tr"))
  | ((with_reducible refine' But.at ?ee ?ff ?gg); (case ee => walk_at "as"); (case ff => walk_at "ne"); (case gg => walk_at "tr")))
local macro_rules | `(tactic| walk_at "tr1") => `(tactic| first
  | with_reducible assumption
  | ((with_reducible refine' Same.stm ?ee ?gg); (case ee => walk_at "as"); (case gg => walk_at "tr1"))
  | ((with_reducible refine' Same.at ?ee ?gg); (case ee => walk_at "as"); (case gg => walk_at "tr1"))
  | ((with_reducible refine' But.at ?ee ?ff ?gg); (case ee => walk_at "as"); (case ff => walk_at "ne0"); (case gg => walk_at "tr1"))
  | ((with_reducible refine' But.stm ?ee ?ff ?gg); (case ee => walk_at "as"); (case ff => walk_at "ne0"); (case gg => walk_at "tr1")))
local macro_rules | `(tactic| walk_at "ne0") => `(tactic| first
  | with_reducible assumption
  | (with_reducible apply Ne.symm; with_reducible assumption))
local macro_rules | `(tactic| walk_at "ne") => `(tactic| first
  | with_reducible assumption
  | (with_reducible apply Ne.symm; with_reducible assumption)
  | ((with_reducible refine' ne_of_none ?hh ?nn); (case nn => walk_at "as"); (case hh => walk_at "tr1"))
  | ((with_reducible apply Ne.symm); (with_reducible refine' ne_of_none ?hh ?nn); (case nn => walk_at "as"); (case hh => walk_at "tr1")))
local macro_rules | `(tactic| walk_at "w") => `(tactic| first
  | with_reducible refine w_seq ?_
  | ((with_reducible refine' w_var ?vv ?_); (case vv => exact rfl))
  | with_reducible refine w_c ?_
  | with_reducible refine w_op ?_
  | with_reducible refine w_asg ?_
  | with_reducible refine w_gName ?_
  | with_reducible refine w_ret ?_
  | with_reducible refine w_ifS ?_
  | with_reducible refine w_drop ?_
  | with_reducible refine w_next ?_
  | with_reducible refine w_cons ?_
  | with_reducible refine w_nil ?_
  | with_reducible refine w_call ?_
  | with_reducible refine w_cb ?_
  | with_reducible refine w_rI0 ?_
  | with_reducible refine w_addI ?_
  | with_reducible refine w_eqI ?_
  | with_reducible refine w_neI ?_
  | with_reducible refine w_eqS ?_
  | with_reducible refine w_neS ?_
  | with_reducible refine w_eqB ?_
  | with_reducible refine w_neB ?_
  | with_reducible refine w_test ?_
  | with_reducible refine w_tB ?_
  | with_reducible refine w_bl ?_
  | ((with_reducible refine' w_mulI ?vv ?_); (case vv => walk_at "side"))
  | ((with_reducible refine' w_rI ?vv ?_); (case vv => walk_at "side"))
  | with_reducible refine w_int1 ?_
  | with_reducible refine w_int1b ?_
  | with_reducible refine w_tup ?_
  | with_reducible refine w_lst ?_
  | with_reducible refine w_un ?_
  | with_reducible refine w_rU ?_
  | with_reducible refine w_and ?_
  | with_reducible refine w_or ?_
  | with_reducible refine w_not ?_
  | with_reducible refine w_andV ?_
  | with_reducible refine w_orV ?_
  | with_reducible refine w_notV ?_
  | with_reducible refine w_ifE ?_
  | with_reducible refine w_nT ?_
  | with_reducible refine w_nF ?_
  | with_reducible refine iteT ?_
  | with_reducible refine iteF ?_
  | ((with_reducible refine' w_ixT ?vv ?ww ?_); (case vv => walk_at "tr"); (case ww => walk_at "ix"))
  | ((with_reducible refine' w_ixL ?vv ?ww ?_); (case vv => walk_at "tr"); (case ww => walk_at "ix"))
  | with_reducible refine w_gSub ?_
  | ((with_reducible refine' w_setL ?vv ?ww ?_); (case vv => walk_at "tr"); (case ww => first | rfl | decide | assumption))
  | ((with_reducible refine' w_lenL ?vv ?_); (case vv => walk_at "tr"))
  | ((with_reducible refine' w_lenT ?vv ?_); (case vv => walk_at "tr"))
  | with_reducible refine w_max2 ?_
  | with_reducible refine w_min2 ?_
  | with_reducible refine w_bm ?_
  | with_reducible refine w_bm0 ?_
  | ((with_reducible refine' w_tyL ?vv ?_); (case vv => walk_at "tr"))
  | ((with_reducible refine' w_append ?vv ?ww ?_); (case vv => walk_at "tr"); (case ww => walk_at "size"))
  | ((with_reducible refine' w_size ?vv ?_); (case vv => walk_at "size"))
  | with_reducible refine w_forL ?_
  | with_reducible refine w_forT ?_
  | with_reducible refine w_forR1 ?_
  | with_reducible refine w_forR2 ?_
  | with_reducible refine w_lcL ?_
  | with_reducible refine w_lcT ?_
  | with_reducible refine w_lcR1 ?_
  | with_reducible refine w_yes ?_
  | with_reducible refine w_sl ?_
  | with_reducible refine w_noPart ?_
  | with_reducible refine w_part ?_
  | with_reducible refine w_int ?_
  | ((with_reducible refine' w_slL ?vv ?_); (case vv => walk_at "tr"))
  | ((with_reducible refine' w_seqL ?vv ?ww ?_); (case vv => walk_at "tr"); (case ww => rfl))
  | ((with_reducible refine' w_seqT ?vv ?ww ?_); (case vv => walk_at "tr"); (case ww => rfl))
  | with_reducible refine w_gNil ?_
  | with_reducible refine w_gCons ?_
  | with_reducible refine w_retN ?_
  | with_reducible refine w_break ?_
  | with_reducible refine w_cont ?_)


def spWord : Sp := fun vs H Q _ => ∃ (s : Addr) (w : Int), vs = [.ref s, .int w] ∧ Stm H s ∧ 4 ≤ w ∧ w ≤ 24 ∧ ∀ x H', Word w x → Stm H' s → But s H H' → Q (.int x) H'
def spAll (K : PySem.W.Frag) : Sp := fun vs H Q _ => ∃ (op : Str) (l : Addr) (x y z w : Int), vs = [.str op, .ref l, .int w] ∧ SqL K H l [.int x, .int y, .int z] ∧ 4 ≤ w ∧ w ≤ 24 ∧ Word w x ∧ Word w (reck op x y w) ∧ ∀ H', Same H H' → Q (.int (reck op (reck op x y w) z w)) H'
def spSums : Sp := fun vs H Q _ => ∃ (x y z w : Int), vs = [.int x, .int y, .int z, .int w] ∧ 4 ≤ w ∧ w ≤ 24 ∧ Word w x ∧ Word w y ∧ Word w z ∧ ∀ H', Same H H' → Q (.bl true) H'
def spBits : Sp := fun vs H Q _ => ∃ (x y w : Int), vs = [.int x, .int y, .int w] ∧ 4 ≤ w ∧ w ≤ 24 ∧ Word w x ∧ Word w y ∧ ∀ H', Same H H' → Q (.bl true) H'
theorem len_law_word {vs H Q E} (h : spWord vs H Q E) : vs.length = 2 := by obtain ⟨_, _, rfl, _⟩ := h; rfl
theorem len_law_all {K : PySem.W.Frag} {vs H Q E} (h : spAll K vs H Q E) : vs.length = 3 := by obtain ⟨_, _, _, _, _, _, rfl, _⟩ := h; rfl
theorem len_law_sums_good {vs H Q E} (h : spSums vs H Q E) : vs.length = 4 := by obtain ⟨_, _, _, _, rfl, _⟩ := h; rfl
theorem len_law_bits_good {vs H Q E} (h : spBits vs H Q E) : vs.length = 3 := by obtain ⟨_, _, _, rfl, _⟩ := h; rfl
theorem len_law_order_good {vs H Q E} (h : spBits vs H Q E) : vs.length = 3 := by obtain ⟨_, _, _, rfl, _⟩ := h; rfl
theorem c_reck {op : Str} {x y w : Int} {Q : VK} {H : Hp} {E : XK} (h1 : 1 ≤ w) (h24 : w ≤ 24) (hx : Word w x) (k : Q (.int (reck op x y w)) H) : spReck [.str op, .int x, .int y, .int w] H Q E := ⟨op, x, y, w, rfl, h1, h24, hx, k⟩
theorem word_two {w : Int} (h1 : 1 ≤ w) : (2 : Int) ≤ 2 ^ w.toNat := by
  obtain ⟨n, rfl, hn⟩ : ∃ n : Nat, w = n ∧ 1 ≤ n := ⟨w.toNat, by omega, by omega⟩
  rw [Int.toNat_natCast, pow_cast]
  have := Nat.pow_le_pow_right (show 0 < 2 by decide) hn
  omega
theorem word_zero {w : Int} (h1 : 1 ≤ w) : Word w 0 := ⟨Int.le_refl 0, by have := (word_two h1); omega⟩
theorem top_word {w x : Int} (h1 : 1 ≤ w) (hx : Word w x) : Word w (topI x w) := by
  obtain ⟨n, a, rfl, rfl, hn, ha⟩ := word_nat h1 hx
  obtain ⟨e, ht⟩ := top_eq hn ha
  rw [e]
  have := word_two h1
  rw [Int.toNat_natCast, pow_cast] at this
  exact word_of (by omega)
theorem word_w1 {w : Int} (h1 : 1 ≤ w) (h24 : w ≤ 24) : Word w (w - 1) := by
  obtain ⟨n, rfl, hn⟩ : ∃ n : Nat, w = n ∧ 1 ≤ n := ⟨w.toNat, by omega, by omega⟩
  rw [show ((n : Int) - 1) = ((n - 1 : Nat) : Int) by omega]
  exact word_of (Nat.lt_of_lt_of_le (by omega) (Nat.le_of_lt Nat.lt_two_pow_self))
local macro_rules | `(tactic| walk_at "word") => `(tactic| first
  | with_reducible assumption
  | ((with_reducible refine' reck_word ?h1 ?h2 ?h3); (case h1 => omega); (case h2 => walk_at "word"); (case h3 => walk_at "word")))
local macro_rules | `(tactic| walk_at "r") => `(tactic| first
  | walk_at "w"
  | ((with_reducible refine' c_reck ?h1 ?h2 ?h3 ?_); (case h1 => omega); (case h2 => omega); (case h3 => walk_at "word")))
section
variable {P : Program} {w : World} {K : PySem.W.Frag} {mg : Str → Option Value}
theorem ok_law_word (c : Facts K mg) (G__law_take : Fn P w K mg "_law_take" 1 ["stream", "many"] spTake) : Fn P w K mg "_law_word" 2 ["stream", "width"] spWord := by
  obtain ⟨fd, F⟩ := c.d_law_word
  refine Fn.mk' F c.g_law_word sc_law_word (fun vs H Q E h => ?_) (fun _ _ _ _ _ _ us hl => match us, hl with | [_, _], _ => rfl) (fun base cdv A outer s H vs Q E hr h => ?_)
  · exact len_law_word h
  · have nd := sc_law_word.nd
    have hr__law_take : Room 1 _ := hr.mono (by decide)
    refine ⟨_, (pss_cons (ps_set (i := 2) nd rfl (Or.inl rfl) (pe_fn G__law_take hr__law_take (by rfl) (pa_cons (pv 0) (pa_cons pe_int pa_nil))))
      (pss_cons (ps_set (i := 3) nd rfl (Or.inl rfl) (pe_fn G__law_take hr__law_take (by rfl) (pa_cons (pv 0) (pa_cons pe_int pa_nil))))
      (pss_one (ps_ret (pe_ix ix_seq (pe_lst (pa_cons (pv 3) (pa_cons (pe_op op_sub (pe_op op_sub (pe_op op_shl pe_int (pv 1)) pe_int) (pv 3)) (pa_cons (pe_fn G__law_take hr__law_take (by rfl) (pa_cons (pv 0) (pa_cons (pe_op op_shl pe_int (pv 1)) pa_nil))) (pa_cons (pe_fn G__law_take hr__law_take (by rfl) (pa_cons (pv 0) (pa_cons (pe_op op_shl pe_int (pv 1)) pa_nil))) pa_nil))))) (pv 2) (fun _ _ => rfl)))))), ?_⟩
    try dsimp only [cxOf, Cx.nox, Cx.wish]
    obtain ⟨s, w, rfl, hs, h4, h24, q⟩ := h
    have t16 := two16 h4
    have t2 := (two_le (by omega) h24).2
    have ew : ((1 : Int) * 2 ^ w.toNat) = 2 ^ w.toNat := Int.one_mul _
    repeat walk_at "w"
    refine ⟨s, 4, rfl, hs, by decide, by decide, fun way H1 w0 w1 hs1 e1 => ?_⟩
    repeat walk_at "w"
    refine ⟨s, 4, rfl, hs1, by decide, by decide, fun sm H2 s0 s1 hs2 e2 => ?_⟩
    repeat walk_at "w"
    refine ⟨s, _, rfl, hs2, by omega, by omega, fun x H3 x0 x1 hs3 e3 => ?_⟩
    repeat walk_at "w"
    refine ⟨s, _, rfl, hs3, by omega, by omega, fun y H4 y0 y1 hs4 e4 => ?_⟩
    rw [ew] at *
    repeat walk_at "w"
    refine w_new fun p H5 n5 s5 f5 => ?_
    repeat walk_at "w"
    have e5 : But s H H5 := ((e1.trans e2).trans (e3.trans e4)).trans (But.of s5)
    have hs5 : Stm H5 s := Same.stm s5 hs4
    have c : way = 0 ∨ way = 1 ∨ way = 2 ∨ way = 3 := by omega
    rcases c with rfl | rfl | rfl | rfl
    · exact w_ixL (SqL.of f5) at0 (q _ _ ⟨s0, by omega⟩ hs5 e5)
    · exact w_ixL (SqL.of f5) at1 (q _ _ ⟨by omega, by omega⟩ hs5 e5)
    · exact w_ixL (SqL.of f5) at2 (q _ _ ⟨x0, by omega⟩ hs5 e5)
    · exact w_ixL (SqL.of f5) (atI_of (by decide) rfl) (q _ _ ⟨y0, by omega⟩ hs5 e5)
theorem ok_law_all (c : Facts K mg) (G_reckoned : Fn P w K mg "reckoned" 2 ["op", "one", "other", "width"] spReck) : Fn P w K mg "_law_all" 3 ["op", "words", "width"] (spAll K) := by
  obtain ⟨fd, F⟩ := c.d_law_all
  refine Fn.mk' F c.g_law_all sc_law_all (fun vs H Q E h => ?_) (fun _ _ _ _ _ _ us hl => match us, hl with | [_, _, _], _ => rfl) (fun base cdv A outer s H vs Q E hr h => ?_)
  · exact len_law_all h
  · have nd := sc_law_all.nd
    have hr_reckoned : Room 2 _ := hr.mono (by decide)
    refine ⟨_, (pss_cons (ps_set (i := 3) nd rfl (Or.inl rfl) (pe_ix ix_seq (pv 1) pe_int (fun _ _ => rfl)))
      (pss_cons (ps_for PassesOwn.never rfl (pi_list (pe_slice sl_any (pv 1) (po_some pe_int) po_none)) (pg_name (i := 4) nd rfl (Or.inl rfl)) (pss_one (ps_set (i := 3) nd rfl (Or.inl rfl) (pe_fn G_reckoned hr_reckoned (by rfl) (pa_cons (pv 0) (pa_cons (pv 3) (pa_cons (pv 4) (pa_cons (pv 2) pa_nil))))))))
      (pss_one (ps_ret (pv 3))))), ?_⟩
    try dsimp only [cxOf, Cx.nox, Cx.wish]
    obtain ⟨op, l, x, y, z, w, rfl, hl, h4, h24, hx, hxy, q⟩ := h
    repeat walk_at "w"
    refine w_new fun p H1 n1 s1 f1 => ?_
    repeat walk_at "w"
    refine fl_run (a := p) [.int y, .int z] (SqL.of f1) ?_
    refine w_runC ?_
    repeat walk_at "r"
    refine ⟨SqL.of f1, ?_⟩
    refine w_runC ?_
    repeat walk_at "r"
    refine ⟨SqL.of f1, ?_⟩
    refine w_runN ?_
    repeat walk_at "w"
    exact q _ s1
theorem ok_law_sums_good (c : Facts K mg) (G__law_all : Fn P w K mg "_law_all" 3 ["op", "words", "width"] (spAll K)) (G_reckoned : Fn P w K mg "reckoned" 2 ["op", "one", "other", "width"] spReck) : Fn P w K mg "_law_sums_good" 4 ["one", "other", "third", "width"] spSums := by
  obtain ⟨fd, F⟩ := c.d_law_sums_good
  refine Fn.mk' F c.g_law_sums_good sc_law_sums_good (fun vs H Q E h => ?_) (fun _ _ _ _ _ _ us hl => match us, hl with | [_, _, _, _], _ => rfl) (fun base cdv A outer s H vs Q E hr h => ?_)
  · exact len_law_sums_good h
  · have nd := sc_law_sums_good.nd
    have hr__law_all : Room 3 _ := hr.mono (by decide)
    have hr_reckoned : Room 2 _ := hr.mono (by decide)
    refine ⟨_, (pss_cons (ps_for PassesOwn.never rfl (pi_list (pe_lst (pa_cons pe_str (pa_cons pe_str (pa_cons pe_str (pa_cons pe_str pa_nil)))))) (pg_name (i := 4) nd rfl (Or.inr rfl)) (pss_cons (ps_set (i := 5) nd rfl (Or.inl rfl) (pe_lst (pa_cons (pe_lst (pa_cons (pv 0) (pa_cons (pv 1) (pa_cons (pv 2) pa_nil)))) (pa_cons (pe_lst (pa_cons (pv 2) (pa_cons (pv 0) (pa_cons (pv 1) pa_nil)))) (pa_cons (pe_lst (pa_cons (pv 1) (pa_cons (pv 2) (pa_cons (pv 0) pa_nil)))) pa_nil)))))
      (pss_cons (ps_setLc (i := 6) (own := [("words", 10)]) rfl nd rfl rfl (sw_true rfl rfl rfl (by decide +kernel)) (pi_list (pv 5)) (blkOk_by (N := N_law_sums_good) (sc := defScope s_law_sums_good) (by decide +kernel)) (fun _ _ _ _ _ => (pg_name (i := 10) nd rfl (Or.inl rfl))) (fun _ _ _ _ _ => pts_nil) (fun _ _ _ _ _ => (pe_fn G__law_all hr__law_all (by rfl) (pa_cons (pv 4) (pa_cons (pv 10) (pa_cons (pv 3) pa_nil))))))
      (pss_cons (ps_set (i := 7) nd rfl (Or.inl rfl) (pe_fn G_reckoned hr_reckoned (by rfl) (pa_cons (pv 4) (pa_cons (pv 1) (pa_cons (pv 2) (pa_cons (pv 3) pa_nil))))))
      (pss_one (ps_if (PW.pt (pw_or (pt_cmpR (op_neA hr.units) (pe_slice sl_any (pv 6) (po_some pe_int) po_none) (pe_op op_mulA (pe_slice sl_any (pv 6) po_none (po_some pe_int)) pe_int) (nomark _)) (pw_or1 (pt_cmpR (op_neA hr.units) (pe_fn G_reckoned hr_reckoned (by rfl) (pa_cons (pv 4) (pa_cons (pv 0) (pa_cons (pv 7) (pa_cons (pv 3) pa_nil))))) (pe_ix ix_seq (pv 6) pe_int (fun _ _ => rfl)) (nomark _))))) (pss_one (ps_ret pe_bl)) pss_nil))))))
      (pss_cons (ps_set (i := 8) nd rfl (Or.inl rfl) (pe_fn G_reckoned hr_reckoned (by rfl) (pa_cons pe_str (pa_cons (pv 0) (pa_cons (pv 1) (pa_cons (pv 3) pa_nil))))))
      (pss_cons (ps_if (PW.pt (pw_or (pt_cmpR (op_neA hr.units) (pe_fn G_reckoned hr_reckoned (by rfl) (pa_cons pe_str (pa_cons (pv 8) (pa_cons (pv 1) (pa_cons (pv 3) pa_nil))))) (pv 0) (nomark _)) (pw_or1 (pt_cmpR (op_neA hr.units) (pe_fn G_reckoned hr_reckoned (by rfl) (pa_cons pe_str (pa_cons (pv 8) (pa_cons (pv 0) (pa_cons (pv 3) pa_nil))))) (pv 1) (nomark _))))) (pss_one (ps_ret pe_bl)) pss_nil)
      (pss_cons (ps_set (i := 9) nd rfl (Or.inl rfl) (pe_fn G_reckoned hr_reckoned (by rfl) (pa_cons pe_str (pa_cons pe_int (pa_cons (pv 1) (pa_cons (pv 3) pa_nil))))))
      (pss_one (ps_ret (pe_and (pe_cmpR (op_eqA hr.units) (pe_fn G_reckoned hr_reckoned (by rfl) (pa_cons pe_str (pa_cons (pv 0) (pa_cons (pv 9) (pa_cons (pv 3) pa_nil))))) (pv 8) (nomark _)) (pe_one (pe_cmpR (op_eqA hr.units) (pe_fn G_reckoned hr_reckoned (by rfl) (pa_cons pe_str (pa_cons (pv 1) (pa_cons (pv 9) (pa_cons (pv 3) pa_nil))))) pe_int (nomark _)))))))))), ?_⟩
    try dsimp only [cxOf, Cx.nox, Cx.wish]
    obtain ⟨x, y, z, w, rfl, h4, h24, hx, hy, hz, q⟩ := h
    have h0 : Word w 0 := word_zero (by omega)
    repeat walk_at "r"
    refine w_new fun p H0 n0 s0 f0 => ?_
    refine fl_list (a := p) [V.str "+", V.str "&", V.str "|", V.str "^"] (fun i σ H' => ∃ v4 v5 v6 v7, σ = [some (.int x), some (.int y), some (.int z), some (.int w), v4, v5, v6, v7, none, none, none] ∧ Same H H' ∧ H' p = some (.lst [V.str "+", V.str "&", V.str "|", V.str "^"])) (SqL.of f0)
      ⟨none, none, none, none, rfl, s0, f0⟩ (fun i σ H' _ ⟨_, _, _, _, _, _, hp'⟩ => SqL.of hp') (fun i v σ H1 hi ⟨v4, v5, v6, v7, e, sm, hp'⟩ => ?_) (fun σ H' ⟨v4, v5, v6, v7, e, sm, hp'⟩ => ?_)
    · obtain ⟨op, rfl, hc⟩ : ∃ op : Str, v = .str op ∧ Comm op := by
        have hm := List.mem_of_getElem? hi
        simp only [List.mem_cons, List.not_mem_nil, or_false] at hm
        rcases hm with rfl | rfl | rfl | rfl
        · exact ⟨_, rfl, .inl rfl⟩
        · exact ⟨_, rfl, .inr (.inl rfl)⟩
        · exact ⟨_, rfl, .inr (.inr (.inl rfl))⟩
        · exact ⟨_, rfl, .inr (.inr (.inr rfl))⟩
      subst e
      repeat walk_at "r"
      refine w_new fun l1 H2 n2 s2 f2 => ?_
      repeat walk_at "r"
      refine w_new fun l2 H3 n3 s3 f3 => ?_
      repeat walk_at "r"
      refine w_new fun l3 H4 n4 s4 f4 => ?_
      repeat walk_at "r"
      refine w_new fun l4 H5 n5 s5 f5 => ?_
      repeat walk_at "r"
      have g1 : H5 l1 = some (.lst [.int x, .int y, .int z]) := by walk_at "tr"
      have g2 : H5 l2 = some (.lst [.int z, .int x, .int y]) := by walk_at "tr"
      have g3 : H5 l3 = some (.lst [.int y, .int z, .int x]) := by walk_at "tr"
      have hxy := reck_word (op := op) (by omega) hx hy
      have hyz := reck_word (op := op) (by omega) hy hz
      have ez : reck op (reck op z x w) y w = reck op (reck op x y w) z w := by
        rw [c_assoc hc (by omega) hz hx hy, c_comm hc (by omega) hz hxy]
      have ey : reck op (reck op y z w) x w = reck op (reck op x y w) z w := by
        rw [c_comm hc (by omega) hyz hx, c_assoc hc (by omega) hx hy hz]
      refine lc_L (j := 10) [.ref l1, .ref l2, .ref l3] (fun D i ys H' => Same H5 H' ∧ ys = [V.int (reck op (reck op x y w) z w), .int (reck op (reck op x y w) z w), .int (reck op (reck op x y w) z w)].take i) (SqL.of f5)
        (fun D H' n s f => ⟨s, rfl⟩) (fun D n i ys H' _ _ ⟨s, _⟩ => s.sqL (SqL.of f5)) (fun D nD i v ys H' hi hl hD ⟨sm', ey'⟩ => ?_) (fun D nD ys H' hl hD ⟨sm', ey'⟩ => ?_)
      · obtain ⟨a, u1, u2, u3, rfl, ha, hu1, hu2, eu, eys, hz'⟩ : ∃ (a : Addr) (u1 u2 u3 : Int), v = .ref a ∧ H5 a = some (.lst [.int u1, .int u2, .int u3]) ∧ Word w u1 ∧ Word w u2 ∧ reck op (reck op u1 u2 w) u3 w = reck op (reck op x y w) z w ∧
            ys ++ [V.int (reck op (reck op x y w) z w)] = [V.int (reck op (reck op x y w) z w), .int (reck op (reck op x y w) z w), .int (reck op (reck op x y w) z w)].take (i + 1) ∧ i < 3 := by
          match i, hi with
          | 0, hi => exact ⟨l1, x, y, z, (Option.some.inj hi).symm, g1, hx, hy, rfl, by rw [ey']; rfl, by decide⟩
          | 1, hi => exact ⟨l2, z, x, y, (Option.some.inj hi).symm, g2, hz, hx, ez, by rw [ey']; rfl, by decide⟩
          | 2, hi => exact ⟨l3, y, z, x, (Option.some.inj hi).symm, g3, hy, hz, ey, by rw [ey']; rfl, by decide⟩
        repeat walk_at "r"
        refine ⟨op, a, u1, u2, u3, w, rfl, sm'.sqL (SqL.of ha), h4, h24, hu1, reck_word (by omega) hu1 hu2, fun H'' s'' => ?_⟩
        refine lc_end (s''.at hD) hl (by rw [sizeLine_eq]; omega) fun H3' e3' f3' => ?_
        rw [eu]
        exact ⟨e3'.new (sm'.trans s'') nD, eys⟩
      · subst ey'
        replace hD : H' D = some (.lst ([reck op (reck op x y w) z w, reck op (reck op x y w) z w, reck op (reck op x y w) z w].map V.int)) := hD
        repeat walk_at "r"
        refine w_new fun p1 H6 n6 s6 f6 => ?_
        replace f6 : H6 p1 = some (.lst ([reck op (reck op x y w) z w, reck op (reck op x y w) z w].map V.int)) := f6
        repeat walk_at "r"
        refine w_new fun p2 H7 n7 s7 f7 => ?_
        replace f7 : H7 p2 = some (.lst ([reck op (reck op x y w) z w].map V.int)) := f7
        repeat walk_at "r"
        refine w_rep f7 (by decide) (by decide) (by show 1 * 2 ≤ sizeLine; decide) (w_new fun p3 H8 n8 s8 f8 => ?_)
        replace f8 : H8 p3 = some (.lst ([reck op (reck op x y w) z w, reck op (reck op x y w) z w].map V.int)) := f8
        refine w_neIL (SqL.of (s8.at (s7.at f6))) (SqL.of f8) ?_
        repeat walk_at "r"
        refine iteNS rfl ?_
        repeat walk_at "r"
        refine iteNS (c_assoc hc (by omega) hx hy hz).symm ?_
        repeat walk_at "r"
        exact ⟨_, _, _, _, rfl, sm.trans (s2.trans (s3.trans (s4.trans (s5.trans (sm'.trans (s6.trans (s7.trans s8))))))), s8.at (s7.at (s6.at (sm'.at (s5.at (s4.at (s3.at (s2.at hp')))))))⟩
    · subst e
      repeat walk_at "r"
      refine iteNS (sub_back (by omega) hx hy) ?_
      repeat walk_at "r"
      refine iteNS (by rw [c_comm (.inl rfl) (by omega) hx hy]; exact sub_back (by omega) hy hx) ?_
      repeat walk_at "r"
      rw [decide_eq_true (sub_neg (by omega) hx hy)]
      repeat walk_at "r"
      rw [decide_eq_true (add_neg (by omega) hy)]
      exact q _ sm
theorem ok_law_bits_good (c : Facts K mg) (G_reckoned : Fn P w K mg "reckoned" 2 ["op", "one", "other", "width"] spReck) (G_top_of : Fn P w K mg "top_of" 1 ["word", "width"] spTop) : Fn P w K mg "_law_bits_good" 3 ["one", "other", "width"] spBits := by
  obtain ⟨fd, F⟩ := c.d_law_bits_good
  refine Fn.mk' F c.g_law_bits_good sc_law_bits_good (fun vs H Q E h => ?_) (fun _ _ _ _ _ _ us hl => match us, hl with | [_, _, _], _ => rfl) (fun base cdv A outer s H vs Q E hr h => ?_)
  · exact len_law_bits_good h
  · have nd := sc_law_bits_good.nd
    have hr_reckoned : Room 2 _ := hr.mono (by decide)
    have hr_top_of : Room 1 _ := hr.mono (by decide)
    refine ⟨_, (pss_cons (ps_set (i := 3) nd rfl (Or.inl rfl) (pe_fn G_reckoned hr_reckoned (by rfl) (pa_cons pe_str (pa_cons (pv 0) (pa_cons (pv 1) (pa_cons (pv 2) pa_nil))))))
      (pss_cons (ps_set (i := 4) nd rfl (Or.inl rfl) (pe_fn G_reckoned hr_reckoned (by rfl) (pa_cons pe_str (pa_cons (pv 0) (pa_cons (pv 1) (pa_cons (pv 2) pa_nil))))))
      (pss_cons (ps_set (i := 5) nd rfl (Or.inl rfl) (pe_fn G_reckoned hr_reckoned (by rfl) (pa_cons pe_str (pa_cons (pv 0) (pa_cons (pv 1) (pa_cons (pv 2) pa_nil))))))
      (pss_cons (ps_if (PW.pt (pw_or (pt_cmpR (op_neA hr.units) (pe_fn G_reckoned hr_reckoned (by rfl) (pa_cons pe_str (pa_cons (pv 3) (pa_cons (pv 4) (pa_cons (pv 2) pa_nil))))) (pv 5) (nomark _)) (pw_or1 (pt_cmpR (op_neA hr.units) (pe_fn G_reckoned hr_reckoned (by rfl) (pa_cons pe_str (pa_cons (pv 5) (pa_cons (pv 1) (pa_cons (pv 2) pa_nil))))) (pv 0) (nomark _))))) (pss_one (ps_ret pe_bl)) pss_nil)
      (pss_cons (ps_if (pt_cmpR (op_neA hr.units) (pe_fn G_reckoned hr_reckoned (by rfl) (pa_cons pe_str (pa_cons (pv 0) (pa_cons (pv 1) (pa_cons (pv 2) pa_nil))))) (pe_fn G_reckoned hr_reckoned (by rfl) (pa_cons pe_str (pa_cons (pv 3) (pa_cons (pv 4) (pa_cons (pv 2) pa_nil))))) (nomark _)) (pss_one (ps_ret pe_bl)) pss_nil)
      (pss_cons (ps_set (i := 6) nd rfl (Or.inl rfl) (pe_fn G_reckoned hr_reckoned (by rfl) (pa_cons pe_str (pa_cons (pv 0) (pa_cons (pv 0) (pa_cons (pv 2) pa_nil))))))
      (pss_cons (ps_if (PW.pt (pw_or (pt_cmpR (op_neA hr.units) (pe_fn G_reckoned hr_reckoned (by rfl) (pa_cons pe_str (pa_cons (pv 0) (pa_cons pe_int (pa_cons (pv 2) pa_nil))))) (pv 6) (nomark _)) (pw_or1 (pt_cmpR (op_neA hr.units) (pe_fn G_reckoned hr_reckoned (by rfl) (pa_cons pe_str (pa_cons (pv 0) (pa_cons (pv 2) (pa_cons (pv 2) pa_nil))))) (pv 0) (nomark _))))) (pss_one (ps_ret pe_bl)) pss_nil)
      (pss_cons (ps_set (i := 7) nd rfl (Or.inl rfl) (pe_fn G_reckoned hr_reckoned (by rfl) (pa_cons pe_str (pa_cons (pv 6) (pa_cons pe_int (pa_cons (pv 2) pa_nil))))))
      (pss_one (ps_ret (pe_cmpR (op_eqA hr.units) (pe_fn G_reckoned hr_reckoned (by rfl) (pa_cons pe_str (pa_cons (pv 7) (pa_cons (pe_fn G_reckoned hr_reckoned (by rfl) (pa_cons pe_str (pa_cons (pe_fn G_top_of hr_top_of (by rfl) (pa_cons (pv 0) (pa_cons (pv 2) pa_nil))) (pa_cons (pe_op op_sub (pv 2) pe_int) (pa_cons (pv 2) pa_nil))))) (pa_cons (pv 2) pa_nil))))) (pv 0) (nomark _)))))))))))), ?_⟩
    try dsimp only [cxOf, Cx.nox, Cx.wish]
    obtain ⟨x, y, w, rfl, h4, h24, hx, hy, q⟩ := h
    repeat walk_at "r"
    refine iteNS (or_sub (by omega) hx hy) ?_
    repeat walk_at "r"
    refine iteNS (xor_back (by omega) hx hy) ?_
    repeat walk_at "r"
    refine iteNS (add_or_and (by omega) hx hy) ?_
    repeat walk_at "r"
    refine iteNS (shl_one (by omega) hx) ?_
    repeat walk_at "r"
    refine iteNS (shl_self (by omega) hx) ?_
    repeat walk_at "r"
    refine ⟨x, w, rfl, by omega, ?_⟩
    have ht : Word w (topI x w) := top_word (by omega) hx
    have hw1 : Word w (w - 1) := word_w1 (by omega) h24
    have h1 : Word w 1 := ⟨by decide, by have := word_two (show 1 ≤ w by omega); omega⟩
    repeat walk_at "r"
    rw [decide_eq_true (halved (by omega) hx)]
    exact q _ (Same.refl _)
theorem ok_law_order_good (c : Facts K mg) (G_reckoned : Fn P w K mg "reckoned" 2 ["op", "one", "other", "width"] spReck) (G_top_of : Fn P w K mg "top_of" 1 ["word", "width"] spTop) (G_truth_of : Fn P w K mg "truth_of" 1 ["word"] spTruth) : Fn P w K mg "_law_order_good" 3 ["one", "other", "width"] spBits := by
  obtain ⟨fd, F⟩ := c.d_law_order_good
  refine Fn.mk' F c.g_law_order_good sc_law_order_good (fun vs H Q E h => ?_) (fun _ _ _ _ _ _ us hl => match us, hl with | [_, _, _], _ => rfl) (fun base cdv A outer s H vs Q E hr h => ?_)
  · exact len_law_order_good h
  · have nd := sc_law_order_good.nd
    have hr_reckoned : Room 2 _ := hr.mono (by decide)
    have hr_top_of : Room 1 _ := hr.mono (by decide)
    have hr_truth_of : Room 1 _ := hr.mono (by decide)
    refine ⟨_, (pss_cons (ps_set (i := 3) nd rfl (Or.inl rfl) (pe_lst (pa_cons (pe_fn G_reckoned hr_reckoned (by rfl) (pa_cons pe_str (pa_cons (pv 0) (pa_cons (pv 1) (pa_cons (pv 2) pa_nil))))) (pa_cons (pe_fn G_reckoned hr_reckoned (by rfl) (pa_cons pe_str (pa_cons (pv 1) (pa_cons (pv 0) (pa_cons (pv 2) pa_nil))))) pa_nil))))
      (pss_cons (ps_expr (pe_bm PySem.F.plainAttrs_list PySem.F.slot_list_append PySem.F.type_list_append mt_append (pv 3) (pa_cons (pe_fn G_reckoned hr_reckoned (by rfl) (pa_cons pe_str (pa_cons (pv 0) (pa_cons (pv 1) (pa_cons (pv 2) pa_nil))))) pa_nil)))
      (pss_cons (ps_if (PW.pt (pw_or (pt_cmpR (op_neA hr.units) (pe_callB cr_sorted (by rfl) c.f_sorted boot_sorted (pa_cons (pv 3) pa_nil)) (pe_lst (pa_cons pe_int (pa_cons pe_int (pa_cons pe_int pa_nil)))) (nomark _)) (pw_or1 (pt_cmpR (op_neA hr.units) (pe_ix ix_seq (pv 3) pe_int (fun _ _ => rfl)) (pe_op op_sub pe_int (pe_fn G_truth_of hr_truth_of (by rfl) (pa_cons (pe_fn G_reckoned hr_reckoned (by rfl) (pa_cons pe_str (pa_cons (pv 0) (pa_cons (pv 1) (pa_cons (pv 2) pa_nil))))) pa_nil))) (nomark _))))) (pss_one (ps_ret pe_bl)) pss_nil)
      (pss_cons (ps_if (pt_cmpR (op_neA hr.units) (pe_fn G_truth_of hr_truth_of (by rfl) (pa_cons (pv 0) pa_nil)) (pe_fn G_reckoned hr_reckoned (by rfl) (pa_cons pe_str (pa_cons pe_int (pa_cons (pv 0) (pa_cons (pv 2) pa_nil))))) (nomark _)) (pss_one (ps_ret pe_bl)) pss_nil)
      (pss_one (ps_ret (pe_cmpR (op_eqA hr.units) (pe_fn G_top_of hr_top_of (by rfl) (pa_cons (pv 0) (pa_cons (pv 2) pa_nil))) (pe_op op_sub pe_int (pe_fn G_reckoned hr_reckoned (by rfl) (pa_cons pe_str (pa_cons (pv 0) (pa_cons (pe_op op_shl pe_int (pe_op op_sub (pv 2) pe_int)) (pa_cons (pv 2) pa_nil)))))) (nomark _)))))))), ?_⟩
    try dsimp only [cxOf, Cx.nox, Cx.wish]
    obtain ⟨x, y, w, rfl, h4, h24, hx, hy, q⟩ := h
    have h0 : Word w 0 := word_zero (by omega)
    repeat walk_at "r"
    refine w_new fun p H1 n1 s1 f1 => ?_
    repeat walk_at "r"
    refine w_chg fun H2 e2 f2 => ?_
    replace f2 : H2 p = some (.lst ([reck "<" x y w, reck "<" y x w, reck "=" x y w].map V.int)) := f2
    have s2 : Same H H2 := e2.new s1 n1
    repeat walk_at "r"
    refine ⟨p, [reck "<" x y w, reck "<" y x w, reck "=" x y w], rfl, SqL.of f2, (by show 3 < 64; decide), fun ns' p2 perm srt n2 => ?_⟩
    have e : ns' = [0, 0, 1] := by
      have h3 := sorted3 (x := x) (y := y) (w := w)
      have p3 : ns'.Perm [0, 0, 1] := by
        rcases h3 with ⟨a, b, c⟩ | ⟨a, b, c⟩ | ⟨a, b, c⟩ <;> rw [a, b, c] at perm <;> refine perm.trans ?_ <;> decide
      exact p3.eq_of_pairwise (le := fun a b : Int => decide (a ≤ b)) (by intro a b _ _ h1 h2; simp at h1 h2; omega) (by simpa using srt) (by decide)
    subst e
    have s3 : Same H2 (upd H2 p2 (.lst ([(0 : Int), 0, 1].map V.int))) := Same.one n2
    have f3 : upd H2 p2 (.lst ([(0 : Int), 0, 1].map V.int)) p2 = some (.lst ([(0 : Int), 0, 1].map V.int)) := upd_same
    generalize upd H2 p2 (.lst ([(0 : Int), 0, 1].map V.int)) = H3 at s3 f3
    repeat walk_at "r"
    refine w_new fun p4 H4 n4 s4 f4 => ?_
    replace f4 : H4 p4 = some (.lst ([(0 : Int), 0, 1].map V.int)) := f4
    refine w_neIL (SqL.of (s4.at f3)) (SqL.of f4) ?_
    repeat walk_at "r"
    refine iteNS rfl ?_
    repeat walk_at "r"
    refine ⟨_, rfl, ?_⟩
    repeat walk_at "r"
    refine iteNS (eq_xor (by omega) hx hy) ?_
    repeat walk_at "r"
    refine ⟨_, rfl, ?_⟩
    repeat walk_at "r"
    refine iteNS (truth_lt hx) ?_
    repeat walk_at "r"
    refine ⟨_, _, rfl, by omega, ?_⟩
    repeat walk_at "r"
    rw [decide_eq_true (top_lt (by omega) hx)]
    exact q _ (s2.trans (s3.trans s4))
theorem ok_law (c : Facts K mg) (G__law_bits_good : Fn P w K mg "_law_bits_good" 3 ["one", "other", "width"] spBits) (G__law_cell : Fn P w K mg "_law_cell" 1 ["script", "k"] (spCell K)) (G__law_order_good : Fn P w K mg "_law_order_good" 3 ["one", "other", "width"] spBits) (G__law_stream : Fn P w K mg "_law_stream" 1 ["cell"] spStream) (G__law_sums_good : Fn P w K mg "_law_sums_good" 4 ["one", "other", "third", "width"] spSums) (G__law_take : Fn P w K mg "_law_take" 1 ["stream", "many"] spTake) (G__law_word : Fn P w K mg "_law_word" 2 ["stream", "width"] spWord) : Fn P w K mg "law" 5 ["script"] (spLaw K) := by
  obtain ⟨fd, F⟩ := c.d_law
  refine Fn.mk' F c.g_law sc_law (fun vs H Q E h => ?_) (fun _ _ _ _ _ _ us hl => match us, hl with | [_], _ => rfl) (fun base cdv A outer s H vs Q E hr h => ?_)
  · exact len_law h
  · have nd := sc_law.nd
    have hr__law_bits_good : Room 3 _ := hr.mono (by decide)
    have hr__law_cell : Room 1 _ := hr.mono (by decide)
    have hr__law_order_good : Room 3 _ := hr.mono (by decide)
    have hr__law_stream : Room 1 _ := hr.mono (by decide)
    have hr__law_sums_good : Room 4 _ := hr.mono (by decide)
    have hr__law_take : Room 1 _ := hr.mono (by decide)
    have hr__law_word : Room 2 _ := hr.mono (by decide)
    refine ⟨_, (pss_cons (ps_for PassesOwn.never rfl (pi_range1 (by rfl) c.f_range (pa_cons (pe_callB (call_max2A rfl) (by rfl) c.f_max boot_max (pa_cons pe_int (pa_cons (pe_callB (call_min2A rfl) (by rfl) c.f_min boot_min (pa_cons (pe_callB call_lenA (by rfl) c.f_len boot_len (pa_cons (pv 0) pa_nil)) (pa_cons pe_int pa_nil))) pa_nil))) pa_nil)) (pg_name (i := 1) nd rfl (Or.inl rfl)) (pss_cons (ps_set (i := 2) nd rfl (Or.inr rfl) (pe_fn G__law_stream hr__law_stream (by rfl) (pa_cons (pe_fn G__law_cell hr__law_cell (by rfl) (pa_cons (pv 0) (pa_cons (pv 1) pa_nil))) pa_nil)))
      (pss_cons (ps_set (i := 3) nd rfl (Or.inr rfl) (pe_op op_addA pe_int (pe_fn G__law_take hr__law_take (by rfl) (pa_cons (pv 2) (pa_cons pe_int pa_nil)))))
      (pss_cons (ps_setLc (i := 4) (own := [("j", 8)]) rfl nd rfl rfl (sw_true rfl rfl rfl (by decide +kernel)) (pi_range1 (by rfl) c.f_range (pa_cons pe_int pa_nil)) (blkOk_by (N := N_law) (sc := defScope s_law) (by decide +kernel)) (fun _ _ _ _ _ => (pg_name (i := 8) nd rfl (Or.inl rfl))) (fun _ _ _ _ _ => pts_nil) (fun _ _ _ _ _ => (pe_fn G__law_word hr__law_word (by rfl) (pa_cons (pv 2) (pa_cons (pv 3) pa_nil)))))
      (pss_cons (ps_if (pt_cmpR (op_eqA hr.units) (pe_fn G__law_take hr__law_take (by rfl) (pa_cons (pv 2) (pa_cons pe_int pa_nil))) pe_int (nomark _)) (pss_one (ps_asg (pe_ix ix_seq (pv 4) pe_int (fun _ _ => rfl)) (pg_sub (pv 4) pe_int set_list))) pss_nil)
      (pss_cons (ps_asg (pv 4) (pg_seq rfl (pgs_cons (pg_name (i := 5) nd rfl (Or.inl rfl)) (pgs_cons (pg_name (i := 6) nd rfl (Or.inl rfl)) (pgs_cons (pg_name (i := 7) nd rfl (Or.inl rfl)) pgs_nil)))))
      (pss_cons (ps_if (PW.pt (pw_or (pt_not (pt_val (pe_fn G__law_sums_good hr__law_sums_good (by rfl) (pa_cons (pv 5) (pa_cons (pv 6) (pa_cons (pv 7) (pa_cons (pv 3) pa_nil))))))) (pw_or1 (pt_not (pt_val (pe_fn G__law_bits_good hr__law_bits_good (by rfl) (pa_cons (pv 5) (pa_cons (pv 6) (pa_cons (pv 3) pa_nil))))))))) (pss_one (ps_ret pe_bl)) pss_nil)
      (pss_one (ps_if (PW.pt (pw_or (pt_not (pt_val (pe_fn G__law_order_good hr__law_order_good (by rfl) (pa_cons (pv 5) (pa_cons (pv 6) (pa_cons (pv 3) pa_nil)))))) (pw_or1 (pt_not (pt_val (pe_fn G__law_order_good hr__law_order_good (by rfl) (pa_cons (pv 7) (pa_cons (pv 6) (pa_cons (pv 3) pa_nil))))))))) (pss_one (ps_ret pe_bl)) pss_nil)))))))))
      (pss_one (ps_ret pe_bl))), ?_⟩
    try dsimp only [cxOf, Cx.nox, Cx.wish]
    obtain ⟨a, ns, rfl, hS, hlen, q⟩ := h
    repeat walk_at "r"
    refine fl_rng1 (fun i σ H' => ∃ v1 v2 v3 v4 v5 v6 v7, σ = [some (.ref a), v1, v2, v3, v4, v5, v6, v7, none] ∧ Same H H') (by rw [List.length_map]; omega) (by omega) ⟨none, none, none, none, none, none, none, rfl, Same.refl _⟩
      (fun i σ H1 hi ⟨v1, v2, v3, v4, v5, v6, v7, e, sm⟩ => ?_) (fun σ H1 ⟨v1, v2, v3, v4, v5, v6, v7, e, sm⟩ => ?_)
    · subst e
      repeat walk_at "r"
      refine ⟨a, ns, _, rfl, sm.sqL hS, by omega, fun c => ?_⟩
      repeat walk_at "r"
      refine ⟨c, rfl, fun s H2 s2 n2 hs2 => ?_⟩
      repeat walk_at "r"
      refine ⟨s, 21, rfl, hs2, by decide, by decide, fun d H3 d0 d1 hs3 e3 => ?_⟩
      repeat walk_at "r"
      have s3 : Same H1 H3 := e3.new s2 n2
      have h4 : 4 ≤ 4 + d := by omega
      have h24 : 4 + d ≤ 24 := by omega
      generalize 4 + d = w at h4 h24
      refine lc_R1 (j := 8) (fun D i ys H' => Same H1 H' ∧ Stm H' s ∧ ys.length = i ∧ ∀ y ∈ ys, ∃ x, y = .int x ∧ Word w x) (by decide) (by decide) (fun D H' n s' f => ⟨s3.trans s', s'.stm hs3, rfl, fun y hy => by cases hy⟩)
        (fun D nD i' ys H4 hi' hl hD ⟨s4, hs4, el, hy⟩ => ?_) (fun D nD ys H4 hl hD ⟨s4, hs4, el, hy⟩ => ?_)
      · have nsD : s ≠ D := by
          obtain ⟨_, _, _, z⟩ := hs3
          exact ne_of_none z nD
        have hlt : i' < 3 := hi'
        repeat walk_at "r"
        refine ⟨s, w, rfl, hs4, h4, h24, fun x H5 hx hs5 e5 => ?_⟩
        refine lc_end (e5.at nsD.symm hD) hl (by rw [sizeLine_eq]; omega) fun H6 e6 f6 => ?_
        exact ⟨e6.new (e5.new s4 n2) (s3.back nD), e6.stm nsD hs5, by rw [List.length_append, el]; rfl, fun y hy' => by
          rcases List.mem_append.mp hy' with h | h
          · exact hy y h
          · rw [List.mem_singleton] at h; exact ⟨x, h, hx⟩⟩
      · obtain ⟨x, y, z, rfl, hx, hy', hz⟩ : ∃ x y z : Int, ys = [.int x, .int y, .int z] ∧ Word w x ∧ Word w y ∧ Word w z := by
          match ys, el, hy with
          | [a1, a2, a3], _, hy =>
            obtain ⟨x, rfl, hx⟩ := hy _ (.head _)
            obtain ⟨y, rfl, hy'⟩ := hy _ (.tail _ (.head _))
            obtain ⟨z, rfl, hz⟩ := hy _ (.tail _ (.tail _ (.head _)))
            exact ⟨x, y, z, rfl, hx, hy', hz⟩
        have nsD : s ≠ D := by
          obtain ⟨_, _, _, z⟩ := hs3
          exact ne_of_none z nD
        have nD1 : H1 D = none := s3.back nD
        repeat walk_at "r"
        refine ⟨s, 4, rfl, hs4, by decide, by decide, fun d2 H5 d20 d21 hs5 e5 => ?_⟩
        have s5 : Same H1 H5 := e5.new s4 n2
        have hD5 := e5.at nsD.symm hD
        repeat walk_at "r"
        refine ite2 (fun hk => ?_) (fun hk => ?_)
        · repeat walk_at "r"
          refine w_chg fun H6 e6 f6 => ?_
          replace f6 : H6 D = some (.lst [.int x, .int x, .int z]) := f6
          have s6 : Same H1 H6 := e6.new s5 nD1
          repeat walk_at "r"
          refine ⟨x, x, z, w, rfl, h4, h24, hx, hx, hz, fun H7 s7 => ?_⟩
          repeat walk_at "r"
          refine ⟨x, x, w, rfl, h4, h24, hx, hx, fun H8 s8 => ?_⟩
          repeat walk_at "r"
          refine ⟨x, x, w, rfl, h4, h24, hx, hx, fun H9 s9 => ?_⟩
          repeat walk_at "r"
          refine ⟨z, x, w, rfl, h4, h24, hz, hx, fun H10 s10 => ?_⟩
          repeat walk_at "r"
          exact ⟨_, _, _, _, _, _, _, rfl, sm.trans (s6.trans (s7.trans (s8.trans (s9.trans s10))))⟩
        · repeat walk_at "r"
          refine ⟨x, y, z, w, rfl, h4, h24, hx, hy', hz, fun H7 s7 => ?_⟩
          repeat walk_at "r"
          refine ⟨x, y, w, rfl, h4, h24, hx, hy', fun H8 s8 => ?_⟩
          repeat walk_at "r"
          refine ⟨x, y, w, rfl, h4, h24, hx, hy', fun H9 s9 => ?_⟩
          repeat walk_at "r"
          refine ⟨z, y, w, rfl, h4, h24, hz, hy', fun H10 s10 => ?_⟩
          repeat walk_at "r"
          exact ⟨_, _, _, _, _, _, _, rfl, sm.trans (s5.trans (s7.trans (s8.trans (s9.trans s10))))⟩
    · subst e
      repeat walk_at "r"
      exact q _
end

end J
namespace J
open PySem PySem.Spec PyProof.Rows L2
def loose0 : List PySem.Str := ["truth_of", "top_of", "told_by_bits", "reckoned", "_law_cell", "_law_stream", "_law_take", "_law_word", "_law_all", "_law_sums_good", "_law_bits_good", "_law_order_good"]
def loose : List PySem.Str := loose0
theorem all_ok {P : Program} {w : World} {K : PySem.W.Frag} {mg : Str → Option Value} (c : Facts K mg) : Fn P w K mg "law" 5 ["script"] (spLaw K) := by
  have G_told_by_bits := ok_told_by_bits (P := P) (w := w) c
  have G_reckoned := ok_reckoned (P := P) (w := w) c G_told_by_bits
  have G_top_of := ok_top_of (P := P) (w := w) c
  have G__law_bits_good := ok_law_bits_good (P := P) (w := w) c G_reckoned G_top_of
  have G__law_cell := ok_law_cell (P := P) (w := w) c
  have G_truth_of := ok_truth_of (P := P) (w := w) c
  have G__law_order_good := ok_law_order_good (P := P) (w := w) c G_reckoned G_top_of G_truth_of
  have G__law_stream := ok_law_stream (P := P) (w := w) c
  have G__law_all := ok_law_all (P := P) (w := w) c G_reckoned
  have G__law_sums_good := ok_law_sums_good (P := P) (w := w) c G__law_all G_reckoned
  have G__law_take := ok_law_take (P := P) (w := w) c
  have G__law_word := ok_law_word (P := P) (w := w) c G__law_take
  have G_law := ok_law (P := P) (w := w) c G__law_bits_good G__law_cell G__law_order_good G__law_stream G__law_sums_good G__law_take G__law_word
  exact G_law
abbrev rowR : PySem.W.OpenRow := PySem.W.OpenLaw.row PySem.Challenge.rw_rowsjoined_k03_sums_together
abbrev hk : PySem.W.Hook := He.hookD 4 fa fn
def ob (s : PySem.W.SharedT) : He.AlD := He.obsDG 4 fa fn (HandSHeadRun.getT s)
theorem ob_eq (s : PySem.W.SharedT) : ob s = hk.obs s.abs := He.obsDG_eq (HandSHeadRun.getT_eq s)
theorem run (w : World) : HandSHeadRun.RunEq rowR (PySem.W.view rowR.prog [14]) hk ob 4000 loose w := by
  intro os
  kernel_rfl
theorem heldF {P : Program} {w : World} {K : PySem.W.Frag} {h : Heap} {mg : Str → Option Value} {f : Addr} (X : K.In h) (G : h.Ns mainGlobals mg) (hfa : mg ("law" : Str) = some (.ref f)) (c : He.SaysD fa fn K) :
    ∃ fd : FuncData, (∀ (s : Shared) (v : Value), BindsTo s fd ⟨[v], []⟩ [("script", v)]) ∧ ∀ base : Heap, K.In base → base.Ns mainGlobals mg → FnOk P w K mg base CX0 5 f fd ["script"] (spLaw K) := by
  have C := facts_of X G c
  have e := hfa.symm.trans C.g_law
  cases e
  obtain ⟨fd, h1, _, h3⟩ := (all_ok (P := P) (w := w) C).ex
  exact ⟨fd, fun s v => h3 s [v] rfl, fun base _ _ => h1 base⟩
end J
open PySem PySem.W PySem.Calls PyProof.Rows
theorem PySem.Challenge.cw_rowsjoined_k03_sums_together_holds : PySem.Challenge.rw_rowsjoined_k03_sums_together.Holds := by
  w_on; o_law
  refine HandSHeadRun.head_any (r := J.rowR) (q := view J.rowR.prog [14]) (H := J.hk) (ob := J.ob) (M := 4000) (loose := J.loose) (d := HandSHeadRun.topDef J.rowR.prog 14) (kwd := []) J.ob_eq
    (by kernel_rfl) (fun s => by kernel_rfl) J.run (by kernel_rfl) (by kernel_rfl) (by kernel_rfl) (by rfl) (by first | assumption | decide +kernel) (by decide +kernel) ⟨rfl, rfl, rfl, rfl, rfl, by decide +kernel⟩ ?hw ?hc
  case hw => w_witness2
  case hc =>
    refine L2.walk_ofE (l := PySem.Challenge.rw_rowsjoined_k03_sums_together) (n := 63) (k := 5) (x := "script") (CX := L2.CX0) rfl (by decide) (by kernel_rfl) ⟨rfl, by decide, by decide⟩ ?F (fun _ _ _ _ z => z)
    intro w mg fa h Y G hmg0
    obtain ⟨K, KX, c⟩ := Y
    have hmg : mg ("law" : PySem.Str) = some (.ref fa) := by
      have e : (HandSHeadRun.topDef J.rowR.prog 14).name = ("law" : PySem.Str) := by kernel_rfl
      rw [← e]
      exact hmg0
    obtain ⟨fd, hb, hF⟩ := J.heldF (P := (PySem.Challenge.rw_rowsjoined_k03_sums_together).prog) (w := w) KX G hmg c
    exact ⟨K, fd, _, KX, hb, fun H a ns hl hO hS => J.law_in hl hO hS, hF⟩
