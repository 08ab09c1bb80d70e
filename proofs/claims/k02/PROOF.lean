import PyProof.Rows.All
import Wide.All
import OpenK.AllK
import Wide.FinOn
import HandS.ForMost
import HandS.ForExc
import HandS.Wide
import HandS.Flow
import HandS.Evl
import HandS.Conv
import HandS.IsInst
import KE.SortData
import KE.DatumMoreOrd
import KE.DatumIndex
import HandS.Walk
import HandS.TupSets
import HandS.TryOnly
import HandS.Codes
import HandS.Dict
import HandS.TupLe
import HandS.List
import KE.KDictPairs
import HandS.Exc
import HandS.ExcIs
import HandS.ExcValue
import PyProof.Rows.CountFlat
import PySem.Challenge.RW_everyseat_k02_no_tree
set_option Elab.async false
set_option linter.all false
set_option maxRecDepth 100000
set_option maxHeartbeats 4000000
/-! My own layer over HandS: mirrors in an error monad, represented data, owned cells. -/
namespace PG
open PySem L2

/-! ### the mirrors' monad -/
inductive Er where
  | bad
  | exc (n : String)
  deriving DecidableEq
abbrev M := Except Er
def wp {a : Type} (m : M a) (Q : a → Prop) (E : String → Prop) : Prop :=
  match m with
  | .ok x => Q x
  | .error .bad => False
  | .error (.exc n) => E n
section
variable {a b : Type} {Q : a → Prop} {R : b → Prop} {E E' : String → Prop}
theorem wp_ok {x : a} : wp (Except.ok x : M a) Q E = Q x := rfl
theorem wp_pure {x : a} : wp (pure x : M a) Q E = Q x := rfl
theorem wp_bind {m : M b} {k : b → M a} : wp (m >>= k) Q E ↔ wp m (fun x => wp (k x) Q E) E := by
  cases m with
  | ok x => exact Iff.rfl
  | error e => cases e <;> exact Iff.rfl
theorem wp_call {m : M b} {k : b → M a} {E1 : String → Prop} (h : wp (m >>= k) Q E) (hr : ∀ r, m = .ok r → wp (k r) Q E → R r) (he : ∀ n, E n → E1 n) : wp m R E1 := by
  cases m with
  | ok x => exact hr x rfl h
  | error e =>
    cases e with
    | bad => exact h
    | exc n => exact he n h
/-- the last call of a def -/
theorem wp_tail {m : M a} {E1 : String → Prop} {R : a → Prop} (h : wp m Q E) (hr : ∀ r, m = .ok r → Q r → R r) (he : ∀ n, E n → E1 n) : wp m R E1 := by
  cases m with
  | ok x => exact hr x rfl h
  | error e =>
    cases e with
    | bad => exact h
    | exc n => exact he n h
def bad : M a := .error .bad
def raise (n : String) : M a := .error (.exc n)
theorem wp_bad {P : Prop} (h : wp (bad : M a) Q E) : P := h.elim
/-- a guard -/
@[irreducible] def chk (c : Prop) [Decidable c] : M Unit := if c then .ok () else bad
theorem wp_chk {c : Prop} [Decidable c] {k : Unit → M a} (h : wp (chk c >>= k) Q E) : c ∧ wp (k ()) Q E := by
  unfold chk at h
  by_cases hc : c
  · rw [if_pos hc] at h
    exact ⟨hc, h⟩
  · rw [if_neg hc] at h
    exact h.elim
/-- something that is there -/
def opt (o : Option b) : M b := match o with
  | some x => .ok x
  | none => bad
theorem wp_opt {o : Option b} {k : b → M a} (h : wp (opt o >>= k) Q E) : ∃ x, o = some x ∧ wp (k x) Q E := by
  cases o with
  | none => exact h.elim
  | some x => exact ⟨x, rfl, h⟩
/-- no exception leaves -/
def nox (m : M a) : M a := match m with
  | .ok x => .ok x
  | .error _ => bad
theorem wp_nox {m : M b} {k : b → M a} (h : wp (nox m >>= k) Q E) : ∃ x, m = .ok x ∧ wp (k x) Q E := by
  cases m with
  | ok x => exact ⟨x, rfl, h⟩
  | error e => exact h.elim
theorem wp_of_ok {m : M b} {x : b} (e : m = .ok x) (h : R x) : wp m R E := by
  rw [e]
  exact h
theorem wp_ite {c : Prop} [Decidable c] {x y : M a} (h : wp (if c then x else y) Q E) : (c → wp x Q E) ∧ (¬ c → wp y Q E) := by
  by_cases hc : c
  · rw [if_pos hc] at h
    exact ⟨fun _ => h, fun n => (n hc).elim⟩
  · rw [if_neg hc] at h
    exact ⟨fun p => (hc p).elim, fun _ => h⟩
end

/-! ### loops -/
/-- a turn's end: on to the next, or the def's return -/
inductive Fl (s r : Type) where
  | nx (x : s)
  | rt (x : r)
section
variable {i s r a : Type}
def loopM (b : i → s → M (Fl s r)) : List i → s → M (Fl s r)
  | [], x => .ok (.nx x)
  | y :: ys, x => b y x >>= fun
    | .nx x' => loopM b ys x'
    | .rt z => .ok (.rt z)
/-- a loop without return -/
def loopN (b : i → s → M s) : List i → s → M s
  | [], x => .ok x
  | y :: ys, x => b y x >>= fun x' => loopN b ys x'
def whileM (c : s → M Bool) (b : s → M (Fl s r)) : Nat → s → M (Fl s r)
  | 0, _ => bad
  | n + 1, x => c x >>= fun t => if t = true then b x >>= fun
      | .nx x' => whileM c b n x'
      | .rt z => .ok (.rt z)
    else .ok (.nx x)
def whileN (c : s → M Bool) (b : s → M s) : Nat → s → M s
  | 0, _ => bad
  | n + 1, x => c x >>= fun t => if t = true then b x >>= fun x' => whileN c b n x' else .ok x
/-- a comprehension: f gives an element, or none where the test fails -/
def compN (b : i → s → M (Option a × s)) : List i → s → M (List a × s)
  | [], x => .ok ([], x)
  | y :: ys, x => b y x >>= fun p => compN b ys p.2 >>= fun q => .ok (match p.1 with
    | some z => z :: q.1
    | none => q.1, q.2)
/-- .. that changes nothing -/
def compM (b : i → M (Option a)) : List i → M (List a)
  | [] => .ok []
  | y :: ys => b y >>= fun p => compM b ys >>= fun q => .ok (match p with
    | some z => z :: q
    | none => q)
end

/-! ### what a value stands for -/
open PySem.W (T3 T4 Datum DatumOrd)
mutual
inductive Rep (H : Hp) : V → PyData → Prop
  | non : Rep H .non .none
  | bl (b : Bool) : Rep H (.bl b) (.bool b)
  | int (i : Int) : Rep H (.int i) (.int i)
  | str (x : Str) : Rep H (.str x) (.str x)
  | lst {a : Addr} {xs : List V} {ds : List PyData} : H a = some (.lst xs) → RepA H xs ds → Rep H (.ref a) (.list ds)
  | tup {a : Addr} {xs : List V} {ds : List PyData} : H a = some (.tup xs) → RepA H xs ds → Rep H (.ref a) (.tuple ds)
inductive RepA (H : Hp) : List V → List PyData → Prop
  | nil : RepA H [] []
  | cons {v : V} {vs : List V} {d : PyData} {ds : List PyData} : Rep H v d → RepA H vs ds → RepA H (v :: vs) (d :: ds)
end
mutual
theorem Rep.mono {H H' : Hp} (s : Same H H') : ∀ (d : PyData) (v : V), Rep H v d → Rep H' v d
  | .none, _, h => by cases h; exact .non
  | .bool _, _, h => by cases h; exact .bl _
  | .int _, _, h => by cases h; exact .int _
  | .str _, _, h => by cases h; exact .str _
  | .list ds, _, h => by
    cases h with
    | lst ha hs => exact .lst (s _ _ ha) (RepA.mono s ds _ hs)
  | .tuple ds, _, h => by
    cases h with
    | tup ha hs => exact .tup (s _ _ ha) (RepA.mono s ds _ hs)
  | .dict _, _, h => by cases h
theorem RepA.mono {H H' : Hp} (s : Same H H') : ∀ (ds : List PyData) (vs : List V), RepA H vs ds → RepA H' vs ds
  | [], _, h => by cases h; exact .nil
  | d :: ds, _, h => by
    cases h with
    | cons h1 h2 => exact .cons (Rep.mono s d _ h1) (RepA.mono s ds _ h2)
end
mutual
theorem Rep.dp {K : PySem.W.Frag} {H : Hp} : ∀ (d : PyData) (v : V), Rep H v d → Dp K H v d
  | .none, _, h => by cases h; exact .non
  | .bool _, _, h => by cases h; exact .bl _
  | .int _, _, h => by cases h; exact .int _
  | .str _, _, h => by cases h; exact .str _
  | .list ds, _, h => by
    cases h with
    | lst ha hs => exact .lst (SqL.of ha) (RepA.dp ds _ hs)
  | .tuple ds, _, h => by
    cases h with
    | tup ha hs => exact .tup (SqT.of ha) (RepA.dp ds _ hs)
  | .dict _, _, h => by cases h
theorem RepA.dp {K : PySem.W.Frag} {H : Hp} : ∀ (ds : List PyData) (vs : List V), RepA H vs ds → DpAll K H vs ds
  | [], _, h => by cases h; exact .nil
  | d :: ds, _, h => by
    cases h with
    | cons h1 h2 => exact .cons (Rep.dp d _ h1) (RepA.dp ds _ h2)
end

/-- a Lean type whose values are Python's data -/
class Py (a : Type) where
  toD : a → PyData
instance : Py Int := ⟨.int⟩
instance : Py Bool := ⟨.bool⟩
instance : Py Str := ⟨.str⟩
instance : Py Unit := ⟨fun _ => .none⟩
instance {a : Type} [Py a] : Py (List a) := ⟨fun xs => .list (xs.map Py.toD)⟩
instance {a b : Type} [Py a] [Py b] : Py (a × b) := ⟨fun p => .tuple [Py.toD p.1, Py.toD p.2]⟩
instance {a b c : Type} [Py a] [Py b] [Py c] : Py (T3 a b c) := ⟨fun p => .tuple [Py.toD p.a, Py.toD p.b, Py.toD p.c]⟩
instance {a b c d : Type} [Py a] [Py b] [Py c] [Py d] : Py (T4 a b c d) := ⟨fun p => .tuple [Py.toD p.a, Py.toD p.b, Py.toD p.c, Py.toD p.d]⟩
instance {a : Type} [Py a] : Py (Option a) := ⟨fun o => match o with
  | none => .none
  | some x => Py.toD x⟩
class IsD (a : Type) [Py a] [DecidableEq a] [Datum a] : Prop where
  eq : ∀ x : a, Py.toD x = Datum.toD x
instance : IsD Int := ⟨fun _ => rfl⟩
instance : IsD Bool := ⟨fun _ => rfl⟩
instance : IsD Str := ⟨fun _ => rfl⟩
instance : IsD Unit := ⟨fun _ => rfl⟩
section
variable {a b c d : Type} [Py a] [DecidableEq a] [Datum a] [IsD a] [Py b] [DecidableEq b] [Datum b] [IsD b] [Py c] [DecidableEq c] [Datum c] [IsD c] [Py d] [DecidableEq d] [Datum d] [IsD d]
theorem map_toD (xs : List a) : xs.map (Py.toD : a → PyData) = xs.map Datum.toD := List.map_congr_left fun x _ => IsD.eq x
instance : IsD (List a) := ⟨fun xs => congrArg PyData.list (map_toD xs)⟩
instance : IsD (a × b) := ⟨fun p => by show PyData.tuple [_, _] = PyData.tuple [_, _]; rw [IsD.eq, IsD.eq]⟩
instance : IsD (T3 a b c) := ⟨fun p => by show PyData.tuple [_, _, _] = PyData.tuple [_, _, _]; rw [IsD.eq, IsD.eq, IsD.eq]⟩
instance : IsD (T4 a b c d) := ⟨fun p => by show PyData.tuple [_, _, _, _] = PyData.tuple [_, _, _, _]; rw [IsD.eq, IsD.eq, IsD.eq, IsD.eq]⟩
instance [PySem.W.SomeDatum a] : IsD (Option a) := ⟨fun o => by
  cases o with
  | none => rfl
  | some x => exact IsD.eq x⟩
end

/-- v stands for x -/
def R {a : Type} [Py a] (H : Hp) (v : V) (x : a) : Prop := Rep H v (Py.toD x)
/-- item by item -/
def RL {a : Type} [Py a] (H : Hp) (vs : List V) (xs : List a) : Prop := RepA H vs (xs.map Py.toD)
section
variable {H H' : Hp} {v : V} {vs : List V} {p q : Addr}
theorem R.mono {a : Type} [Py a] {x : a} (h : R H v x) (s : Same H H') : R H' v x := Rep.mono s _ _ h
theorem RL.mono {a : Type} [Py a] {xs : List a} (h : RL H vs xs) (s : Same H H') : RL H' vs xs := RepA.mono s _ _ h
theorem R.int {i : Int} : R H (.int i) i := Rep.int i
theorem R.bl {b : Bool} : R H (.bl b) b := Rep.bl b
theorem R.str {x : Str} : R H (.str x) x := Rep.str x
theorem R.unit {u : Unit} : R H .non u := Rep.non
theorem R.non {a : Type} [Py a] : R H .non (none : Option a) := Rep.non
theorem R.jst {a : Type} [Py a] {x : a} (h : R H v x) : R H v (some x) := h
theorem R.int_ {i : Int} (h : R H v i) : v = .int i := by cases h; rfl
theorem R.bl_ {b : Bool} (h : R H v b) : v = .bl b := by cases h; rfl
theorem R.str_ {x : Str} (h : R H v x) : v = .str x := by cases h; rfl
theorem R.unit_ {u : Unit} (h : R H v u) : v = .non := by cases h; rfl
theorem R.non_ {a : Type} [Py a] (h : R H v (none : Option a)) : v = .non := by cases h; rfl
theorem R.jst_ {a : Type} [Py a] {x : a} (h : R H v (some x)) : R H v x := h
variable {a b c d : Type} [Py a] [Py b] [Py c] [Py d]
theorem R.lst {xs : List a} (ha : H p = some (.lst vs)) (h : RL H vs xs) : R H (.ref p) xs := Rep.lst ha h
theorem R.lst_ {xs : List a} (h : R H v xs) : ∃ p vs, v = .ref p ∧ H p = some (.lst vs) ∧ RL H vs xs := by
  have h' : Rep H v (.list (xs.map Py.toD)) := h
  cases h' with
  | lst ha hs => exact ⟨_, _, rfl, ha, hs⟩
theorem R.t2 {x : a × b} {v1 v2 : V} (ha : H p = some (.tup [v1, v2])) (h1 : R H v1 x.1) (h2 : R H v2 x.2) : R H (.ref p) x := Rep.tup ha (.cons h1 (.cons h2 .nil))
theorem R.t2_ {x : a × b} (h : R H v x) : ∃ p v1 v2, v = .ref p ∧ H p = some (.tup [v1, v2]) ∧ R H v1 x.1 ∧ R H v2 x.2 := by
  have h' : Rep H v (.tuple [_, _]) := h
  cases h' with
  | tup ha hs =>
    cases hs with
    | cons h1 hs =>
      cases hs with
      | cons h2 hs =>
        cases hs
        exact ⟨_, _, _, rfl, ha, h1, h2⟩
theorem R.t3 {x : T3 a b c} {v1 v2 v3 : V} (ha : H p = some (.tup [v1, v2, v3])) (h1 : R H v1 x.a) (h2 : R H v2 x.b) (h3 : R H v3 x.c) : R H (.ref p) x := Rep.tup ha (.cons h1 (.cons h2 (.cons h3 .nil)))
theorem R.t3_ {x : T3 a b c} (h : R H v x) : ∃ p v1 v2 v3, v = .ref p ∧ H p = some (.tup [v1, v2, v3]) ∧ R H v1 x.a ∧ R H v2 x.b ∧ R H v3 x.c := by
  have h' : Rep H v (.tuple [_, _, _]) := h
  cases h' with
  | tup ha hs =>
    cases hs with
    | cons h1 hs =>
      cases hs with
      | cons h2 hs =>
        cases hs with
        | cons h3 hs =>
          cases hs
          exact ⟨_, _, _, _, rfl, ha, h1, h2, h3⟩
theorem R.t4 {x : T4 a b c d} {v1 v2 v3 v4 : V} (ha : H p = some (.tup [v1, v2, v3, v4])) (h1 : R H v1 x.a) (h2 : R H v2 x.b) (h3 : R H v3 x.c) (h4 : R H v4 x.d) : R H (.ref p) x :=
  Rep.tup ha (.cons h1 (.cons h2 (.cons h3 (.cons h4 .nil))))
theorem R.t4_ {x : T4 a b c d} (h : R H v x) : ∃ p v1 v2 v3 v4, v = .ref p ∧ H p = some (.tup [v1, v2, v3, v4]) ∧ R H v1 x.a ∧ R H v2 x.b ∧ R H v3 x.c ∧ R H v4 x.d := by
  have h' : Rep H v (.tuple [_, _, _, _]) := h
  cases h' with
  | tup ha hs =>
    cases hs with
    | cons h1 hs =>
      cases hs with
      | cons h2 hs =>
        cases hs with
        | cons h3 hs =>
          cases hs with
          | cons h4 hs =>
            cases hs
            exact ⟨_, _, _, _, _, rfl, ha, h1, h2, h3, h4⟩
theorem RL.nil : RL H [] ([] : List a) := RepA.nil
theorem RL.cons {x : a} {xs : List a} (h : R H v x) (hs : RL H vs xs) : RL H (v :: vs) (x :: xs) := RepA.cons h hs
theorem RL.cons_ {x : a} {xs : List a} (h : RL H vs (x :: xs)) : ∃ w ws, vs = w :: ws ∧ R H w x ∧ RL H ws xs := by
  have h' : RepA H vs (Py.toD x :: xs.map Py.toD) := h
  cases h' with
  | cons h1 h2 => exact ⟨_, _, rfl, h1, h2⟩
theorem RL.nil_ (h : RL H vs ([] : List a)) : vs = [] := by
  have h' : RepA H vs [] := h
  cases h'
  rfl
theorem RL.len : ∀ {vs : List V} {xs : List a}, RL H vs xs → vs.length = xs.length
  | _, [], h => by rw [RL.nil_ h]; rfl
  | _, x :: xs, h => by
    obtain ⟨w, ws, rfl, _, h2⟩ := RL.cons_ h
    rw [List.length_cons, List.length_cons, RL.len h2]
theorem RL.app : ∀ {vs ws : List V} {xs ys : List a}, RL H vs xs → RL H ws ys → RL H (vs ++ ws) (xs ++ ys)
  | _, _, [], _, h, k => by rw [RL.nil_ h]; exact k
  | _, _, x :: xs, _, h, k => by
    obtain ⟨w, ws', rfl, h1, h2⟩ := RL.cons_ h
    exact RL.cons h1 (RL.app h2 k)
theorem RL.snoc {x : a} {xs : List a} (h : RL H vs xs) (k : R H v x) : RL H (vs ++ [v]) (xs ++ [x]) := RL.app h (RL.cons k RL.nil)
theorem RL.get : ∀ {vs : List V} {xs : List a}, RL H vs xs → ∀ {i : Nat} {x : a}, xs[i]? = some x → ∃ w, vs[i]? = some w ∧ R H w x
  | _, [], _, i, x, e => by simp at e
  | _, y :: ys, h, i, x, e => by
    obtain ⟨w, ws, rfl, h1, h2⟩ := RL.cons_ h
    cases i with
    | zero =>
      cases (Option.some.inj e : y = x)
      exact ⟨w, rfl, h1⟩
    | succ i => exact RL.get h2 (i := i) (by simpa using e)
theorem RL.got : ∀ {vs : List V} {xs : List a}, RL H vs xs → ∀ {i : Nat} {w : V}, vs[i]? = some w → ∃ x, xs[i]? = some x ∧ R H w x
  | _, [], h, i, w, e => by rw [RL.nil_ h] at e; simp at e
  | _, y :: ys, h, i, w, e => by
    obtain ⟨w', ws, rfl, h1, h2⟩ := RL.cons_ h
    cases i with
    | zero =>
      cases (Option.some.inj e : w' = w)
      exact ⟨y, rfl, h1⟩
    | succ i => exact RL.got h2 (i := i) (by simpa using e)
theorem RL.atI {xs : List a} (h : RL H vs xs) {i : Int} {x : a} (e : L2.atI xs i = some x) : ∃ w, L2.atI vs i = some w ∧ R H w x := by
  unfold L2.atI at e ⊢
  rw [h.len]
  cases q : ixN xs.length i with
  | none => rw [q] at e; cases e
  | some j =>
    rw [q] at e
    exact h.get e
theorem RL.take : ∀ {vs : List V} {xs : List a} (n : Nat), RL H vs xs → RL H (vs.take n) (xs.take n)
  | _, _, 0, _ => RL.nil
  | _, [], n + 1, h => by rw [RL.nil_ h]; exact RL.nil
  | _, x :: xs, n + 1, h => by
    obtain ⟨w, ws, rfl, h1, h2⟩ := RL.cons_ h
    exact RL.cons h1 (RL.take n h2)
theorem RL.drop : ∀ {vs : List V} {xs : List a} (n : Nat), RL H vs xs → RL H (vs.drop n) (xs.drop n)
  | _, _, 0, h => h
  | _, [], n + 1, h => by rw [RL.nil_ h]; exact RL.nil
  | _, x :: xs, n + 1, h => by
    obtain ⟨w, ws, rfl, h1, h2⟩ := RL.cons_ h
    exact RL.drop n h2
theorem RL.set : ∀ {vs : List V} {xs : List a} (n : Nat) {w : V} {y : a}, RL H vs xs → R H w y → RL H (vs.set n w) (xs.set n y)
  | _, [], n, _, _, h, _ => by rw [RL.nil_ h]; exact RL.nil
  | _, x :: xs, 0, _, _, h, k => by
    obtain ⟨w, ws, rfl, h1, h2⟩ := RL.cons_ h
    exact RL.cons k h2
  | _, x :: xs, n + 1, _, _, h, k => by
    obtain ⟨w, ws, rfl, h1, h2⟩ := RL.cons_ h
    exact RL.cons h1 (RL.set n h2 k)
theorem RL.erase : ∀ {vs : List V} {xs : List a} (n : Nat), RL H vs xs → RL H (vs.eraseIdx n) (xs.eraseIdx n)
  | _, [], n, h => by rw [RL.nil_ h]; exact RL.nil
  | _, x :: xs, 0, h => by
    obtain ⟨w, ws, rfl, h1, h2⟩ := RL.cons_ h
    exact h2
  | _, x :: xs, n + 1, h => by
    obtain ⟨w, ws, rfl, h1, h2⟩ := RL.cons_ h
    exact RL.cons h1 (RL.erase n h2)
theorem RL.dropLast : ∀ {vs : List V} {xs : List a}, RL H vs xs → RL H vs.dropLast xs.dropLast
  | _, [], h => by rw [RL.nil_ h]; exact RL.nil
  | _, x :: xs, h => by
    obtain ⟨w, ws, rfl, h1, h2⟩ := RL.cons_ h
    cases xs with
    | nil => rw [RL.nil_ h2]; exact RL.nil
    | cons y ys =>
      obtain ⟨w2, ws2, rfl, _, _⟩ := RL.cons_ h2
      exact RL.cons h1 (RL.dropLast h2)
theorem RL.rev : ∀ {vs : List V} {xs : List a}, RL H vs xs → RL H vs.reverse xs.reverse
  | _, [], h => by rw [RL.nil_ h]; exact RL.nil
  | _, x :: xs, h => by
    obtain ⟨w, ws, rfl, h1, h2⟩ := RL.cons_ h
    rw [List.reverse_cons, List.reverse_cons]
    exact RL.snoc (RL.rev h2) h1
theorem RL.ints : ∀ {vs : List V} {xs : List Int}, RL H vs xs → vs = xs.map V.int
  | _, [], h => RL.nil_ h
  | _, x :: xs, h => by
    obtain ⟨w, ws, rfl, h1, h2⟩ := RL.cons_ h
    rw [R.int_ h1, RL.ints h2]
    rfl
theorem RL.of_ints : ∀ {xs : List Int}, RL H (xs.map V.int) xs
  | [] => RL.nil
  | x :: xs => RL.cons R.int RL.of_ints
theorem RL.bls : ∀ {vs : List V} {xs : List Bool}, RL H vs xs → vs = xs.map V.bl
  | _, [], h => RL.nil_ h
  | _, x :: xs, h => by
    obtain ⟨w, ws, rfl, h1, h2⟩ := RL.cons_ h
    rw [R.bl_ h1, RL.bls h2]
    rfl
theorem RL.strs : ∀ {vs : List V} {xs : List Str}, RL H vs xs → vs = xs.map V.str
  | _, [], h => RL.nil_ h
  | _, x :: xs, h => by
    obtain ⟨w, ws, rfl, h1, h2⟩ := RL.cons_ h
    rw [R.str_ h1, RL.strs h2]
    rfl
theorem RL.of_strs : ∀ {xs : List Str}, RL H (xs.map V.str) xs
  | [] => RL.nil
  | x :: xs => RL.cons R.str RL.of_strs
theorem RL.cut {xs : List a} (h : RL H vs xs) (lo hi : Option Int) : RL H (cutV vs lo hi) ((xs.drop (HT.sIx xs.length 0 lo)).take (HT.sIx xs.length xs.length hi - HT.sIx xs.length 0 lo)) := by
  unfold cutV
  rw [h.len]
  exact (h.drop _).take _
end

/-! ### owned cells: F is what is read alone, cs are the cells that the code may change -/
/-- what is known of the heap behind a def, by the heap at its entry; the cells at as may have changed -/
structure Gr (as : List Addr) (F H F' H' : Hp) : Prop where
  f : Same F F'
  s : Same F' H'
  k : ∀ b o, b ∉ as → H b = some o → H' b = some o
  t : ∀ b, H b ≠ none → H' b ≠ none
  n : ∀ b, H b ≠ none → F' b = F b ∨ ∃ xs, H b = some (.tup xs)
  u : ∀ b xs, H' b = some (.tup xs) → H b = none ∨ H b = some (.tup xs)
/-- what may be a cell -/
def noTup : HO → Bool
  | .tup _ => false
  | _ => true
structure Kp (as : List Addr) (H H' : Hp) : Prop where
  k : ∀ b o, b ∉ as → H b = some o → H' b = some o
  t : ∀ b, H b ≠ none → H' b ≠ none
/-- the entry of a def -/
structure Ent where
  as : List Addr
  F : Hp
  H : Hp
structure Ow (Z : Ent) (F : Hp) (cs : List (Addr × HO)) (H : Hp) : Prop where
  g : Gr Z.as Z.F Z.H F H
  cf : ∀ c ∈ cs, F c.1 = none
  ch : ∀ c ∈ cs, H c.1 = some c.2
  nd : (cs.map (·.1)).Nodup
  ca : ∀ c ∈ cs, c.1 ∈ Z.as ∨ Z.H c.1 = none
  nt : ∀ c ∈ cs, noTup c.2 = true
/-- what a def asks of its cells -/
structure Pre (F : Hp) (cs : List (Addr × HO)) (H : Hp) : Prop where
  s : Same F H
  cf : ∀ c ∈ cs, F c.1 = none
  ch : ∀ c ∈ cs, H c.1 = some c.2
  nd : (cs.map (·.1)).Nodup
  nt : ∀ c ∈ cs, noTup c.2 = true
theorem Same.new {H : Hp} {p : Addr} {o : HO} (h : H p = none) : Same H (upd H p o) := fun b u e => by
  rw [upd_ne (ne_of_none e h)]
  exact e
theorem Same.upd2 {F H : Hp} {p : Addr} {o : HO} (s : Same F H) : Same (upd F p o) (upd H p o) := fun b u e => by
  by_cases hb : b = p
  · subst hb
    rw [upd_same] at e ⊢
    exact e
  · rw [upd_ne hb] at e ⊢
    exact s b u e
theorem Same.no {F H : Hp} {p : Addr} (s : Same F H) (h : H p = none) : F p = none := Same.free s h
section
variable {Z : Ent} {F F' H H' : Hp} {cs : List (Addr × HO)} {p a : Addr} {o o' : HO}
theorem Pre.start (P : Pre F cs H) : Ow ⟨cs.map (·.1), F, H⟩ F cs H where
  g := ⟨Same.refl _, P.s, fun _ _ _ e => e, fun _ e => e, fun _ _ => .inl rfl, fun _ _ e => .inr e⟩
  cf := P.cf
  ch := P.ch
  nd := P.nd
  ca := fun c hc => .inl (List.mem_map.mpr ⟨c, hc, rfl⟩)
  nt := P.nt
theorem Ow.s (O : Ow Z F cs H) : Same F H := O.g.s
theorem Ow.pre (O : Ow Z F cs H) : Pre F cs H := ⟨O.g.s, O.cf, O.ch, O.nd, O.nt⟩
theorem Ow.pre0 (O : Ow Z F cs H) : Pre F [] H := ⟨O.g.s, (fun _ h => nomatch h), (fun _ h => nomatch h), List.nodup_nil, fun _ h => nomatch h⟩
theorem Ow.pre1 (O : Ow Z F cs H) (i : Nat) (e : cs[i]? = some (a, o)) : Pre F [(a, o)] H := by
  have m := List.mem_of_getElem? e
  refine ⟨O.g.s, fun c hc => ?_, fun c hc => ?_, by simp, fun c hc => ?_⟩
  · rw [List.mem_singleton.mp hc]; exact O.cf _ m
  · rw [List.mem_singleton.mp hc]; exact O.ch _ m
  · rw [List.mem_singleton.mp hc]; exact O.nt _ m
theorem Ow.at (O : Ow Z F cs H) (i : Nat) (e : cs[i]? = some (a, o)) : H a = some o := O.ch _ (List.mem_of_getElem? e)
theorem Ow.no (O : Ow Z F cs H) (h : H p = none) : F p = none := Same.no O.s h
theorem Gr.new (g : Gr Z.as Z.F Z.H F H) (h : H p = none) : Gr Z.as Z.F Z.H F (upd H p o) where
  f := g.f
  s := g.s.trans (Same.new h)
  k := fun b u hb e => Same.new h b u (g.k b u hb e)
  t := fun b e z => by
    by_cases hb : b = p
    · subst hb; exact g.t _ e h
    · rw [upd_ne hb] at z; exact g.t b e z
  n := g.n
  u := fun b xs e => by
    by_cases hb : b = p
    · subst hb
      cases q : Z.H b with
      | none => exact .inl rfl
      | some u => exact absurd h (g.t b (by rw [q]; simp))
    · rw [upd_ne hb] at e; exact g.u b xs e
/-- a new cell -/
theorem Ow.new (O : Ow Z F cs H) (h : H p = none) (hn : noTup o = true := by rfl) : Ow Z F ((p, o) :: cs) (upd H p o) where
  g := O.g.new h
  cf := fun c hc => by
    rcases List.mem_cons.mp hc with rfl | hc
    · exact O.no h
    · exact O.cf c hc
  ch := fun c hc => by
    rcases List.mem_cons.mp hc with rfl | hc
    · exact upd_same
    · rw [upd_ne (ne_of_none (O.ch c hc) h)]; exact O.ch c hc
  nd := by
    rw [List.map_cons, List.nodup_cons]
    refine ⟨fun hm => ?_, O.nd⟩
    obtain ⟨c, hc, e⟩ := List.mem_map.mp hm
    have z := O.ch c hc
    rw [e] at z
    rw [z] at h
    cases h
  ca := fun c hc => by
    rcases List.mem_cons.mp hc with rfl | hc
    · refine .inr ?_
      cases q : Z.H p with
      | none => rfl
      | some u => exact absurd h (O.g.t p (by rw [q]; simp))
    · exact O.ca c hc
  nt := fun c hc => by
    rcases List.mem_cons.mp hc with rfl | hc
    · exact hn
    · exact O.nt c hc
/-- a new thing that is read alone -/
theorem Ow.put (O : Ow Z F cs H) (h : H p = none) : Ow Z (upd F p o) cs (upd H p o) where
  g := {
    f := O.g.f.trans (Same.new (O.no h))
    s := Same.upd2 O.g.s
    k := (O.g.new h).k
    t := (O.g.new h).t
    n := fun b e => by
      have hb : b ≠ p := fun z => by subst z; exact O.g.t _ e h
      rw [upd_ne hb]
      exact O.g.n b e
    u := (O.g.new h).u }
  cf := fun c hc => by rw [upd_ne (ne_of_none (O.ch c hc) h)]; exact O.cf c hc
  ch := fun c hc => by rw [upd_ne (ne_of_none (O.ch c hc) h)]; exact O.ch c hc
  nd := O.nd
  ca := O.ca
  nt := O.nt
theorem map_set_fst {i : Nat} (e : cs[i]? = some (a, o)) : (cs.set i (a, o')).map (·.1) = cs.map (·.1) := by
  rw [List.map_set]
  obtain ⟨h, e'⟩ := List.getElem?_eq_some_iff.mp e
  refine List.ext_getElem? fun j => ?_
  by_cases hj : i = j
  · subst hj
    rw [List.getElem?_set_self (by simpa using h), List.getElem?_map, e]
    rfl
  · rw [List.getElem?_set_ne hj]
theorem nd_other {i : Nat} (nd : (cs.map (·.1)).Nodup) (e : cs[i]? = some (a, o)) {c : Addr × HO} (hc : c ∈ cs.set i (a, o')) : c = (a, o') ∨ (c ∈ cs ∧ c.1 ≠ a) := by
  obtain ⟨j, hj⟩ := List.mem_iff_getElem?.mp hc
  by_cases hij : i = j
  · subst hij
    obtain ⟨h, _⟩ := List.getElem?_eq_some_iff.mp e
    rw [List.getElem?_set_self h] at hj
    exact .inl (Option.some.inj hj).symm
  · rw [List.getElem?_set_ne hij] at hj
    refine .inr ⟨List.mem_of_getElem? hj, fun z => hij ?_⟩
    have h1 : (cs.map (·.1))[i]? = some a := by rw [List.getElem?_map, e]; rfl
    have h2 : (cs.map (·.1))[j]? = some a := by rw [List.getElem?_map, hj, ← z]; rfl
    exact nd_ix nd h1 h2
/-- a cell is changed -/
theorem Ow.set (O : Ow Z F cs H) (i : Nat) (o' : HO) (e : cs[i]? = some (a, o)) (hn : noTup o' = true := by rfl) : Ow Z F (cs.set i (a, o')) (upd H a o') := by
  have m := List.mem_of_getElem? e
  have ha := O.ca _ m
  refine ⟨⟨O.g.f, fun b u q => ?_, fun b u hb q => ?_, fun b q z => ?_, O.g.n, fun b xs q => ?_⟩, fun c hc => ?_, fun c hc => ?_, ?_, fun c hc => ?_, fun c hc => ?_⟩
  · have hb : b ≠ a := fun z => by subst z; rw [O.cf _ m] at q; cases q
    rw [upd_ne hb]
    exact O.g.s b u q
  · have hba : b ≠ a := fun z => by
      subst z
      rcases ha with ha | ha
      · exact hb ha
      · have q' : Z.H b = some u := q
        have ha' : Z.H b = none := ha
        rw [ha'] at q'; cases q'
    rw [upd_ne hba]
    exact O.g.k b u hb q
  · by_cases hb : b = a
    · subst hb; rw [upd_same] at z; cases z
    · rw [upd_ne hb] at z; exact O.g.t b q z
  · by_cases hb : b = a
    · subst hb
      rw [upd_same] at q
      rw [Option.some.inj q] at hn
      cases hn
    · rw [upd_ne hb] at q; exact O.g.u b xs q
  · rcases nd_other O.nd e hc with rfl | ⟨h1, _⟩
    · exact O.cf (a, o) m
    · exact O.cf c h1
  · rcases nd_other O.nd e hc with rfl | ⟨h1, h2⟩
    · exact upd_same
    · rw [upd_ne h2]; exact O.ch c h1
  · rw [map_set_fst e]; exact O.nd
  · rcases nd_other O.nd e hc with rfl | ⟨h1, _⟩
    · exact ha
    · exact O.ca c h1
  · rcases nd_other O.nd e hc with rfl | ⟨h1, _⟩
    · exact hn
    · exact O.nt c h1
theorem mem_erase {i : Nat} {c : Addr × HO} (h : c ∈ cs.eraseIdx i) : c ∈ cs := List.mem_of_mem_eraseIdx h
theorem nd_erase {i : Nat} (h : (cs.map (·.1)).Nodup) : ((cs.eraseIdx i).map (·.1)).Nodup := by
  exact h.sublist ((List.eraseIdx_sublist cs i).map (fun x => x.1))
/-- a cell that nobody changes any more (it was not there at the entry) -/
theorem Ow.frz (O : Ow Z F cs H) (i : Nat) (e : cs[i]? = some (a, o)) (hz : Z.H a = none) : Ow Z (upd F a o) (cs.eraseIdx i) H := by
  have m := List.mem_of_getElem? e
  have h1 : ∀ c ∈ cs.eraseIdx i, c.1 ≠ a := fun c hc z => by
    have nd := O.nd
    obtain ⟨hi, e'⟩ := List.getElem?_eq_some_iff.mp e
    obtain ⟨j, hj⟩ := List.mem_iff_getElem?.mp hc
    rw [List.getElem?_eraseIdx] at hj
    have h1 : (cs.map (·.1))[i]? = some a := by rw [List.getElem?_map, e]; rfl
    by_cases hji : j < i
    · rw [if_pos hji] at hj
      have h2 : (cs.map (·.1))[j]? = some a := by rw [List.getElem?_map, hj, ← z]; rfl
      have := nd_ix nd h1 h2
      omega
    · rw [if_neg hji] at hj
      have h2 : (cs.map (·.1))[j + 1]? = some a := by rw [List.getElem?_map, hj, ← z]; rfl
      have := nd_ix nd h1 h2
      omega
  refine ⟨⟨O.g.f.trans (Same.new (O.cf _ m)), fun b u q => ?_, O.g.k, O.g.t, fun b q => ?_, O.g.u⟩, fun c hc => ?_, fun c hc => O.ch c (mem_erase hc), nd_erase O.nd, fun c hc => O.ca c (mem_erase hc), fun c hc => O.nt c (mem_erase hc)⟩
  · by_cases hb : b = a
    · subst hb; rw [upd_same] at q; rw [← q]; exact O.ch _ m
    · rw [upd_ne hb] at q; exact O.g.s b u q
  · have hb : b ≠ a := fun z => by subst z; exact q hz
    rw [upd_ne hb]
    exact O.g.n b q
  · rw [upd_ne (h1 c hc)]; exact O.cf c (mem_erase hc)
theorem Ow.drop (O : Ow Z F cs H) (i : Nat) : Ow Z F (cs.eraseIdx i) H := ⟨O.g, fun c hc => O.cf c (mem_erase hc), fun c hc => O.ch c (mem_erase hc), nd_erase O.nd, fun c hc => O.ca c (mem_erase hc), fun c hc => O.nt c (mem_erase hc)⟩
theorem Ow.frzS (O : Ow Z F cs H) (i : Nat) (e : cs[i]? = some (a, o)) : Same F (upd F a o) := Same.new (O.cf _ (List.mem_of_getElem? e))
theorem Ow.putS (O : Ow Z F cs H) (h : H p = none) : Same F (upd F p o) := Same.new (O.no h)
theorem Gr.then {as : List Addr} (g0 : Gr Z.as Z.F Z.H F H) (g : Gr as F H F' H') (ha : ∀ b ∈ as, b ∈ Z.as ∨ Z.H b = none) : Gr Z.as Z.F Z.H F' H' where
  f := g0.f.trans g.f
  s := g.s
  k := fun b u hb e => by
    refine g.k b u (fun z => ?_) (g0.k b u hb e)
    rcases ha b z with h | h
    · exact hb h
    · rw [h] at e; cases e
  t := fun b e => g.t b (g0.t b e)
  n := fun b e => by
    rcases g0.n b e with h0 | h0
    · rcases g.n b (g0.t b e) with h1 | ⟨xs, hx⟩
      · exact .inl (h1.trans h0)
      · rcases g0.u b xs hx with z | z
        · exact absurd z e
        · exact .inr ⟨xs, z⟩
    · exact .inr h0
  u := fun b xs e => by
    rcases g.u b xs e with z | z
    · refine .inl ?_
      cases q : Z.H b with
      | none => rfl
      | some u => exact absurd z (g0.t b (by rw [q]; simp))
    · exact g0.u b xs z
theorem Gr.none {as : List Addr} (g : Gr as F H F' H') {c : Addr × HO} (h : H c.1 = some c.2) (hn : noTup c.2 = true) (hf : F c.1 = Option.none) : F' c.1 = Option.none := by
  rcases g.n c.1 (by rw [h]; simp) with z | ⟨xs, z⟩
  · exact z.trans hf
  · rw [h] at z
    rw [Option.some.inj z] at hn
    cases hn
/-- behind a call that changes none of our cells -/
theorem Ow.call0 (O : Ow Z F cs H) (g : Gr [] F H F' H') : Ow Z F' cs H' where
  g := O.g.then g (fun _ h => nomatch h)
  cf := fun c hc => g.none (O.ch c hc) (O.nt c hc) (O.cf c hc)
  ch := fun c hc => g.k _ _ (fun h => nomatch h) (O.ch c hc)
  nd := O.nd
  ca := O.ca
  nt := O.nt
/-- .. one -/
theorem Ow.call1 (O : Ow Z F cs H) (g : Gr [a] F H F' H') (i : Nat) (e : cs[i]? = some (a, o)) (h' : H' a = some o') (hn : noTup o' = true := by rfl) : Ow Z F' (cs.set i (a, o')) H' := by
  have m := List.mem_of_getElem? e
  refine ⟨O.g.then g (fun b hb => by rw [List.mem_singleton.mp hb]; exact O.ca _ m), fun c hc => ?_, fun c hc => ?_, by rw [map_set_fst e]; exact O.nd, fun c hc => ?_, fun c hc => ?_⟩
  · rcases nd_other O.nd e hc with rfl | ⟨h1, _⟩
    · exact g.none (c := (a, o)) (O.ch (a, o) m) (O.nt (a, o) m) (O.cf (a, o) m)
    · exact g.none (O.ch c h1) (O.nt c h1) (O.cf c h1)
  · rcases nd_other O.nd e hc with rfl | ⟨h1, h2⟩
    · exact h'
    · exact g.k _ _ (fun z => h2 (List.mem_singleton.mp z)) (O.ch c h1)
  · rcases nd_other O.nd e hc with rfl | ⟨h1, _⟩
    · exact O.ca (a, o) m
    · exact O.ca c h1
  · rcases nd_other O.nd e hc with rfl | ⟨h1, _⟩
    · exact hn
    · exact O.nt c h1
/-- a cell that a call made -/
theorem Ow.add {H0 : Hp} {F0 : Hp} (O : Ow Z F cs H) (O0 : Ow Z F0 cs' H0) (hk : ∀ c ∈ cs, c.1 ∈ cs'.map (·.1)) (hn : H0 p = none) (hf : F p = none) (h : H p = some o) (ht : noTup o = true := by rfl) : Ow Z F ((p, o) :: cs) H where
  g := O.g
  cf := fun c hc => by
    rcases List.mem_cons.mp hc with rfl | hc
    · exact hf
    · exact O.cf c hc
  ch := fun c hc => by
    rcases List.mem_cons.mp hc with rfl | hc
    · exact h
    · exact O.ch c hc
  nd := by
    rw [List.map_cons, List.nodup_cons]
    refine ⟨fun hm => ?_, O.nd⟩
    obtain ⟨c, hc, e⟩ := List.mem_map.mp hm
    obtain ⟨c', hc', e'⟩ := List.mem_map.mp (hk c hc)
    have z := O0.ch c' hc'
    rw [e', e] at z
    rw [z] at hn
    cases hn
  ca := fun c hc => by
    rcases List.mem_cons.mp hc with rfl | hc
    · refine .inr ?_
      cases q : Z.H p with
      | none => rfl
      | some u => exact absurd hn (O0.g.t p (by rw [q]; simp))
    · exact O.ca c hc
  nt := fun c hc => by
    rcases List.mem_cons.mp hc with rfl | hc
    · exact ht
    · exact O.nt c hc
theorem Ow.kp (O : Ow Z F cs H) : Kp Z.as Z.H H := ⟨O.g.k, O.g.t⟩
theorem Kp.of {as : List Addr} {H0 H1 : Hp} (g : Gr as F H0 F' H1) : Kp as H0 H1 := ⟨g.k, g.t⟩
/-- an error of a call leaves this def -/
theorem Ow.kpCall {as : List Addr} {H1 : Hp} (O : Ow Z F cs H) (k : Kp as H H1) (ha : ∀ b ∈ as, ∃ o, (b, o) ∈ cs) : Kp Z.as Z.H H1 where
  k := fun b u hb e => by
    refine k.k b u (fun z => ?_) (O.g.k b u hb e)
    obtain ⟨o, hc⟩ := ha b z
    rcases O.ca _ hc with h | h
    · exact hb h
    · have h' : Z.H b = none := h
      rw [h'] at e; cases e
  t := fun b e => k.t b (O.g.t b e)
theorem Ow.kp0 {H1 : Hp} (O : Ow Z F cs H) (k : Kp [] H H1) : Kp Z.as Z.H H1 := O.kpCall k fun _ h => nomatch h
theorem Ow.kp1 {H1 : Hp} (O : Ow Z F cs H) (k : Kp [a] H H1) (i : Nat) (e : cs[i]? = some (a, o)) : Kp Z.as Z.H H1 := O.kpCall k fun b hb => by
  rw [List.mem_singleton.mp hb]
  exact ⟨o, List.mem_of_getElem? e⟩
end
end PG

set_option Elab.async false
set_option linter.all false
set_option maxRecDepth 100000
set_option maxHeartbeats 4000000
namespace PG
open PySem L2
open PySem.W (T3 T4 Datum DatumOrd Holds HoldAll EachIs)
/-! ### rules over typed data -/
section
variable {X : Cx} {pins : List (Addr × Obj)} {σ : St} {H : Hp} {s : Shared} {v : V} {u : Value} {vs : List V} {us : List Value}
theorem R.holds {a : Type} [Py a] [DecidableEq a] [Datum a] [IsD a] {x : a} (I : Inv X pins σ H s) (h : R H v x) (r : RelV v u) : Holds s.heap u x := by
  obtain ⟨as, q⟩ := Dp.reads I _ _ _ (Rep.dp _ _ h) r
  rw [IsD.eq] at q
  exact ⟨as, q⟩
theorem RL.holds {a : Type} [Py a] [DecidableEq a] [Datum a] [IsD a] {xs : List a} (I : Inv X pins σ H s) (h : RL H vs xs) (r : Vals vs us) : HoldAll s.heap us xs := by
  obtain ⟨as, q⟩ := Dp.readsAll I _ _ _ (RepA.dp _ _ h) r
  rw [map_toD] at q
  exact ⟨as, q⟩
end
section
variable {X : Cx} (a : Type) [Py a] [DecidableEq a] [Datum a] [IsD a]
def rEqT : R2 := fun x y H Q => ∃ p q : a, R H x p ∧ R H y q ∧ Q (.bl (decide (p = q))) H
def rNeT : R2 := fun x y H Q => ∃ p q : a, R H x p ∧ R H y q ∧ Q (.bl (decide (p ≠ q))) H
theorem op_eqT (hu : X.A.units + 64 < cLine) (hd : Datum.depth a ≤ 64 := by decide) : OpR X (compareOp .Eq) (rEqT a) := by
  intro pins s σ H x y v u Q I rx ry h
  obtain ⟨p, q, hp, hq, k⟩ := h
  exact PySem.W.eq_datum (hp.holds I rx) (hq.holds I ry) (by omega) ⟨.bl _, H, I, rfl, k⟩
theorem op_neT (hu : X.A.units + 64 < cLine) (hd : Datum.depth a ≤ 64 := by decide) : OpR X (compareOp .NotEq) (rNeT a) := by
  intro pins s σ H x y v u Q I rx ry h
  obtain ⟨p, q, hp, hq, k⟩ := h
  exact PySem.W.ne_datum (hp.holds I rx) (hq.holds I ry) (by omega) ⟨.bl _, H, I, rfl, k⟩
def rInT (neg : Bool) : R2 := fun x y H Q => ∃ (p : a) (l : Addr) (vs : List V) (ys : List a), R H x p ∧ y = .ref l ∧ (H l = some (.lst vs) ∨ H l = some (.tup vs)) ∧ RL H vs ys ∧ Q (.bl (if neg then decide (p ∉ ys) else decide (p ∈ ys))) H
end
section
variable {X : Cx} (a : Type) [Py a] [DecidableEq a] [Datum a] [IsD a]
theorem op_inT (hu : X.A.units + 64 < cLine) (hd : Datum.depth a ≤ 60 := by decide) : OpR X (compareOp .In) (rInT a false) := by
  intro pins s σ H x y v u Q I rx ry h
  obtain ⟨p, l, vs, ys, hp, rfl, hl, hy, k⟩ := h
  cases ry
  rcases hl with hl | hl
  · obtain ⟨its, rv, hL, _⟩ := I.list (SqL.of (K := X.K) hl)
    exact PySem.W.in_list_datum hL.isList (by simpa using hy.holds I rv) (hp.holds I rx) (by omega) ⟨.bl _, H, I, rfl, k⟩
  · obtain ⟨its, rv, hL, _⟩ := I.tuple (SqT.of (K := X.K) hl)
    exact PySem.W.in_tuple_datum (show s.heap.IsTuple l its.toArray from hL) (by simpa using hy.holds I rv) (hp.holds I rx) (by omega) ⟨.bl _, H, I, rfl, k⟩
theorem op_ninT (hu : X.A.units + 64 < cLine) (hd : Datum.depth a ≤ 60 := by decide) : OpR X (compareOp .NotIn) (rInT a true) := by
  intro pins s σ H x y v u Q I rx ry h
  obtain ⟨p, l, vs, ys, hp, rfl, hl, hy, k⟩ := h
  cases ry
  rcases hl with hl | hl
  · obtain ⟨its, rv, hL, _⟩ := I.list (SqL.of (K := X.K) hl)
    exact PySem.W.notIn_list_datum hL.isList (by simpa using hy.holds I rv) (hp.holds I rx) (by omega) ⟨.bl _, H, I, rfl, k⟩
  · obtain ⟨its, rv, hL, _⟩ := I.tuple (SqT.of (K := X.K) hl)
    exact PySem.W.notIn_tuple_datum (show s.heap.IsTuple l its.toArray from hL) (by simpa using hy.holds I rv) (hp.holds I rx) (by omega) ⟨.bl _, H, I, rfl, k⟩
end

/-! ### sorted -/
/-- how data may be sorted: all are tuples with an item, or none is a tuple or None -/
class SortB (a : Type) [DecidableEq a] [Datum a] : Prop where
  ok : (∀ x : a, ∃ d r, Datum.toD x = .tuple (d :: r)) ∨ ∀ x : a, Datum.toD x ≠ .none ∧ ∀ ds, Datum.toD x ≠ .tuple ds
instance : SortB Int := ⟨.inr fun x => ⟨(fun e => nomatch (show PyData.int x = .none from e)), fun ds e => nomatch (show PyData.int x = .tuple ds from e)⟩⟩
instance : SortB Str := ⟨.inr fun x => ⟨(fun e => nomatch (show PyData.str x = .none from e)), fun ds e => nomatch (show PyData.str x = .tuple ds from e)⟩⟩
section
variable {a b c : Type} [DecidableEq a] [Datum a] [DecidableEq b] [Datum b] [DecidableEq c] [Datum c]
instance : SortB (List a) := ⟨.inr fun x => ⟨(fun e => nomatch (show PyData.list _ = .none from e)), fun ds e => nomatch (show PyData.list _ = .tuple ds from e)⟩⟩
instance : SortB (a × b) := ⟨.inl fun x => ⟨_, _, rfl⟩⟩
instance : SortB (T3 a b c) := ⟨.inl fun x => ⟨_, _, rfl⟩⟩
end
/-- Python's order -/
def leT {a : Type} [DecidableEq a] [DatumOrd a] (x y : a) : Bool := !DatumOrd.lt y x
def sortT {a : Type} [DecidableEq a] [DatumOrd a] (xs : List a) : List a := xs.mergeSort leT
theorem dataLe_T {a β : Type} [DecidableEq a] [DatumOrd a] (f : β → a) : PySem.W.dataLe false (fun b => Datum.toD (f b)) = fun x y => leT (f x) (f y) := by
  funext x y
  rw [PySem.W.dataLe_eq]
  show (!PySem.W.dataLt (Datum.toD (f y)) (Datum.toD (f x))) = _
  rw [DatumOrd.lt_eq]
  rfl
section
variable {a : Type} [Py a] [DecidableEq a] [DatumOrd a] [IsD a] {H : Hp}
theorem each_pairs : ∀ {vs : List V} {xs : List a} {us : List Value}, RL H vs xs → Vals vs us → EachIs (fun (u : Value) (p : V × a) => RelV p.1 u ∧ R H p.1 p.2) us (vs.zip xs)
  | _, [], _, h, r => by
    rw [RL.nil_ h] at r ⊢
    cases r
    exact .nil
  | _, x :: xs, _, h, r => by
    obtain ⟨w, ws, rfl, h1, h2⟩ := RL.cons_ h
    cases r with
    | cons r1 r2 => exact .cons ⟨r1, h1⟩ (each_pairs h2 r2)
theorem pairs_vals : ∀ {ps : List (V × a)} {us : List Value}, EachIs (fun (u : Value) (p : V × a) => RelV p.1 u ∧ R H p.1 p.2) us ps → Vals (ps.map (·.1)) us ∧ RL H (ps.map (·.1)) (ps.map (·.2))
  | _, _, .nil => ⟨.nil, RL.nil⟩
  | _, _, .cons ⟨r1, h1⟩ t => ⟨.cons r1 (pairs_vals t).1, RL.cons h1 (pairs_vals t).2⟩
theorem each_imp {β γ : Type} {A B : β → γ → Prop} (f : ∀ x y, A x y → B x y) : ∀ {xs : List β} {ys : List γ}, EachIs A xs ys → EachIs B xs ys
  | _, _, .nil => .nil
  | _, _, .cons h t => .cons (f _ _ h) (each_imp f t)
theorem zip_snd : ∀ {vs : List V} {xs : List a}, vs.length = xs.length → (vs.zip xs).map (·.2) = xs
  | [], [], _ => rfl
  | v :: vs, x :: xs, h => by
    rw [List.zip_cons_cons, List.map_cons, zip_snd (by simpa using h)]
  | [], _ :: _, h => by simp at h
  | _ :: _, [], h => by simp at h
theorem sort_zip {vs : List V} {xs : List a} (h : vs.length = xs.length) : ((vs.zip xs).mergeSort fun p q => leT p.2 q.2).map (·.2) = sortT xs := by
  unfold sortT
  rw [List.map_mergeSort (s := leT) (fun _ _ _ _ => rfl), zip_snd h]
end
section
variable {a : Type} [Py a] [DecidableEq a] [DatumOrd a] [IsD a] {H : Hp}
def sortV (ws : List V) (xs : List a) : List V := ((ws.zip xs).mergeSort fun p q => leT p.2 q.2).map (·.1)
theorem RL.pairs : ∀ {ws : List V} {xs : List a}, RL H ws xs → ∀ p ∈ ws.zip xs, R H p.1 p.2
  | _, [], _, p, hp => by simp at hp
  | _, x :: xs, h, p, hp => by
    obtain ⟨w, ws, rfl, h1, h2⟩ := RL.cons_ h
    rw [List.zip_cons_cons] at hp
    rcases List.mem_cons.mp hp with rfl | hp
    · exact h1
    · exact RL.pairs h2 p hp
theorem RL.of_pairs : ∀ {ps : List (V × a)}, (∀ p ∈ ps, R H p.1 p.2) → RL H (ps.map (·.1)) (ps.map (·.2))
  | [], _ => RL.nil
  | p :: ps, h => RL.cons (h p List.mem_cons_self) (RL.of_pairs fun q hq => h q (List.mem_cons_of_mem _ hq))
theorem RL.sorted {ws : List V} {xs : List a} (h : RL H ws xs) : RL H (sortV ws xs) (sortT xs) := by
  have q : RL H (sortV ws xs) (((ws.zip xs).mergeSort fun p q => leT p.2 q.2).map (·.2)) := RL.of_pairs fun p hp => h.pairs p (List.mem_mergeSort.mp hp)
  rw [sort_zip h.len] at q
  exact q
end
section
variable {X : Cx} (a : Type) [Py a] [DecidableEq a] [DatumOrd a] [IsD a]
/-- sorted(xs) of a list: a new list -/
def rSortedT : List V → Hp → VK → Prop := fun vs H Q => ∃ (l : Addr) (ws : List V) (xs : List a), vs = [.ref l] ∧ H l = some (.lst ws) ∧ RL H ws xs ∧ ∀ (p : Addr), H p = none → Q (.ref p) (upd H p (.lst (sortV ws xs)))
theorem cr_sortedT [SortB a] (hu : X.A.units + 128 < cLine) (hd : Datum.depth a ≤ 100 := by decide) : CallR X (.builtin "sorted") (rSortedT a) := by
  intro pins s σ H vs us Q I r h
  obtain ⟨l, ws, xs, rfl, hl, hx, k⟩ := h
  obtain ⟨its, rv, hL, hz⟩ := I.list (SqL.of (K := X.K) hl)
  rw [Vals.ref1 r]
  have hlen : ws.length = xs.length := hx.len
  have hE := each_pairs hx rv
  refine PySem.W.sorted_data (bs := ws.zip xs) (enc := fun p => Datum.toD p.2) hL.isList hE (each_imp (fun u p hp => hp.2.holds I hp.1) hE) (PySem.W.AllAlike.of fun p q => DatumOrd.alike p.2 q.2) ?_ (by rw [List.length_zip, ← hlen, Nat.min_self]; exact hz) (fun p _ => ?_) fun out ho he => ?_
  · rcases SortB.ok (a := a) with q | q
    · exact PySem.W.Sortable.tuples fun p => q p.2
    · exact PySem.W.Sortable.others fun p => q p.2
  · have := Datum.depth_le p.2
    omega
  · rw [dataLe_T (fun p : V × a => p.2)] at he
    obtain ⟨q1, q2⟩ := pairs_vals he
    obtain ⟨ep, he'⟩ := PyProof.Rows.sortedAll_at s.heap its out.toArray
    refine ⟨.ref _, upd H (s.heap.objs.size + 1) (.lst _), I.laid (t' := s.toks) (fun _ _ => PyProof.Rows.sortedAll_old) (Nat.le_succ _) ⟨?_, out, ep, q1, he'⟩, rfl, k _ (I.hok.fresh (Nat.le_succ _))⟩
    rw [List.length_map, List.length_mergeSort, List.length_zip, ← hlen, Nat.min_self]
    exact hz
end
end PG

set_option Elab.async false
set_option linter.all false
set_option maxRecDepth 100000
set_option maxHeartbeats 4000000
namespace PG
open PySem PySem.Spec PyProof.Rows L2
open PySem.W (T3 T4 Datum DatumOrd Holds HoldAll EachIs)

instance (i j : Int) : Decidable (CMulW i j) := inferInstanceAs (Decidable (_ < _))
instance (i j : Int) : Decidable (CDivW i j) := inferInstanceAs (Decidable (_ ∧ _))
instance (i j : Int) : Decidable (CPow i j) := inferInstanceAs (Decidable (_ ∧ _ ∧ _))
theorem szl : sizeLine = 16777216 := sizeLine_eq
theorem lt_line {n : Nat} (h : n < 16777216) : n < sizeLine := by rw [szl]; exact h
theorem le_line {n : Nat} (h : n < 16777216) : n ≤ sizeLine := Nat.le_of_lt (lt_line h)
theorem len_line {vs : List V} (h : vs.length < 16777216 := by (show _ < 16777216); simp) : vs.length ≤ sizeLine := le_line h
theorem SqLF {K : PySem.W.Frag} {F H : Hp} {p : Addr} {vs : List V} (s : Same F H) (h : F p = some (.lst vs)) : SqL K H p vs := SqL.of (s _ _ h)
theorem SqTF {K : PySem.W.Frag} {F H : Hp} {p : Addr} {vs : List V} (s : Same F H) (h : F p = some (.tup vs)) : SqT K H p vs := SqT.of (s _ _ h)

/-! ### mirrors of what may go wrong -/
def setI {a : Type} (xs : List a) (i : Int) (y : a) : M (List a) := match ixN xs.length i with
  | some j => .ok (xs.set j y)
  | none => bad
def popI {a : Type} (xs : List a) (i : Int) : M (a × List a) := if xs.length < 16777216 then (match ixN xs.length i with
    | some j => (match xs[j]? with
      | some y => .ok (y, xs.eraseIdx j)
      | none => bad)
    | none => bad) else bad
def popL {a : Type} (xs : List a) : M (a × List a) := match xs[xs.length - 1]? with
  | some y => .ok (y, xs.dropLast)
  | none => bad
def appL {a : Type} (xs : List a) (y : a) : M (List a) := if xs.length < 16777216 then .ok (xs ++ [y]) else bad
def rangeL (lo hi : Int) : List Int := (List.range (hi - lo).toNat).map fun (i : Nat) => lo + (i : Int)
def okR (i : Int) : Prop := -1000000 ≤ i ∧ i ≤ 1000000
instance (i : Int) : Decidable (okR i) := inferInstanceAs (Decidable (_ ∧ _))
theorem okR.lo {i : Int} (h : okR i) : -(2 ^ 62) ≤ i := by obtain ⟨a, b⟩ := h; omega
theorem okR.hi {i : Int} (h : okR i) : i < 2 ^ 62 := by obtain ⟨a, b⟩ := h; omega
theorem rangeL_get {lo hi : Int} {i : Nat} (h : i < (hi - lo).toNat) : (rangeL lo hi).drop i = (lo + (i : Int)) :: (rangeL lo hi).drop (i + 1) := by
  unfold rangeL
  rw [List.drop_eq_getElem_cons (by simpa using h)]
  simp
theorem rangeL_end {lo hi : Int} : (rangeL lo hi).drop (hi - lo).toNat = [] := by
  rw [List.drop_eq_nil_iff]
  unfold rangeL
  simp
section
variable {a b : Type} {Q : a → Prop} {E : String → Prop} {H : Hp}
theorem wp_setI {xs : List b} {i : Int} {y : b} {k : List b → M a} (h : wp (setI xs i y >>= k) Q E) : ∃ j, ixN xs.length i = some j ∧ wp (k (xs.set j y)) Q E := by
  unfold setI at h
  cases e : ixN xs.length i with
  | none => rw [e] at h; exact h.elim
  | some j => rw [e] at h; exact ⟨j, rfl, h⟩
theorem wp_popI {xs : List b} {i : Int} {k : b × List b → M a} (h : wp (popI xs i >>= k) Q E) : ∃ j y, seqIndex? i xs.length = some j ∧ -(2 ^ 63) ≤ i ∧ i < 2 ^ 63 ∧ xs[j]? = some y ∧ wp (k (y, xs.eraseIdx j)) Q E := by
  unfold popI at h
  by_cases hl : xs.length < 16777216
  · rw [if_pos hl] at h
    cases e : ixN xs.length i with
    | none => rw [e] at h; exact h.elim
    | some j =>
      rw [e] at h
      have h : wp ((match xs[j]? with
        | some y => .ok (y, xs.eraseIdx j)
        | none => bad) >>= k) Q E := h
      cases e2 : xs[j]? with
      | none => rw [e2] at h; exact h.elim
      | some y =>
        rw [e2] at h
        obtain ⟨q1, q2, q3, q4⟩ := ixN_seq e
        exact ⟨j, y, q1, by omega, by omega, e2, h⟩
  · rw [if_neg hl] at h
    exact h.elim
theorem wp_popL {xs : List b} {k : b × List b → M a} (h : wp (popL xs >>= k) Q E) : ∃ y, xs[xs.length - 1]? = some y ∧ wp (k (y, xs.dropLast)) Q E := by
  unfold popL at h
  cases e : xs[xs.length - 1]? with
  | none => rw [e] at h; exact h.elim
  | some y => rw [e] at h; exact ⟨y, rfl, h⟩
theorem wp_appL {xs : List b} {y : b} {k : List b → M a} (h : wp (appL xs y >>= k) Q E) : xs.length < sizeLine ∧ wp (k (xs ++ [y])) Q E := by
  unfold appL at h
  by_cases hl : xs.length < 16777216
  · rw [if_pos hl] at h
    exact ⟨lt_line hl, h⟩
  · rw [if_neg hl] at h
    exact h.elim
end
/-! loops, by what is left to be done -/
section
variable {i s r a c : Type} {Q : a → Prop} {E : String → Prop}
theorem loopN_L {b : i → s → M s} {xs : List i} {x : s} {k : s → M a} (h : wp (loopN b xs x >>= k) Q E) :
    ∃ L : List i → s → Prop, L xs x ∧ (∀ y ys x, L (y :: ys) x → wp (b y x) (fun x' => L ys x') E) ∧ ∀ x, L [] x → wp (k x) Q E := by
  refine ⟨fun ys x => wp (loopN b ys x >>= k) Q E, h, fun y ys x hx => ?_, fun x hx => hx⟩
  have hx : wp (loopN b (y :: ys) x >>= k) Q E := hx
  rw [wp_bind] at hx
  have hx : wp (b y x >>= fun x' => loopN b ys x') (fun x => wp (k x) Q E) E := hx
  rw [wp_bind] at hx
  cases e : b y x with
  | ok z =>
    rw [e] at hx
    exact wp_bind.mpr hx
  | error e2 =>
    rw [e] at hx
    cases e2 <;> exact hx
theorem loopM_L {b : i → s → M (Fl s r)} {xs : List i} {x : s} {k : Fl s r → M a} (h : wp (loopM b xs x >>= k) Q E) :
    ∃ L : List i → s → Prop, L xs x ∧ (∀ y ys x, L (y :: ys) x → wp (b y x) (fun f => match f with
      | .nx x' => L ys x'
      | .rt z => wp (k (.rt z)) Q E) E) ∧ ∀ x, L [] x → wp (k (.nx x)) Q E := by
  refine ⟨fun ys x => wp (loopM b ys x >>= k) Q E, h, fun y ys x hx => ?_, fun x hx => hx⟩
  have hx : wp (loopM b (y :: ys) x >>= k) Q E := hx
  rw [wp_bind] at hx
  cases e : b y x with
  | ok z =>
    have hx : wp (b y x >>= fun f => match f with
      | .nx x' => loopM b ys x'
      | .rt z => .ok (.rt z)) (fun x => wp (k x) Q E) E := hx
    rw [e] at hx
    cases z with
    | nx z => exact wp_bind.mpr hx
    | rt z => exact hx
  | error e2 =>
    have hx : wp (b y x >>= fun f => match f with
      | .nx x' => loopM b ys x'
      | .rt z => .ok (.rt z)) (fun x => wp (k x) Q E) E := hx
    rw [e] at hx
    cases e2 <;> exact hx
theorem whileN_L {c : s → M Bool} {b : s → M s} {n : Nat} {x : s} {k : s → M a} (h : wp (whileN c b n x >>= k) Q E) :
    ∃ L : Nat → s → Prop, L n x ∧ ∀ m x, L m x → wp (c x) (fun t => if t = true then ∃ m', m' < m ∧ wp (b x) (fun x' => L m' x') E else wp (k x) Q E) E := by
  refine ⟨fun n x => wp (whileN c b n x >>= k) Q E, h, fun m x hx => ?_⟩
  cases m with
  | zero => exact hx.elim
  | succ m =>
    have hx : wp ((c x >>= fun t => if t = true then b x >>= fun x' => whileN c b m x' else .ok x) >>= k) Q E := hx
    rw [wp_bind, wp_bind] at hx
    cases e : c x with
    | error e2 => rw [e] at hx; cases e2 <;> exact hx
    | ok t =>
      rw [e] at hx
      cases t with
      | false => exact hx
      | true =>
        refine ⟨m, Nat.lt_succ_self m, ?_⟩
        have hx : wp (b x >>= fun x' => whileN c b m x') (fun x => wp (k x) Q E) E := hx
        rw [wp_bind] at hx
        cases e : b x with
        | error e2 => rw [e] at hx; cases e2 <;> exact hx
        | ok z =>
          rw [e] at hx
          exact wp_bind.mpr hx
theorem whileM_L {c : s → M Bool} {b : s → M (Fl s r)} {n : Nat} {x : s} {k : Fl s r → M a} (h : wp (whileM c b n x >>= k) Q E) :
    ∃ L : Nat → s → Prop, L n x ∧ ∀ m x, L m x → wp (c x) (fun t => if t = true then ∃ m', m' < m ∧ wp (b x) (fun f => match f with
      | .nx x' => L m' x'
      | .rt z => wp (k (.rt z)) Q E) E else wp (k (.nx x)) Q E) E := by
  refine ⟨fun n x => wp (whileM c b n x >>= k) Q E, h, fun m x hx => ?_⟩
  cases m with
  | zero => exact hx.elim
  | succ m =>
    have hx : wp ((c x >>= fun t => if t = true then b x >>= fun
      | .nx x' => whileM c b m x'
      | .rt z => .ok (.rt z)
    else .ok (.nx x)) >>= k) Q E := hx
    rw [wp_bind, wp_bind] at hx
    cases e : c x with
    | error e2 => rw [e] at hx; cases e2 <;> exact hx
    | ok t =>
      rw [e] at hx
      cases t with
      | false => exact hx
      | true =>
        refine ⟨m, Nat.lt_succ_self m, ?_⟩
        have hx : wp (b x >>= fun
          | .nx x' => whileM c b m x'
          | .rt z => .ok (.rt z)) (fun x => wp (k x) Q E) E := hx
        rw [wp_bind] at hx
        cases e : b x with
        | error e2 => rw [e] at hx; cases e2 <;> exact hx
        | ok z =>
          rw [e] at hx
          cases z with
          | nx z => exact wp_bind.mpr hx
          | rt z => exact hx
/-- a comprehension: what it has made so far, then the items left; no exception leaves it -/
def compX (b : i → s → M (Option c × s)) : List i → List c → s → M (List c × s)
  | [], acc, x => .ok (acc, x)
  | y :: ys, acc, x => nox (b y x) >>= fun p => compX b ys (match p.1 with
    | some z => acc ++ [z]
    | none => acc) p.2
/-- the list is short enough -/
def compS (b : i → s → M (Option c × s)) (xs : List i) (x : s) : M (List c × s) := chk (xs.length < 16777216) >>= fun _ => compX b xs [] x
theorem compX_L {b : i → s → M (Option c × s)} {k : List c × s → M a} : ∀ {xs : List i} {acc : List c} {x : s}, wp (compX b xs acc x >>= k) Q E →
    ∃ L : List i → List c → s → Prop, L xs acc x ∧ (∀ y ys acc x, L (y :: ys) acc x → wp (b y x) (fun p => L ys (match p.1 with
      | some z => acc ++ [z]
      | none => acc) p.2) (fun _ => False)) ∧ ∀ acc x, L [] acc x → wp (k (acc, x)) Q E := by
  intro xs acc x h
  refine ⟨fun ys acc x => wp (compX b ys acc x >>= k) Q E, h, fun y ys acc x hx => ?_, fun acc x hx => hx⟩
  have hx : wp ((nox (b y x) >>= fun p => compX b ys (match p.1 with
    | some z => acc ++ [z]
    | none => acc) p.2) >>= k) Q E := hx
  rw [wp_bind] at hx
  obtain ⟨p, e, hx⟩ := wp_nox hx
  rw [e]
  exact wp_bind.mpr hx
theorem compS_L {b : i → s → M (Option c × s)} {k : List c × s → M a} {xs : List i} {x : s} (h : wp (compS b xs x >>= k) Q E) : xs.length < 16777216 ∧
    ∃ L : List i → List c → s → Prop, L xs [] x ∧ (∀ y ys acc x, L (y :: ys) acc x → wp (b y x) (fun p => L ys (match p.1 with
      | some z => acc ++ [z]
      | none => acc) p.2) (fun _ => False)) ∧ ∀ acc x, L [] acc x → wp (k (acc, x)) Q E := by
  unfold compS at h
  rw [wp_bind] at h
  obtain ⟨h1, h2⟩ := wp_chk h
  exact ⟨h1, compX_L (wp_bind.mpr h2)⟩
end
theorem drop_at {a : Type} {xs : List a} {i : Nat} {x : a} (h : xs[i]? = some x) : xs.drop i = x :: xs.drop (i + 1) := by
  obtain ⟨h1, h2⟩ := List.getElem?_eq_some_iff.mp h
  rw [List.drop_eq_getElem_cons h1, h2]
theorem drop_end {a : Type} {xs : List a} {vs : List V} (h : vs.length = xs.length) : xs.drop vs.length = [] := by
  rw [h, List.drop_length]

/-! ### a def as it stands -/
structure Df (K : PySem.W.Frag) (mg : Str → Option Value) (x qual : Str) (st : Stmt) (ps : List Str) : Prop where
  ex : ∃ f fd, Fun K x qual st f fd ∧ mg x = some (.ref f) ∧ Binds K fd ps []
structure Ca (P : Program) (w : World) (K : PySem.W.Frag) (mg : Str → Option Value) (base : Heap) (x : Str) (k : Nat) (ps : List Str) (sp : Sp) : Prop where
  ex : ∃ f fd, FnOk P w K mg base (L2.CX P w) k f fd ps sp ∧ mg x = some (.ref f) ∧ PySem.W.keepIn K (.ref f) = true ∧ Binds K fd ps []
/-- an exception class of the program -/
structure Xc (K : PySem.W.Frag) (mg : Str → Option Value) (x : Str) (C : Addr) : Prop where
  g : mg x = some (.ref C)
  x : PySem.W.excIn K C [.type "ValueError", .type "Exception", .type "BaseException", .type "object"] "ValueError.__new__" = true
  k : PySem.W.keepIn K (.ref C) = true
  b : PySem.W.subIn K (.ref C) (.type "BaseException") = some true
  t : PySem.W.typeIn K (.ref C) = some (.type "type")
section
variable {P : Program} {w : World} {K : PySem.W.Frag} {mg : Str → Option Value} {base : Heap}
theorem Ca.mk' {x qual : Str} {st : Stmt} {N ps : List Str} {k : Nat} {sp : Sp} (D : Df K mg x qual st ps) (S : FnScope N ps (defScope st)) (len : ∀ vs H Q E, sp vs H Q E → vs.length = ps.length)
    (hbody : ∀ (qual' : Str) (f : Addr) (cdv : Value) (A : Around) (outer : List Env) (s : Shared) (H : Hp) (vs : List V) (Q : VK) (E : XK), Room k (A.deeper (envOfC qual (defScope st) s.heap.objs.size f cdv)) → sp vs H Q E →
      ∃ t, PSs (cxOf (L2.CX P w) P w K mg base N qual (defScope st) f cdv A outer s H E) (defBody st) t ∧ t { nx := fun _ H' => Q .non H', rt := Q } (start N vs) H) : Ca P w K mg base x (k + 1) ps sp := by
  obtain ⟨f, fd, F, m, b⟩ := D.ex
  exact ⟨f, fd, F.okX S len fun cdv A outer s H vs Q E hr h => hbody qual f cdv A outer s H vs Q E hr h, m, F.kp, b⟩
end
section
variable {X : Cx}
/-- len of a list or tuple -/
def rLenT : List V → Hp → VK → Prop := fun vs H Q => ∃ (l : Addr) (ws : List V) (n : Nat), vs = [.ref l] ∧ (H l = some (.lst ws) ∨ H l = some (.tup ws)) ∧ ws.length = n ∧ Q (.int n) H
theorem call_lenT : CallR X (.builtin "len") rLenT := by
  intro pins s σ H vs us Q I r h
  obtain ⟨l, ws, n, e, hl, rfl, k⟩ := h
  refine call_len_seq pins s σ H vs us Q I r ⟨l, ws, e, ?_, k⟩
  rcases hl with hl | hl
  · exact .inl (SqL.of hl)
  · exact .inr (SqT.of hl)
end

section
variable {Z : Ent} {F F' H H' : Hp} {cs : List (Addr × HO)} {p a : Addr} {o o' : HO}
theorem Ow.putE (O : Ow Z F cs H) (h : H p = none) (o : HO) : ∃ F', Ow Z F' cs (upd H p o) ∧ Same F F' ∧ F' p = some o := ⟨_, O.put h, O.putS h, upd_same⟩
theorem Ow.was (O : Ow Z F cs H) (h : H p = none) : Z.H p = none := by
  cases q : Z.H p with
  | none => rfl
  | some u => exact absurd h (O.g.t p (by rw [q]; simp))
theorem Ow.frzE (O : Ow Z F cs H) (i : Nat) (e : cs[i]? = some (a, o)) (hz : Z.H a = none) : ∃ F', Ow Z F' (cs.eraseIdx i) H ∧ Same F F' ∧ F' a = some o := ⟨_, O.frz i e hz, O.frzS i e, upd_same⟩
/-- a cell that a call made -/
theorem Ow.got (O : Ow Z F cs H) (O' : Ow Z F' cs' H') (hk : cs'.map (·.1) = cs.map (·.1)) (hn : H p = none) (hf : F' p = none) (h : H' p = some o) (ht : noTup o = true := by rfl) : Ow Z F' ((p, o) :: cs') H' :=
  O'.add O (fun c hc => by rw [← hk]; exact List.mem_map.mpr ⟨c, hc, rfl⟩) hn hf h ht
end
theorem rangeL_get0 {n : Int} {i : Nat} (h : i < n.toNat) : (rangeL 0 n).drop i = (0 + (i : Int)) :: (rangeL 0 n).drop (i + 1) := rangeL_get (by simpa using h)
theorem rangeL_end0 {n : Int} : (rangeL 0 n).drop n.toNat = [] := by
  have := rangeL_end (lo := 0) (hi := n)
  simpa using this
theorem iteD {c A B : Prop} [Decidable c] (h1 : c → A) (h2 : ¬ c → B) : if decide c = true then A else B := by
  by_cases h : c
  · rw [decide_eq_true h, if_pos rfl]; exact h1 h
  · rw [decide_eq_false h, if_neg Bool.false_ne_true]; exact h2 h
theorem iteN {c A B : Prop} [Decidable c] (h1 : c → B) (h2 : ¬ c → A) : if (!decide c) = true then A else B := by
  by_cases h : c
  · rw [decide_eq_true h]; exact h1 h
  · rw [decide_eq_false h]; exact h2 h
theorem iteB {b : Bool} {A B : Prop} (h1 : b = true → A) (h2 : ¬ b = true → B) : if b = true then A else B := by
  cases b with
  | true => exact h1 rfl
  | false => exact h2 Bool.false_ne_true
theorem iteBN {b : Bool} {A B : Prop} (h1 : b = true → B) (h2 : ¬ b = true → A) : if (!b) = true then A else B := by
  cases b with
  | true => exact h1 rfl
  | false => exact h2 Bool.false_ne_true
theorem iteNT {A B : Prop} (h : B) : if (!true) = true then A else B := h
theorem iteNF {A B : Prop} (h : A) : if (!false) = true then A else B := h
theorem wp_if {a : Type} {Q : a → Prop} {E : String → Prop} {c : Prop} [Decidable c] {x y : M a} (h : wp (if c then x else y) Q E) (hc : c) : wp x Q E := by
  rw [if_pos hc] at h
  exact h
theorem wp_el {a : Type} {Q : a → Prop} {E : String → Prop} {c : Prop} [Decidable c] {x y : M a} (h : wp (if c then x else y) Q E) (hc : ¬ c) : wp y Q E := by
  rw [if_neg hc] at h
  exact h

theorem hu128_of {A : Around} {k : Nat} (hr : Room k A) : A.units + 128 < cLine := by have := hr.un; omega
def cutL {a : Type} (xs : List a) (lo hi : Option Int) : List a := (xs.drop (HT.sIx xs.length 0 lo)).take (HT.sIx xs.length xs.length hi - HT.sIx xs.length 0 lo)
theorem RL.cutL {a : Type} [Py a] {H : Hp} {vs : List V} {xs : List a} (h : RL H vs xs) (lo hi : Option Int) : RL H (cutV vs lo hi) (PG.cutL xs lo hi) := h.cut lo hi
theorem RL.last {a : Type} [Py a] {H : Hp} {vs : List V} {xs : List a} {y : a} (h : RL H vs xs) (e : xs[xs.length - 1]? = some y) : ∃ w, vs[vs.length - 1]? = some w ∧ R H w y := by
  obtain ⟨w, e1, h1⟩ := h.get e
  exact ⟨w, by rw [h.len]; exact e1, h1⟩

theorem okR.rg1 {n : Int} (h : okR n) : RgOk 0 n := by
  obtain ⟨a, b⟩ := h
  exact ⟨by omega, by omega, by omega, by omega, by omega⟩
theorem rgV_eq (a b : Int) : rgV a b = (rangeL a b).map V.int := by
  unfold rgV rangeL
  rw [List.map_map]
  rfl
theorem RL.rg {H : Hp} {a b : Int} : RL H (rgV a b) (rangeL a b) := by
  rw [rgV_eq]
  exact RL.of_ints

theorem comp_len {b : Type} {w vs : List V} {xs : List b} {i : Nat} {x : V} (la : w.length ≤ i) (hi : vs[i]? = some x) (hl : vs.length = xs.length) (c : xs.length < 16777216) : w.length < sizeLine := by
  have := (List.getElem?_eq_some_iff.mp hi).1
  exact lt_line (by omega)
theorem rangeL_length (lo hi : Int) : (rangeL lo hi).length = (hi - lo).toNat := by
  unfold rangeL
  simp
theorem comp_lenR {w : List V} {lo hi : Int} {i n : Nat} (la : w.length ≤ i) (h : i < n) (e : (hi - lo).toNat = n) (c : (rangeL lo hi).length < 16777216) : w.length < sizeLine := by
  rw [rangeL_length] at c
  exact lt_line (by omega)
theorem tYes_ {σ : L2.St} {H : Hp} {Q : Bool → Hp → Prop} (h : Q true H) : tYes σ H Q := h

/-! lists of own lists of ints -/
abbrev LC := Addr × List Int
def lcell (c : LC) : Addr × HO := (c.1, .lst (c.2.map V.int))
theorem Ow.perm {Z : Ent} {F H : Hp} {cs cs' : List (Addr × HO)} (O : Ow Z F cs H) (h : cs.Perm cs') : Ow Z F cs' H where
  g := O.g
  cf := fun c hc => O.cf c (h.mem_iff.mpr hc)
  ch := fun c hc => O.ch c (h.mem_iff.mpr hc)
  nd := (h.map _).nodup_iff.mp O.nd
  ca := fun c hc => O.ca c (h.mem_iff.mpr hc)
  nt := fun c hc => O.nt c (h.mem_iff.mpr hc)
theorem Ow.sub {Z : Ent} {F H : Hp} {cs cs' : List (Addr × HO)} (O : Ow Z F cs H) (h : cs'.Sublist cs) : Ow Z F cs' H where
  g := O.g
  cf := fun c hc => O.cf c (h.subset hc)
  ch := fun c hc => O.ch c (h.subset hc)
  nd := O.nd.sublist (h.map _)
  ca := fun c hc => O.ca c (h.subset hc)
  nt := fun c hc => O.nt c (h.subset hc)
/-- a new list of new lists -/
structure OwnLL (H F' H' : Hp) (p : Addr) (ps : List LC) : Prop where
  pn : H p = none
  pf : F' p = none
  ph : H' p = some (.lst (ps.map fun c => V.ref c.1))
  qn : ∀ c ∈ ps, H c.1 = none
  qf : ∀ c ∈ ps, F' c.1 = none
  qh : ∀ c ∈ ps, H' c.1 = some (.lst (c.2.map V.int))
  nd : (p :: ps.map (·.1)).Nodup
theorem OwnLL.frz {F H F' H' : Hp} {p : Addr} {ps : List LC} {as : List Addr} (G : Gr as F H F' H') (L : OwnLL H F' H' p ps) :
    ∃ F2, Gr as F H F2 H' ∧ F2 p = none ∧ RL F2 (ps.map fun c => V.ref c.1) (ps.map (·.2)) := by
  refine ⟨fun b => if b ∈ ps.map (·.1) then H' b else F' b, ⟨fun b o e => ?_, fun b o e => ?_, G.k, G.t, fun b e => ?_, G.u⟩, ?_, ?_⟩
  · have h1 := G.f b o e
    by_cases hb : b ∈ ps.map (·.1)
    · obtain ⟨c, hc, rfl⟩ := List.mem_map.mp hb
      rw [L.qf c hc] at h1
      cases h1
    · show (if b ∈ ps.map (·.1) then H' b else F' b) = some o
      rw [if_neg hb]
      exact h1
  · have e : (if b ∈ ps.map (·.1) then H' b else F' b) = some o := e
    by_cases hb : b ∈ ps.map (·.1)
    · rw [if_pos hb] at e
      exact e
    · rw [if_neg hb] at e
      exact G.s b o e
  · show (if b ∈ ps.map (·.1) then H' b else F' b) = F b ∨ _
    have hb : b ∉ ps.map (·.1) := fun hb => by
      obtain ⟨c, hc, rfl⟩ := List.mem_map.mp hb
      exact e (L.qn c hc)
    rw [if_neg hb]
    exact G.n b e
  · show (if p ∈ ps.map (·.1) then H' p else F' p) = none
    rw [if_neg (List.nodup_cons.mp L.nd).1]
    exact L.pf
  · have all : ∀ l : List LC, (∀ c ∈ l, c ∈ ps) → RL (fun b => if b ∈ ps.map (·.1) then H' b else F' b) (l.map fun c => V.ref c.1) (l.map (·.2)) := by
      intro l
      induction l with
      | nil => intro _; exact RL.nil
      | cons c l ih =>
        intro h
        have hc := h c List.mem_cons_self
        refine RL.cons (R.lst (vs := c.2.map V.int) ?_ RL.of_ints) (ih fun d hd => h d (List.mem_cons_of_mem _ hd))
        show (if c.1 ∈ ps.map (·.1) then H' c.1 else F' c.1) = _
        rw [if_pos (List.mem_map.mpr ⟨c, hc, rfl⟩)]
        exact L.qh c hc
    exact all ps fun _ h => h
theorem FnOk.impC {P : Program} {w : World} {K : PySem.W.Frag} {mg : Str → Option Value} {base : Heap} {x : Str} {k : Nat} {ps : List Str} {sp sp' : Sp} (F : Ca P w K mg base x k ps sp) (h : ∀ vs H Q E, sp' vs H Q E → sp vs H Q E) : Ca P w K mg base x k ps sp' := by
  obtain ⟨f, fd, G, m, kp, b⟩ := F.ex
  exact ⟨f, fd, G.imp h, m, kp, b⟩
theorem wp_mono {a : Type} {Q Q' : a → Prop} {E : String → Prop} {m : M a} (h : wp m Q E) (f : ∀ r, Q r → Q' r) : wp m Q' E := wp_tail h (fun r _ q => f r q) fun _ e => e
/-- a scalar call that reads a cell: the cell is as it was, and nothing of the call is kept -/
theorem Ow.borrow {Z : Ent} {F F1 F' H H' : Hp} {cs : List (Addr × HO)} (O : Ow Z F cs H) (s1 : Same F F1) (g : Gr [] F1 H F' H') : Ow Z F cs H' where
  g := ⟨O.g.f, (s1.trans g.f).trans g.s, fun b o hb e => g.k b o (fun h => nomatch h) (O.g.k b o hb e), fun b e => g.t b (O.g.t b e), O.g.n, fun b xs e => by
    rcases g.u b xs e with z | z
    · refine .inl ?_
      cases q : Z.H b with
      | none => rfl
      | some u => exact absurd z (O.g.t b (by rw [q]; simp))
    · exact O.g.u b xs z⟩
  cf := O.cf
  ch := fun c hc => g.k _ _ (fun h => nomatch h) (O.ch c hc)
  nd := O.nd
  ca := O.ca
  nt := O.nt
theorem Ow.lend {Z : Ent} {F H : Hp} {cs : List (Addr × HO)} {a : Addr} {o : HO} (O : Ow Z F cs H) (i : Nat) (e : cs[i]? = some (a, o)) : ∃ F1, Same F F1 ∧ Pre F1 [] H ∧ F1 a = some o := by
  have m := List.mem_of_getElem? e
  refine ⟨upd F a o, Same.new (O.cf _ m), ⟨fun b u q => ?_, (fun _ h => nomatch h), (fun _ h => nomatch h), List.nodup_nil, fun _ h => nomatch h⟩, upd_same⟩
  by_cases hb : b = a
  · subst hb; rw [upd_same] at q; rw [← q]; exact O.ch _ m
  · rw [upd_ne hb] at q; exact O.s b u q

abbrev lrefs (ps : List LC) : List V := ps.map fun (c : LC) => V.ref c.1

def ret {a : Type} (x : a) : M a := .ok x
theorem wp_ret {a b : Type} {Q : a → Prop} {E : String → Prop} {x : b} {k : b → M a} (h : wp (ret x >>= k) Q E) : ∃ y, y = x ∧ wp (k y) Q E := ⟨x, rfl, h⟩

/-- tuples that stand may be read -/
theorem Ow.tups {Z : Ent} {F H : Hp} {cs : List (Addr × HO)} (O : Ow Z F cs H) (bs : List Addr) (h : ∀ b ∈ bs, ∃ xs, H b = some (.tup xs)) : ∃ F', Ow Z F' cs H ∧ Same F F' ∧ ∀ b ∈ bs, F' b = H b := by
  refine ⟨fun b => if b ∈ bs then H b else F b, ⟨⟨fun b o e => ?_, fun b o e => ?_, O.g.k, O.g.t, fun b e => ?_, O.g.u⟩, fun c hc => ?_, O.ch, O.nd, O.ca, O.nt⟩, fun b o e => ?_, fun b hb => if_pos hb⟩
  · have h1 := O.g.f b o e
    show (if b ∈ bs then H b else F b) = some o
    by_cases hb : b ∈ bs
    · rw [if_pos hb]; exact O.s b o h1
    · rw [if_neg hb]; exact h1
  · have e : (if b ∈ bs then H b else F b) = some o := e
    by_cases hb : b ∈ bs
    · rw [if_pos hb] at e; exact e
    · rw [if_neg hb] at e; exact O.s b o e
  · show (if b ∈ bs then H b else F b) = Z.F b ∨ _
    by_cases hb : b ∈ bs
    · obtain ⟨xs, hx⟩ := h b hb
      rcases O.g.u b xs hx with z | z
      · exact absurd z e
      · exact .inr ⟨xs, z⟩
    · rw [if_neg hb]; exact O.g.n b e
  · show (if c.1 ∈ bs then H c.1 else F c.1) = none
    by_cases hb : c.1 ∈ bs
    · obtain ⟨xs, hx⟩ := h c.1 hb
      have hn := O.nt c hc
      rw [O.ch c hc] at hx
      rw [Option.some.inj hx] at hn
      cases hn
    · rw [if_neg hb]; exact O.cf c hc
  · show (if b ∈ bs then H b else F b) = some o
    by_cases hb : b ∈ bs
    · rw [if_pos hb]; exact O.s b o e
    · rw [if_neg hb]; exact e
end PG

set_option Elab.async false
set_option linter.all false
set_option maxRecDepth 100000
set_option maxHeartbeats 4000000
namespace PG
open PySem PySem.Spec PyProof.Rows L2
open PySem.W (T3 T4 Datum DatumOrd Holds HoldAll EachIs)

theorem u1_of {n : Nat} (h : n + 64 < cLine) : n + 1 < cLine := Nat.lt_of_le_of_lt (Nat.add_le_add_left (by decide) _) h
/-! ### dicts: what stands for a key -/
class DK (κ : Type) (K' : outParam Type) where
  kk : κ → K'
  inj : ∀ a b, kk a = kk b → a = b
instance : DK Int Key := ⟨Sum.inl, fun _ _ h => Sum.inl.inj h⟩
instance : DK Str Key := ⟨Sum.inr, fun _ _ h => Sum.inr.inj h⟩
instance : DK (Int × Int) (List Key) := ⟨fun p => [.inl p.1, .inl p.2], fun a b h => by
  injection h with h1 h2
  injection h2 with h2 _
  exact Prod.ext (Sum.inl.inj h1) (Sum.inl.inj h2)⟩
section
variable {κ K' β : Type} [DK κ K'] [Py β]
inductive RD (F : Hp) : List (K' × V) → List (κ × β) → Prop
  | nil : RD F [] []
  | cons {k : κ} {v : V} {y : β} {kvs : List (K' × V)} {xs : List (κ × β)} : R F v y → RD F kvs xs → RD F ((DK.kk k, v) :: kvs) ((k, y) :: xs)
variable {F F' : Hp}
theorem RD.mono {kvs : List (K' × V)} {xs : List (κ × β)} (h : RD F kvs xs) (s : Same F F') : RD F' kvs xs := by
  induction h with
  | nil => exact .nil
  | cons h _ ih => exact .cons (h.mono s) ih
theorem RD.len {kvs : List (K' × V)} {xs : List (κ × β)} (h : RD F kvs xs) : kvs.length = xs.length := by
  induction h with
  | nil => rfl
  | cons h _ ih => rw [List.length_cons, List.length_cons, ih]
theorem RD.keys {kvs : List (K' × V)} {xs : List (κ × β)} (h : RD F kvs xs) : kvs.map (·.1) = (xs.map (·.1)).map DK.kk := by
  induction h with
  | nil => rfl
  | cons h _ ih => rw [List.map_cons, List.map_cons, List.map_cons, ih]
end
section
variable {κ K' β : Type} [DK κ K'] [DecidableEq κ] [DecidableEq K'] [Py β] {F F' : Hp}
def dGet (xs : List (κ × β)) (k : κ) : Option β := (xs.find? fun p => decide (p.1 = k)).map (·.2)
def dPut (xs : List (κ × β)) (k : κ) (y : β) : List (κ × β) :=
  if (xs.any fun p => decide (p.1 = k)) = true then xs.map (fun p => if p.1 = k then (p.1, y) else p) else xs ++ [(k, y)]
def dHas (xs : List (κ × β)) (k : κ) : Bool := (dGet xs k).isSome
theorem kk_dec {a b : κ} : decide ((DK.kk a : K') = DK.kk b) = decide (a = b) := by
  by_cases h : a = b
  · subst h; simp
  · rw [decide_eq_false h, decide_eq_false fun z => h (DK.inj a b z)]
theorem dGet_pos {p : κ × β} {r : List (κ × β)} {k : κ} (e : p.1 = k) : dGet (p :: r) k = some p.2 := by simp [dGet, List.find?_cons, e]
theorem dGet_neg {p : κ × β} {r : List (κ × β)} {k : κ} (e : ¬ p.1 = k) : dGet (p :: r) k = dGet r k := by simp [dGet, List.find?_cons, e]
theorem RD.get {kvs : List (K' × V)} {xs : List (κ × β)} (h : RD F kvs xs) (k : κ) :
    (dGet xs k = none ∧ valV kvs (DK.kk k) = none) ∨ ∃ y v, dGet xs k = some y ∧ valV kvs (DK.kk k) = some v ∧ R F v y := by
  induction h with
  | nil => exact .inl ⟨rfl, rfl⟩
  | @cons j v y kvs xs h hs ih =>
    by_cases e : j = k
    · exact .inr ⟨y, v, dGet_pos e, valV_pos (by rw [e]), h⟩
    · rw [dGet_neg (p := (j, y)) e, valV_neg (fun z => e (DK.inj j k z))]
      exact ih
theorem RD.some {kvs : List (K' × V)} {xs : List (κ × β)} (h : RD F kvs xs) {k : κ} {y : β} (e : dGet xs k = some y) : ∃ v, valV kvs (DK.kk k) = some v ∧ R F v y := by
  rcases h.get k with ⟨a, _⟩ | ⟨y', v, a, b, c⟩
  · rw [e] at a; cases a
  · rw [e] at a; cases a; exact ⟨v, b, c⟩
theorem RD.is {kvs : List (K' × V)} {xs : List (κ × β)} (h : RD F kvs xs) (k : κ) : (valV kvs (DK.kk k)).isSome = dHas xs k := by
  unfold dHas
  rcases h.get k with ⟨a, b⟩ | ⟨y', v, a, b, c⟩
  · rw [a, b]; rfl
  · rw [a, b]; rfl
theorem RD.map {kvs : List (K' × V)} {xs : List (κ × β)} (h : RD F kvs xs) (k : κ) {v : V} {y : β} (hv : R F v y) :
    RD F (kvs.map fun kv => if kv.1 = DK.kk k then (kv.1, v) else kv) (xs.map fun p => if p.1 = k then (p.1, y) else p) := by
  induction h with
  | nil => exact .nil
  | @cons j u z kvs xs h hs ih =>
    rw [List.map_cons, List.map_cons]
    by_cases e : j = k
    · rw [if_pos e, if_pos (show (DK.kk j, u).1 = DK.kk k by rw [e])]
      exact .cons hv ih
    · rw [if_neg e, if_neg (show ¬ (DK.kk j, u).1 = DK.kk k from fun z => e (DK.inj j k z))]
      exact .cons h ih
theorem RD.snoc {kvs : List (K' × V)} {xs : List (κ × β)} (h : RD F kvs xs) (k : κ) {v : V} {y : β} (hv : R F v y) : RD F (kvs ++ [(DK.kk k, v)]) (xs ++ [(k, y)]) := by
  induction h with
  | nil => exact .cons hv .nil
  | cons h _ ih => exact .cons h ih
theorem RD.any {kvs : List (K' × V)} {xs : List (κ × β)} (h : RD F kvs xs) (k : κ) : (kvs.any fun kv => decide (kv.1 = DK.kk k)) = (xs.any fun p => decide (p.1 = k)) := by
  induction h with
  | nil => rfl
  | @cons j u z kvs xs h hs ih => rw [List.any_cons, List.any_cons, ih, kk_dec]
theorem RD.put {kvs : List (K' × V)} {xs : List (κ × β)} (h : RD F kvs xs) (k : κ) {v : V} {y : β} (hv : R F v y) : RD F (putK kvs (DK.kk k) v) (dPut xs k y) := by
  unfold putK dPut
  rw [h.any k]
  by_cases e : (xs.any fun p => decide (p.1 = k)) = true
  · rw [if_pos e, if_pos e]; exact h.map k hv
  · rw [if_neg e, if_neg e]; exact h.snoc k hv
def putD (xs : List (κ × β)) (k : κ) (y : β) : M (List (κ × β)) := if xs.length < 16777216 then .ok (dPut xs k y) else bad
theorem wp_putD {a : Type} {Q : a → Prop} {E : String → Prop} {xs : List (κ × β)} {j : κ} {y : β} {k : List (κ × β) → M a} (h : wp (putD xs j y >>= k) Q E) : xs.length < sizeLine ∧ wp (k (dPut xs j y)) Q E := by
  unfold putD at h
  by_cases hl : xs.length < 16777216
  · rw [if_pos hl] at h
    exact ⟨lt_line hl, h⟩
  · rw [if_neg hl] at h
    exact h.elim
end
/-- a dict that is read alone -/
class DO (K' : Type) where
  ho : List (K' × V) → HO
instance : DO Key := ⟨.dK⟩
instance : DO (List Key) := ⟨.dT⟩
section
variable {κ K' β : Type} [DK κ K'] [Py β] [DO K'] {F F' H : Hp} {v : V} {a b : Addr}
def RDv (F : Hp) (v : V) (xs : List (κ × β)) : Prop := ∃ (a : Addr) (kvs : List (K' × V)), v = .ref a ∧ F a = some (DO.ho kvs) ∧ RD F kvs xs
theorem RDv.mono {xs : List (κ × β)} (h : RDv F v xs) (s : Same F F') : RDv F' v xs := by
  obtain ⟨a, kvs, e, h1, h2⟩ := h
  exact ⟨a, kvs, e, s _ _ h1, h2.mono s⟩
theorem RDv.mk {xs : List (κ × β)} {kvs : List (K' × V)} (h : F a = some (DO.ho kvs)) (hr : RD F kvs xs) : RDv F (.ref a) xs := ⟨a, kvs, rfl, h, hr⟩
end
section
variable {β : Type} [Py β] {F H : Hp} {a b : Addr}
theorem dget_T {kvs : List (List Key × V)} {i j : Int} {v : V} (e : H a = some (.dT kvs)) (eb : H b = some (.tup [.int i, .int j])) (hv : valV kvs (DK.kk (i, j)) = some v) : DGet H a (.ref b) (some v) := by
  rw [← hv]
  exact DGet.t (k := [.inl i, .inl j]) e eb
theorem dget_I {kvs : List (Key × V)} {i : Int} {v : V} (e : H a = some (.dK kvs)) (hv : valV kvs (DK.kk i) = some v) : DGet H a (.int i) (some v) := by
  rw [← hv]
  exact DGet.k (k := .inl i) e
theorem dget_S {kvs : List (Key × V)} {i : Str} {v : V} (e : H a = some (.dK kvs)) (hv : valV kvs (DK.kk i) = some v) : DGet H a (.str i) (some v) := by
  rw [← hv]
  exact DGet.k (k := .inr i) e
theorem din_T {kvs : List (List Key × V)} {i j : Int} {xs : List ((Int × Int) × β)} (e : H a = some (.dT kvs)) (eb : H b = some (.tup [.int i, .int j])) (hr : RD F kvs xs) : ∃ o, DGet H a (.ref b) o ∧ o.isSome = dHas xs (i, j) :=
  ⟨_, DGet.t (k := [.inl i, .inl j]) e eb, hr.is (i, j)⟩
theorem din_I {kvs : List (Key × V)} {i : Int} {xs : List (Int × β)} (e : H a = some (.dK kvs)) (hr : RD F kvs xs) : ∃ o, DGet H a (.int i) o ∧ o.isSome = dHas xs i :=
  ⟨_, DGet.k (k := .inl i) e, hr.is i⟩
theorem din_S {kvs : List (Key × V)} {i : Str} {xs : List (Str × β)} (e : H a = some (.dK kvs)) (hr : RD F kvs xs) : ∃ o, DGet H a (.str i) o ∧ o.isSome = dHas xs i :=
  ⟨_, DGet.k (k := .inr i) e, hr.is i⟩
theorem dput_T {kvs : List (List Key × V)} {i j : Int} {v : V} (e : H a = some (.dT kvs)) (eb : H b = some (.tup [.int i, .int j])) (hl : kvs.length < sizeLine) : DPut H a (.ref b) v (upd H a (.dT (putK kvs (DK.kk (i, j)) v))) := DPut.t (k := [.inl i, .inl j]) e eb hl
theorem dput_I {kvs : List (Key × V)} {i : Int} {v : V} (e : H a = some (.dK kvs)) (hl : kvs.length < sizeLine) : DPut H a (.int i) v (upd H a (.dK (putK kvs (DK.kk i) v))) := DPut.k (k := .inl i) e hl
theorem dput_S {kvs : List (Key × V)} {i : Str} {v : V} (e : H a = some (.dK kvs)) (hl : kvs.length < sizeLine) : DPut H a (.str i) v (upd H a (.dK (putK kvs (DK.kk i) v))) := DPut.k (k := .inr i) e hl
end
/-! sorted(d), the keys pairs of whole numbers -/
theorem keys_tups {H : Hp} {kvs : List (List Key × V)} {bs : List Addr} (h : IsKeys H kvs bs) : ∀ b ∈ bs, ∃ xs, H b = some (.tup xs) := by
  unfold IsKeys at h
  induction h with
  | nil => intro b hb; simp at hb
  | cons h t ih =>
    intro c hc
    rcases List.mem_cons.mp hc with rfl | hc
    · exact ⟨_, h⟩
    · exact ih c hc
theorem keys_rl {H : Hp} {kvs : List (List Key × V)} {bs : List Addr} (h : IsKeys H kvs bs) : ∀ {ks : List (Int × Int)}, kvs.map (·.1) = ks.map DK.kk → RL H (bs.map V.ref) ks := by
  unfold IsKeys at h
  induction h with
  | nil =>
    intro ks e
    cases ks with
    | nil => exact RL.nil
    | cons k ks => simp at e
  | cons h t ih =>
    intro ks e
    cases ks with
    | nil => simp at e
    | cons k ks =>
      rw [List.map_cons, List.map_cons] at e
      injection e with e1 e2
      rw [e1] at h
      exact RL.cons (R.t2 h R.int R.int) (ih e2)
theorem keys_in {H F : Hp} {kvs : List (List Key × V)} {bs : List Addr} {ks : List (Int × Int)} (h : IsKeys H kvs bs) (hf : ∀ b ∈ bs, F b = H b) (e : kvs.map (·.1) = ks.map DK.kk) : RL F (bs.map V.ref) ks := by
  refine keys_rl ?_ e
  unfold IsKeys at h ⊢
  clear e
  induction h with
  | nil => exact .nil
  | @cons x b xs bs h t ih =>
    refine .cons ?_ (ih fun c hc => hf c (List.mem_cons_of_mem _ hc))
    rw [hf b List.mem_cons_self]
    exact h
section
variable {X : Cx}
theorem cr_sortedDT (hcalm : X.calm = true) (hu : X.A.units + 128 < cLine) : CallR X (.builtin "sorted") (fun xs H Q => ∃ (d : Addr) (kvs : List (List Key × V)) (ks : List (Int × Int)), xs = [.ref d] ∧ H d = some (.dT kvs) ∧ kvs.map (·.1) = ks.map DK.kk ∧
    ∀ (bs : List Addr) (p : Addr), IsKeys H kvs bs → H p = none → Q (.ref p) (upd H p (.lst (sortV (bs.map V.ref) ks)))) := by
  intro pins s σ H xs us Q I r q
  obtain ⟨d, kvs, ks', ex, hd, hks, q⟩ := q
  subst ex
  obtain ⟨u, eu, rx⟩ := vals1 r
  subst eu
  cases rx
  obtain ⟨z, hs, ks, pr, o, es, ep, ho, hx, hdt, he, hn⟩ := (show ObjOk X.prog X.w H s.heap d (.dT kvs) from I.hok d _ hd)
  have l1 : es.size = ks.length := size_of_entries he
  have l2 : kvs.length = ks.length := Paired.length pr
  refine Calls.call_function_entry PyProof.Rows.kind_sorted PyProof.Rows.plain_sorted PyProof.Rows.entry_sorted (PyProof.Rows.args_sorted1 _) ?_
  unfold Builtin.«sorted»
  refine wpAny_bind (m := checkCount "sorted" 1 1 _) (wpAny_pure ?_)
  refine wpAny_bind (PySem.W.kdu_collect (A := X.A.in1) (kdl_raw hs hx hdt) (I.ok.hd hcalm) ho (by omega) fun h' tk acc kp it => ?_)
  have ea : acc.toList = ks.map fun x => Value.ref x.2.1 := by
    have hl : acc.toList.length = ks.length := by rw [Array.length_toList, it.1]; exact l1
    apply List.ext_getElem?
    intro j
    rw [List.getElem?_map]
    cases hj : acc.toList[j]? with
    | none =>
      have h1 := List.getElem?_eq_none_iff.mp hj
      rw [List.getElem?_eq_none (by omega)]
      all_goals rfl
    | some v =>
      obtain ⟨en, hen, hv⟩ := it.2 j v (by rw [← Array.getElem?_toList]; exact hj)
      have qe := entry_at he j
      rw [hen] at qe
      cases hb : ks[j]? with
      | none =>
        rw [hb] at qe
        exact nomatch (show some en = none from qe)
      | some b =>
        rw [hb] at qe
        have e2 : en = entryOfKey (tupleKind (mixKind X.prog X.w)) b := Option.some.inj qe
        rw [hv, e2]
        all_goals rfl
  have eb : acc.toList = (ks.map fun (x : List Key × Addr × Value) => x.2.1).map Value.ref := by rw [ea, List.map_map]; all_goals rfl
  have rv : Vals ((ks.map fun (x : List Key × Addr × Value) => x.2.1).map V.ref) acc.toList := by rw [eb]; exact vals_refs _
  have hik : IsKeys H kvs (ks.map fun (x : List Key × Addr × Value) => x.2.1) := isKeys_of pr
  have hrl := keys_rl hik hks
  have hlen : ((ks.map fun (x : List Key × Addr × Value) => x.2.1).map V.ref).length = ks'.length := hrl.len
  have hal : acc.toList.length = ks.length := by rw [ea, List.length_map]
  have I1 : Inv X pins σ H { s with heap := h', toks := tk } := I.kept kp
  have hE := each_pairs hrl rv
  have hR : EachIs (fun u (p : V × (Int × Int)) => ∃ as, PySem.Reads h' u (Datum.toD p.2) as) acc.toList (((ks.map fun (x : List Key × Addr × Value) => x.2.1).map V.ref).zip ks') := each_imp (fun u p hp => hp.2.holds I1 hp.1) hE
  have hoL : (h'.push (seqObj "list" acc.toList.toArray 0)).get? h'.objs.size = some (seqObj "list" acc.toList.toArray 0) := Heap.get?_push_size _ rfl
  have hz : acc.toList.length ≤ sizeLine := by rw [hal]; omega
  refine wpAny_bind (wpAny_newList ?_ hz)
  show wpAny _ _ _ _ _ { s with heap := h'.push (seqObj "list" acc.toList.toArray 0), toks := tk }
  have er' : EachIs (fun v (p : V × (Int × Int)) => ∃ as, PySem.Reads (PySem.W.sortingHeap (h'.push (seqObj "list" acc.toList.toArray 0)) h'.objs.size acc.toList) v (Datum.toD p.2) as) acc.toList (((ks.map fun (x : List Key × Addr × Value) => x.2.1).map V.ref).zip ks') :=
    hR.mono fun _ _ ⟨as, r⟩ => ⟨as, PyProof.Rows.Reads.keeps (fun b o e => PySem.W.sortingHeap_old (Nat.ne_of_lt (Heap.lt_size e)) (Heap.get?_push_of_some _ e)) r⟩
  have hal2 : PySem.W.AllAlike ((((ks.map fun (x : List Key × Addr × Value) => x.2.1).map V.ref).zip ks').map fun p => Datum.toD p.2) := PySem.W.AllAlike.of fun p q => DatumOrd.alike p.2 q.2
  refine wpAny_bind (wpAny_holding (wpAny_call_entry PyProof.Rows.slot_list_sort ⟨_, hoL, rfl⟩ PyProof.Rows.entry_list_sort
    (PySem.W.list_sort_vals (κ := PySem.W.dataKind (PySem.W.sortingHeap (h'.push (seqObj "list" acc.toList.toArray 0)) h'.objs.size acc.toList) ((((ks.map fun (x : List Key × Addr × Value) => x.2.1).map V.ref).zip ks').map fun p => Datum.toD p.2)) (s := { s with heap := h'.push (seqObj "list" acc.toList.toArray 0), toks := tk }) hoL
      (PySem.W.SortsAt.data (s := { s with heap := PySem.W.sortingHeap (h'.push (seqObj "list" acc.toList.toArray 0)) h'.objs.size acc.toList, toks := tk }) (PySem.W.each_map (R := fun v d => ∃ as, PySem.Reads (PySem.W.sortingHeap (h'.push (seqObj "list" acc.toList.toArray 0)) h'.objs.size acc.toList) v d as) (fun (p : V × (Int × Int)) => Datum.toD p.2) er') hal2 ?_ ?_) hz ⟨_, rfl, ?_⟩)
    (PyProof.Rows.args_list_sort _)))
  · exact PySem.W.Sortable.tuples fun p => ⟨_, _, rfl⟩
  · intro dd hdd
    obtain ⟨p, _, rfl⟩ := List.mem_map.mp hdd
    have hdp : Datum.depth (Int × Int) ≤ 100 := by decide
    have := Datum.depth_le p.2
    have hA : X.A.in1.in1.units ≤ X.A.units + 2 := by simp [Around.in1]
    omega
  · have he2 := PySem.W.sortVals_data (R := fun (u : Value) (p : V × (Int × Int)) => RelV p.1 u ∧ R H p.1 p.2) (enc := fun p => Datum.toD p.2) false hE er' hal2
    rw [dataLe_T (fun p : V × (Int × Int) => p.2)] at he2
    obtain ⟨q1, q2⟩ := pairs_vals he2
    obtain ⟨e', he'⟩ := PyProof.Rows.sortedHeap_at (vs := acc.toList) (out := (PySem.W.sortVals (PySem.W.dataKind (PySem.W.sortingHeap (h'.push (seqObj "list" acc.toList.toArray 0)) h'.objs.size acc.toList) ((((ks.map fun (x : List Key × Addr × Value) => x.2.1).map V.ref).zip ks').map fun p => Datum.toD p.2)) false acc.toList acc.toList).toArray) hoL
    refine wpAny_pure ⟨_, rfl, .ref h'.objs.size, upd H h'.objs.size (.lst (sortV ((ks.map fun (x : List Key × Addr × Value) => x.2.1).map V.ref) ks')), I1.laid (t' := tk) (fun b u e => ?_) (Nat.le_refl _)
      (show ObjOk X.prog X.w _ _ _ (.lst _) from ⟨?_, _, e', q1, he'⟩), rfl, q _ _ hik (I1.hok.fresh (Nat.le_refl _))⟩
    · have hb : b < h'.objs.size := Heap.lt_size e
      rw [PyProof.Rows.sortedHeap_old (Nat.ne_of_lt hb) (by rw [size_push']; exact Nat.lt_succ_of_lt hb)]
      exact Heap.get?_push_of_some _ e
    · unfold sortV
      rw [List.length_map, List.length_mergeSort, List.length_zip, hlen, Nat.min_self, ← hlen, List.length_map, List.length_map]
      omega
end
end PG

set_option Elab.async false
set_option linter.all false
set_option maxRecDepth 100000
set_option maxHeartbeats 4000000
namespace PG
open PySem PySem.Spec PyProof.Rows L2
open PySem.W (T3 T4 Datum DatumOrd Holds HoldAll EachIs)

/-! ### a list of two things of two kinds -/
structure HL2 (a b : Type) where
  a : a
  b : b
  deriving DecidableEq
theorem HL2.same {a b : Type} : ∀ {p q : HL2 a b}, p.a = q.a → p.b = q.b → p = q
  | ⟨_, _⟩, ⟨_, _⟩, rfl, rfl => rfl
section
variable {α β : Type} [DecidableEq α] [Datum α] [DecidableEq β] [Datum β]
instance : Datum (HL2 α β) where
  toD p := .list [Datum.toD p.a, Datum.toD p.b]
  plain p := by simp only [PyData.plain, PyData.plainAll, Datum.plain, Bool.and_self]
  eqv p q := by
    simp only [PyData.eqv, PyData.eqvAll]
    rw [Datum.eqv, Datum.eqv, Bool.and_true, ← Bool.decide_and]
    exact decide_eq_decide.mpr ⟨fun e => HL2.same e.1 e.2, fun e => by rw [e]; exact ⟨rfl, rfl⟩⟩
  depth := max (Datum.depth α) (Datum.depth β) + 1
  depth_le p := by
    simp only [PyData.depth, PyData.depthAll]
    have h0 := Datum.depth_le p.a
    have h1 := Datum.depth_le p.b
    omega
end
instance {a b : Type} [Py a] [Py b] : Py (HL2 a b) := ⟨fun p => .list [Py.toD p.a, Py.toD p.b]⟩
section
variable {a b : Type} [Py a] [DecidableEq a] [Datum a] [IsD a] [Py b] [DecidableEq b] [Datum b] [IsD b]
instance : IsD (HL2 a b) := ⟨fun p => by show PyData.list [_, _] = PyData.list [_, _]; rw [IsD.eq, IsD.eq]⟩
end
theorem R.hl2 {a b : Type} [Py a] [Py b] {H : Hp} {p : Addr} {x : HL2 a b} {v1 v2 : V} (ha : H p = some (.lst [v1, v2])) (h1 : R H v1 x.a) (h2 : R H v2 x.b) : R H (.ref p) x := Rep.lst ha (.cons h1 (.cons h2 .nil))
/-! ### data without lists within -/
class NoL (a : Type) [Py a] : Prop where
  mv : ∀ (F F' : Hp), (∀ b xs, F b = some (.tup xs) → F' b = some (.tup xs)) → ∀ (v : V) (x : a), R F v x → R F' v x
instance : NoL Int := ⟨fun _ _ _ _ _ h => by rw [R.int_ h]; exact R.int⟩
instance : NoL Bool := ⟨fun _ _ _ _ _ h => by rw [R.bl_ h]; exact R.bl⟩
instance : NoL Str := ⟨fun _ _ _ _ _ h => by rw [R.str_ h]; exact R.str⟩
instance {a b : Type} [Py a] [Py b] [NoL a] [NoL b] : NoL (a × b) := ⟨fun _ _ t _ _ h => by
  obtain ⟨p, v1, v2, rfl, hp, h1, h2⟩ := R.t2_ h
  exact R.t2 (t _ _ hp) (NoL.mv _ _ t _ _ h1) (NoL.mv _ _ t _ _ h2)⟩
instance {a b c : Type} [Py a] [Py b] [Py c] [NoL a] [NoL b] [NoL c] : NoL (T3 a b c) := ⟨fun _ _ t _ _ h => by
  obtain ⟨p, v1, v2, v3, rfl, hp, h1, h2, h3⟩ := R.t3_ h
  exact R.t3 (t _ _ hp) (NoL.mv _ _ t _ _ h1) (NoL.mv _ _ t _ _ h2) (NoL.mv _ _ t _ _ h3)⟩
theorem RL.mv {a : Type} [Py a] [NoL a] {F F' : Hp} (t : ∀ b xs, F b = some (.tup xs) → F' b = some (.tup xs)) : ∀ {vs : List V} {xs : List a}, RL F vs xs → RL F' vs xs
  | _, [], h => by rw [RL.nil_ h]; exact RL.nil
  | _, x :: xs, h => by
    obtain ⟨w, ws, rfl, h1, h2⟩ := RL.cons_ h
    exact RL.cons (NoL.mv _ _ t _ _ h1) (RL.mv t h2)
/-! ### cells lent to a call -/
open Classical in
noncomputable def lendF (as : List Addr) (F H : Hp) : Hp := fun b => if b ∈ as then H b else F b
open Classical in
noncomputable def backF (as : List Addr) (F : Hp) : Hp := fun b => if b ∈ as then none else F b
section
variable {Z : Ent} {F F' H H' : Hp} {cs : List (Addr × HO)} {p a q : Addr} {o o' : HO} {as : List Addr}
theorem inA_nil : ∀ b ∈ ([] : List Addr), ∃ o, (b, o) ∈ cs := fun _ h => nomatch h
theorem inA_cons (i : Nat) (e : cs[i]? = some (a, o)) (h : ∀ b ∈ as, ∃ o, (b, o) ∈ cs) : ∀ b ∈ a :: as, ∃ o, (b, o) ∈ cs := fun b hb => by
  rcases List.mem_cons.mp hb with rfl | hb
  · exact ⟨o, List.mem_of_getElem? e⟩
  · exact h b hb
theorem lendF_at (h : a ∈ as) : lendF as F H a = H a := if_pos h
theorem Ow.lendS (O : Ow Z F cs H) (hin : ∀ b ∈ as, ∃ o, (b, o) ∈ cs) : Same F (lendF as F H) := fun b u e => by
  by_cases hb : b ∈ as
  · obtain ⟨o, hc⟩ := hin b hb
    have := O.cf _ hc
    have e' : F b = none := this
    rw [e'] at e; cases e
  · show (if b ∈ as then H b else F b) = _
    rw [if_neg hb]; exact e
theorem Ow.lendP (O : Ow Z F cs H) (hin : ∀ b ∈ as, ∃ o, (b, o) ∈ cs) : Pre (lendF as F H) [] H := by
  refine ⟨fun b u e => ?_, (fun _ h => nomatch h), (fun _ h => nomatch h), List.nodup_nil, fun _ h => nomatch h⟩
  have e : (if b ∈ as then H b else F b) = some u := e
  by_cases hb : b ∈ as
  · rw [if_pos hb] at e; exact e
  · rw [if_neg hb] at e; exact O.s b u e
theorem Ow.unlend (O : Ow Z F cs H) (hin : ∀ b ∈ as, ∃ o, (b, o) ∈ cs) (g : Gr [] (lendF as F H) H F' H') :
    Ow Z (backF as F') cs H' ∧ Same F (backF as F') ∧ (∀ b xs, F' b = some (.tup xs) → backF as F' b = some (.tup xs)) ∧ ∀ b, F' b = none → backF as F' b = none := by
  have inF : ∀ b, b ∉ as → ∀ u, F b = some u → F' b = some u := fun b hb u e => g.f b u (by
    show (if b ∈ as then H b else F b) = _
    rw [if_neg hb]; exact e)
  have nF : ∀ b ∈ as, F b = none := fun b hb => by obtain ⟨o, hc⟩ := hin b hb; exact O.cf _ hc
  have sF : Same F (backF as F') := fun b u e => by
    show (if b ∈ as then none else F' b) = _
    by_cases hb : b ∈ as
    · rw [nF b hb] at e; cases e
    · rw [if_neg hb]; exact inF b hb u e
  refine ⟨⟨⟨O.g.f.trans sF, fun b u e => ?_, fun b u hb e => g.k b u (fun h => nomatch h) (O.g.k b u hb e), fun b e => g.t b (O.g.t b e), fun b e => ?_, fun b xs e => ?_⟩, fun c hc => ?_, fun c hc => g.k _ _ (fun h => nomatch h) (O.ch c hc), O.nd, O.ca, O.nt⟩, sF, fun b xs e => ?_, fun b e => ?_⟩
  · have e : (if b ∈ as then none else F' b) = some u := e
    by_cases hb : b ∈ as
    · rw [if_pos hb] at e; cases e
    · rw [if_neg hb] at e; exact g.s b u e
  · show (if b ∈ as then none else F' b) = _ ∨ _
    by_cases hb : b ∈ as
    · rw [if_pos hb]
      rcases O.g.n b e with h0 | h0
      · rw [nF b hb] at h0; exact .inl h0
      · exact .inr h0
    · rw [if_neg hb]
      rcases O.g.n b e with h0 | h0
      · rcases g.n b (O.g.t b e) with h1 | ⟨xs, hx⟩
        · refine .inl (h1.trans ?_)
          show (if b ∈ as then H b else F b) = _
          rw [if_neg hb]; exact h0
        · rcases O.g.u b xs hx with z | z
          · exact absurd z e
          · exact .inr ⟨xs, z⟩
      · exact .inr h0
  · rcases g.u b xs e with z | z
    · refine .inl ?_
      cases q : Z.H b with
      | none => rfl
      | some u => exact absurd z (O.g.t b (by rw [q]; simp))
    · exact O.g.u b xs z
  · show (if c.1 ∈ as then none else F' c.1) = none
    by_cases hb : c.1 ∈ as
    · rw [if_pos hb]
    · rw [if_neg hb]
      have hl : lendF as F H c.1 = none := by
        show (if c.1 ∈ as then H c.1 else F c.1) = _
        rw [if_neg hb]; exact O.cf c hc
      exact g.none (O.ch c hc) (O.nt c hc) hl
  · show (if b ∈ as then none else F' b) = _
    by_cases hb : b ∈ as
    · obtain ⟨o, hc⟩ := hin b hb
      have h1 : lendF as F H b = some o := by
        show (if b ∈ as then H b else F b) = _
        rw [if_pos hb]; exact O.ch _ hc
      have h2 := g.f b o h1
      rw [e] at h2
      have h3 := O.nt _ hc
      have h3 : noTup o = true := h3
      rw [← Option.some.inj h2] at h3
      cases h3
    · rw [if_neg hb]; exact e
  · show (if b ∈ as then none else F' b) = _
    by_cases hb : b ∈ as
    · rw [if_pos hb]
    · rw [if_neg hb]; exact e
theorem Ow.fresh (O : Ow Z F cs H) (h : H p = none) : p ∉ cs.map (·.1) := fun hm => by
  obtain ⟨c, hc, e⟩ := List.mem_map.mp hm
  have z := O.ch c hc
  rw [e, h] at z
  cases z
theorem Ow.add' (O : Ow Z F cs H) (hm : p ∉ cs.map (·.1)) (hz : Z.H p = none) (hf : F p = none) (h : H p = some o) (ht : noTup o = true := by rfl) : Ow Z F ((p, o) :: cs) H where
  g := O.g
  cf := fun c hc => by
    rcases List.mem_cons.mp hc with rfl | hc
    · exact hf
    · exact O.cf c hc
  ch := fun c hc => by
    rcases List.mem_cons.mp hc with rfl | hc
    · exact h
    · exact O.ch c hc
  nd := by
    rw [List.map_cons, List.nodup_cons]
    exact ⟨hm, O.nd⟩
  ca := fun c hc => by
    rcases List.mem_cons.mp hc with rfl | hc
    · exact .inr hz
    · exact O.ca c hc
  nt := fun c hc => by
    rcases List.mem_cons.mp hc with rfl | hc
    · exact ht
    · exact O.nt c hc
theorem Ow.ne (O : Ow Z F cs H) (i j : Nat) (hij : i ≠ j) (ei : cs[i]? = some (a, o)) (ej : cs[j]? = some (q, o')) : a ≠ q := fun e => by
  subst e
  have h1 : (cs.map (·.1))[i]? = some a := by rw [List.getElem?_map, ei]; rfl
  have h2 : (cs.map (·.1))[j]? = some a := by rw [List.getElem?_map, ej]; rfl
  exact hij (nd_ix O.nd h1 h2)
end
theorem nmem2 {p q : Addr} {l : List Addr} (h : p ≠ q) (h2 : p ∉ l) : p ∉ q :: l := fun m => by
  rcases List.mem_cons.mp m with e | m
  · exact h e
  · exact h2 m
/-! ### while -/
inductive Ws (s r : Type) where
  | go (x : s)
  | stop (x : s)
  | rt (z : r)
def whL {s r : Type} (b : s → M (Ws s r)) : Nat → s → M (Fl s r)
  | 0, _ => bad
  | n + 1, x => b x >>= fun
    | .go x' => whL b n x'
    | .stop x' => .ok (.nx x')
    | .rt z => .ok (.rt z)
theorem whL_L {s r a : Type} {Q : a → Prop} {E : String → Prop} {b : s → M (Ws s r)} {n : Nat} {x : s} {k : Fl s r → M a} (h : wp (whL b n x >>= k) Q E) :
    ∃ (L : Nat → s → Prop) (X : s → Prop), L n x ∧ (∀ m x, L m x → wp (b x) (fun w => match w with
      | .go x' => ∃ m', m' < m ∧ L m' x'
      | .stop x' => X x'
      | .rt z => wp (k (.rt z)) Q E) E) ∧ ∀ x, X x → wp (k (.nx x)) Q E := by
  refine ⟨fun n x => wp (whL b n x >>= k) Q E, fun x => wp (k (.nx x)) Q E, h, fun m x hx => ?_, fun x hx => hx⟩
  cases m with
  | zero => exact hx.elim
  | succ m =>
    have hx : wp ((b x >>= fun
      | .go x' => whL b m x'
      | .stop x' => .ok (.nx x')
      | .rt z => .ok (.rt z)) >>= k) Q E := hx
    rw [wp_bind, wp_bind] at hx
    cases e : b x with
    | error e2 => rw [e] at hx; cases e2 <;> exact hx
    | ok w =>
      rw [e] at hx
      cases w with
      | go x' => exact ⟨m, Nat.lt_succ_self m, wp_bind.mpr hx⟩
      | stop x' => exact hx
      | rt z => exact hx
theorem while_P {c : TT} {tb : TS} {D : Ends} {σ : L2.St} {H : Hp} (W : Nat → L2.St → Hp → Prop) (X : L2.St → Hp → Prop) (n : Nat) (h0 : W n σ H) (exit : ∀ σ H, X σ H → D.nx σ H)
    (turn : (∀ σ H, X σ H → D.nx σ H) → ∀ m σ H, W m σ H → c σ H fun b H1 => if b = true then ∃ N : L2.St → Hp → Prop, (∀ σ' H', N σ' H' → ∃ m', m' < m ∧ W m' σ' H') ∧ tb { D with nx := N, ct := N, bk := D.nx } σ H1 else D.nx σ H1) : tWhile c tb D σ H :=
  ⟨W, ⟨n, h0⟩, turn exit⟩
/-! ### a < b < c < d -/
section
variable {X : Cx} {a b c d : Expr} {ta tb tc td : TE} {pos : Pos}
def tChain3 (r r' r'' : R2) (ta tb tc td : TE) : TE := fun σ H Q => ta σ H fun x H1 => tb σ H1 fun y H2 => r x y H2 fun z H3 => ∃ k, z = .bl k ∧
  (if k = true then tc σ H3 fun w' H4 => r' y w' H4 fun z' H5 => ∃ k', z' = .bl k' ∧ (if k' = true then td σ H5 fun u' H6 => r'' w' u' H6 Q else Q (.bl false) H5) else Q (.bl false) H3)
theorem pt_chain3 {op op' op'' : CmpOp} {r r' r'' : R2} (ho : OpR X (compareOp op) r) (ho' : OpR X (compareOp op') r') (ho'' : OpR X (compareOp op'') r'') (ha : PE X a ta) (hb : PE X b tb) (hc : PE X c tc) (hd : PE X d td)
    (hm : lastMarks [op, op', op''] [b, c, d] = false := by with_unfolding_all rfl) : PT X (.Compare a [op, op', op''] [b, c, d] pos) (tTest (tChain3 r r' r'' ta tb tc td)) := by
  refine ⟨fun pins s σ H Q I h => ?_⟩
  refine isTrue_chain (thn (ha.run pins s σ H _ I h) fun v s1 ⟨x, H1, I1, r1, q1⟩ => test_link (thn (hb.run pins s1 σ H1 _ I1 q1) fun u s2 ⟨y, H2, I2, r2, q2⟩ =>
    thn (ho pins s2 σ H2 x y v u _ I2 r1 r2 q2) fun d1 s3 ⟨z, H3, I3, r3, k, e, q3⟩ => ?_)) hm
  subst e
  cases r3
  refine wpAny_truthy_bool ?_
  cases k with
  | false =>
    obtain ⟨k', e', q'⟩ := q3
    cases e'
    exact ite_ff ⟨H3, I3, q'⟩
  | true =>
    refine ite_tt (test_link (thn (hc.run pins s3 σ H3 _ I3 q3) fun w' s4 ⟨z', H4, I4, r4, q4⟩ => thn (ho' pins s4 σ H4 y z' u w' _ I4 r2 r4 q4) fun d2 s5 ⟨z2, H5, I5, r5, k2, e2, q5⟩ => ?_))
    subst e2
    cases r5
    refine wpAny_truthy_bool ?_
    cases k2 with
    | false =>
      obtain ⟨k', e', q'⟩ := q5
      cases e'
      exact ite_ff ⟨H5, I5, q'⟩
    | true =>
      refine ite_tt (test_last (thn (hd.run pins s5 σ H5 _ I5 q5) fun u' s6 ⟨z3, H6, I6, r6, q6⟩ => thn (ho'' pins s6 σ H6 z' z3 w' u' _ I6 r4 r6 q6) fun d3 s7 ⟨z4, H7, I7, r7, k3, e3, q7⟩ => ?_))
      subst e3
      cases r7
      exact wpAny_truthy_bool ⟨H7, I7, q7⟩
end
/-! ### list.index of whole numbers -/
def ixI (xs : List Int) (y : Int) : M Int := if y ∈ xs then .ok ((xs.findIdx (· == y) : Nat) : Int) else bad
theorem wp_ixI {a : Type} {Q : a → Prop} {E : String → Prop} {xs : List Int} {y : Int} {k : Int → M a} (h : wp (ixI xs y >>= k) Q E) : ∃ j, xs.findIdx (· == y) = j ∧ xs[j]? = some y ∧ (∀ (m : Nat) z, m < j → xs[m]? = some z → z ≠ y) ∧ wp (k (j : Int)) Q E := by
  unfold ixI at h
  by_cases hm : y ∈ xs
  · rw [if_pos hm] at h
    have hlt : xs.findIdx (· == y) < xs.length := List.findIdx_lt_length_of_exists ⟨y, hm, by simp⟩
    refine ⟨_, rfl, ?_, fun m z hmj hz e => ?_, h⟩
    · rw [List.getElem?_eq_getElem hlt]
      have := List.findIdx_getElem (w := hlt)
      rw [eq_of_beq this]
    · have := List.not_of_lt_findIdx hmj
      obtain ⟨hl, hz⟩ := List.getElem?_eq_some_iff.mp hz
      rw [hz, e] at this
      simp at this
  · rw [if_neg hm] at h; exact h.elim
theorem all_flat_int : ∀ xs : List Int, (xs.map V.int).all flatV = true
  | [] => rfl
  | x :: xs => by rw [List.map_cons, List.all_cons, all_flat_int xs]; rfl
theorem int_noeq {xs : List Int} {y : Int} {j : Nat} (h : ∀ (m : Nat) z, m < j → xs[m]? = some z → z ≠ y) : ∀ (m : Nat) (z' : V), m < j → (xs.map V.int)[m]? = some z' → eqV z' (.int y) = false := fun m z' hm hz => by
  rw [List.getElem?_map] at hz
  cases e : xs[m]? with
  | none => rw [e] at hz; cases hz
  | some z =>
    rw [e] at hz
    have hz : V.int z = z' := Option.some.inj hz
    subst hz
    have := h m z hm e
    show (z == y) = false
    simpa using this
theorem int_at {xs : List Int} {y : Int} {j : Nat} (h : xs[j]? = some y) : (xs.map V.int)[j]? = some (.int y) := by rw [List.getElem?_map, h]; rfl
theorem int_eq {y : Int} : eqV (.int y) (.int y) = true := by show (y == y) = true; simp
/-! ### dict(list of pairs), the keys whole numbers -/
section
variable {β : Type} [Py β] {F H : Hp}
def mergeD (xs : List (Int × β)) : List (Int × β) := xs.foldl (fun acc p => dPut acc p.1 p.2) []
theorem merge_rd {kvs : List (Key × V)} {xs : List (Int × β)} (hs : RD F kvs xs) : ∀ {acc : List (Key × V)} {ac : List (Int × β)}, RD F acc ac → RD F (mergeK acc kvs) (xs.foldl (fun acc p => dPut acc p.1 p.2) ac) := by
  induction hs with
  | nil => intro acc ac h; exact h
  | @cons k v y kvs xs hv _ ih =>
    intro acc ac h
    exact ih (h.put k hv)
theorem pairs_of_rl {K : PySem.W.Frag} (s : Same F H) : ∀ {vs : List V} {xs : List (Int × β)}, RL F vs xs → ∃ (ps : List Addr) (kvs : List (Key × V)), vs = ps.map V.ref ∧ Paired (fun p kv => SqT K H p [kV kv.1, kv.2]) ps kvs ∧ RD F kvs xs
  | _, [], h => ⟨[], [], RL.nil_ h, .nil, .nil⟩
  | _, x :: xs, h => by
    obtain ⟨w, ws, rfl, h1, h2⟩ := RL.cons_ h
    obtain ⟨ps, kvs, e, hp, hr⟩ := pairs_of_rl (K := K) s h2
    obtain ⟨p, v1, v2, rfl, hp1, h3, h4⟩ := R.t2_ h1
    rw [R.int_ h3] at hp1
    exact ⟨p :: ps, (.inl x.1, v2) :: kvs, by rw [e]; rfl, .cons (SqT.of (s _ _ hp1)) hp, .cons (k := x.1) h4 hr⟩
end
/-! ### the same rules, the fragment told outright (within a comprehension) -/
section
variable {X : Cx} {K : PySem.W.Frag}
theorem ixTupK (h : X.K = K) : IxR X (rIxT K) := by rw [← h]; exact ix_tup
theorem ixListK (h : X.K = K) : IxR X (rIxL K) := by rw [← h]; exact ix_list
theorem listOfK (h : X.K = K) : CallR X (.type "list") (fun xs H Q => ∃ p ys, xs = [.ref p] ∧ (SqL K H p ys ∨ SqT K H p ys) ∧ ∀ l, H l = none → Q (.ref l) (upd H l (.lst ys))) := by rw [← h]; exact call_list_of
theorem isiK (h : X.K = K) : CallR X (.builtin "isinstance") (rIsi K) := by rw [← h]; exact call_isi
theorem slListK (h : X.K = K) : SlR X (rSlL K) := by rw [← h]; exact sl_list
theorem indexK (h : X.K = K) : MtR X "list.index" (rIndex K) := by rw [← h]; exact mt_index
end
/-! ### enumerate in a comprehension -/
def enumL {b : Type} (xs : List b) : List (Int × b) := xs.zipIdx.map fun p => ((p.2 : Int), p.1)
theorem enumL_get {b : Type} {xs : List b} {i : Nat} {x : b} (h : xs[i]? = some x) : (enumL xs).drop i = ((i : Int), x) :: (enumL xs).drop (i + 1) := by
  apply drop_at
  unfold enumL
  rw [List.getElem?_map, List.getElem?_zipIdx, h]
  simp
theorem enumL_len {b : Type} {xs : List b} : (enumL xs).length = xs.length := by unfold enumL; simp
theorem enumL_end {b : Type} {xs : List b} {vs : List V} (h : vs.length = xs.length) : (enumL xs).drop vs.length = [] := by
  rw [h, ← enumL_len, List.drop_length]
theorem comp_lenE {b : Type} {w vs : List V} {xs : List b} {i : Nat} (la : w.length ≤ i) (hi : i < vs.length) (hl : vs.length = xs.length) (c : (enumL xs).length < 16777216) : w.length < sizeLine := by
  rw [enumL_len] at c
  exact lt_line (by omega)
theorem zip_at {a b : Type} {xs : List a} {ys : List b} {i : Nat} {x : a} {y : b} (h : xs[i]? = some x) (h2 : ys[i]? = some y) : (xs.zip ys).drop i = (x, y) :: (xs.zip ys).drop (i + 1) := by
  apply drop_at
  rw [List.getElem?_zip_eq_some]
  exact ⟨h, h2⟩
theorem zip_end {a b : Type} {xs : List a} {ys : List b} {vs ws : List V} (h : vs.length = xs.length) (h2 : ws.length = ys.length) : (xs.zip ys).drop (min vs.length ws.length) = [] := by
  rw [h, h2, ← List.length_zip, List.drop_length]
theorem comp_lenZ {a b : Type} {w vs ws : List V} {xs : List a} {ys : List b} {i : Nat} (la : w.length ≤ i) (hi : i < min vs.length ws.length) (h : vs.length = xs.length) (h2 : ws.length = ys.length) (c : (xs.zip ys).length < 16777216) : w.length < sizeLine := by
  rw [List.length_zip, ← h, ← h2] at c
  exact lt_line (by omega)
section
variable {X : Cx} {K : PySem.W.Frag}
theorem cr_sumK (hc : X.calm = true) (h : X.K = K) : CallR X (.builtin "sum") (rSum K) := by rw [← h]; exact cr_sum hc
end
end PG

set_option Elab.async false
set_option linter.all false
set_option maxRecDepth 100000
set_option maxHeartbeats 4000000
namespace PG
open PySem PySem.Spec PyProof.Rows L2
open PySem.W (T3 T4 Datum DatumOrd Holds HoldAll EachIs)
/-! ### sums: ("number", n), (word, n), (word,), (word, a, b) -/
inductive Sm where
  | num (w : Str) (n : Int)
  | nam (w : Str)
  | two (w : Str) (a b : Sm)
  deriving DecidableEq
def Sm.d : Sm → PyData
  | .num w n => .tuple [.str w, .int n]
  | .nam w => .tuple [.str w]
  | .two w a b => .tuple [.str w, a.d, b.d]
instance : Py Sm := ⟨Sm.d⟩
def Sm.word : Sm → Str
  | .num w _ => w
  | .nam w => w
  | .two w _ _ => w
def Sm.int? : Sm → Option Int
  | .num _ n => some n
  | _ => none
def Sm.two? : Sm → Option (Sm × Sm)
  | .two _ a b => some (a, b)
  | _ => none
section
variable {F : Hp} {v : V} {p : Addr} {x : Sm}
theorem R.sm_ (h : R F v x) : ∃ p ws, v = .ref p ∧ F p = some (.tup (V.str x.word :: ws)) := by
  cases x with
  | num w n =>
    obtain ⟨p, v1, v2, e, hp, h1, h2⟩ := R.t2_ (show R (a := Str × Int) F v (w, n) from h)
    rw [R.str_ h1] at hp
    exact ⟨p, [v2], e, hp⟩
  | nam w =>
    have h' : Rep F v (.tuple [.str w]) := h
    cases h' with
    | tup ha hs =>
      cases hs with
      | cons h1 hs =>
        cases hs
        cases h1
        exact ⟨_, _, rfl, ha⟩
  | two w a b =>
    obtain ⟨p, v1, v2, v3, e, hp, h1, h2, h3⟩ := R.t3_ (show R (a := T3 Str Sm Sm) F v ⟨w, a, b⟩ from h)
    rw [R.str_ h1] at hp
    exact ⟨p, [v2, v3], e, hp⟩
theorem R.sm_int {n : Int} (h : R F v x) (e : x.int? = some n) : ∃ p w, v = .ref p ∧ F p = some (.tup [V.str w, V.int n]) := by
  cases x with
  | num w m =>
    obtain ⟨p, v1, v2, e1, hp, h1, h2⟩ := R.t2_ (show R (a := Str × Int) F v (w, m) from h)
    rw [R.str_ h1, R.int_ h2] at hp
    have e : some m = some n := e
    cases e
    exact ⟨p, w, e1, hp⟩
  | nam w => cases e
  | two w a b => cases e
theorem R.sm_two {q : Sm × Sm} (h : R F v x) (e : x.two? = some q) : ∃ p w va vb, v = .ref p ∧ F p = some (.tup [V.str w, va, vb]) ∧ R F va q.1 ∧ R F vb q.2 := by
  cases x with
  | num w m => cases e
  | nam w => cases e
  | two w a b =>
    obtain ⟨p, v1, v2, v3, e1, hp, h1, h2, h3⟩ := R.t3_ (show R (a := T3 Str Sm Sm) F v ⟨w, a, b⟩ from h)
    rw [R.str_ h1] at hp
    have e : some (a, b) = some q := e
    cases e
    exact ⟨p, w, v2, v3, e1, hp, h2, h3⟩
theorem R.of_num {q : Str × Int} (h : R F v q) : R F v (Sm.num q.1 q.2) := h
theorem R.of_two {q : T3 Str Sm Sm} (h : R F v q) : R F v (Sm.two q.a q.b q.c) := h
theorem R.of_nam {w : Str} (h : F p = some (.tup [V.str w])) : R F (.ref p) (Sm.nam w) := Rep.tup h (.cons (.str w) .nil)
end
/-! ### a whole number or a list of such -/
inductive IL where
  | i (n : Int)
  | l (xs : List Int)
instance : Py IL := ⟨fun
  | .i n => Py.toD n
  | .l xs => Py.toD xs⟩
def IL.i? : IL → Option Int
  | .i n => some n
  | _ => none
def IL.l? : IL → Option (List Int)
  | .l xs => some xs
  | _ => none
section
variable {F : Hp} {v : V}
theorem R.il_i {x : IL} {n : Int} (h : R F v x) (e : x.i? = some n) : R F v n := by
  cases x with
  | i m => have e : some m = some n := e; cases e; exact h
  | l xs => cases e
theorem R.il_l {x : IL} {xs : List Int} (h : R F v x) (e : x.l? = some xs) : R F v xs := by
  cases x with
  | i m => cases e
  | l ys => have e : some ys = some xs := e; cases e; exact h
theorem R.of_i {n : Int} (h : R F v n) : R F v (IL.i n) := h
theorem R.of_l {xs : List Int} (h : R F v xs) : R F v (IL.l xs) := h
end
section
variable {β : Type} [Py β] {F : Hp}
def mergeDS (xs : List (Str × β)) : List (Str × β) := xs.foldl (fun acc p => dPut acc p.1 p.2) []
theorem merge_rdS {kvs : List (Key × V)} {xs : List (Str × β)} (hs : RD F kvs xs) : ∀ {acc : List (Key × V)} {ac : List (Str × β)}, RD F acc ac → RD F (mergeK acc kvs) (xs.foldl (fun acc p => dPut acc p.1 p.2) ac) := by
  induction hs with
  | nil => intro acc ac h; exact h
  | @cons k v y kvs xs hv _ ih =>
    intro acc ac h
    exact ih (h.put k hv)
end
section
variable {X : Cx} {K : PySem.W.Frag} {pos : Pos}
theorem slTupK (h : X.K = K) : SlR X (rSlT K) := by rw [← h]; exact sl_tup
theorem pgLstK (h : X.K = K) {es : List Expr} {k : Nat} {t : TGs} {n : Nat} (hc : X.calm = true) (hp : PGs X es t)
    (hn : (assignEach es X.env).length = n := by rfl) (hst : (assignEach es X.env).findIdx? (·.1) = none := by rfl) : PG X (.Tuple es k pos) (gLst K n t) := by rw [← h]; exact pg_lst hc hp hn hst
end
theorem RL.two {a : Type} [Py a] {F : Hp} {vs : List V} {xs : List a} (h : RL F vs xs) (e : xs.length = 2) : ∃ v1 v2 x1 x2, vs = [v1, v2] ∧ xs = [x1, x2] ∧ R F v1 x1 ∧ R F v2 x2 := by
  match xs, e with
  | [x1, x2], _ =>
    obtain ⟨w, ws, rfl, h1, h2⟩ := RL.cons_ h
    obtain ⟨w2, ws2, rfl, h3, h4⟩ := RL.cons_ h2
    rw [RL.nil_ h4]
    exact ⟨w, w2, x1, x2, rfl, rfl, h1, h3⟩
/-- a list of just two -/
def two2 {a : Type} (xs : List a) : M (a × a) := match xs with
  | [x, y] => .ok (x, y)
  | _ => bad
theorem wp_two2 {a b : Type} {Q : a → Prop} {E : String → Prop} {xs : List b} {k : b × b → M a} (h : wp (two2 xs >>= k) Q E) : ∃ x y, xs = [x, y] ∧ wp (k (x, y)) Q E := by
  match xs, h with
  | [x, y], h => exact ⟨x, y, rfl, h⟩
  | [], h => exact h.elim
  | [_], h => exact h.elim
  | _ :: _ :: _ :: _, h => exact h.elim
theorem sl3 (a b c : V) : ¬ (HT.sIx [a, b, c].length 0 (some (1 : Int)) = 0 ∧ HT.sIx [a, b, c].length [a, b, c].length none = [a, b, c].length) := fun h => absurd h.1 (by show ¬ (HT.sIx 3 0 (some (1 : Int)) = 0); decide)
theorem intB {X : Cx} : CallR X (.type "int") (fun xs H Q => ∃ k, xs = [.bl k] ∧ Q (.int (if k then 1 else 0)) H) := fun pins s σ H xs us Q I r h => call_int1 pins s σ H xs us Q I r (.inr h)
theorem atI0 {a : Type} (x : a) (xs : List a) : L2.atI (x :: xs) (0 : Int) = some x := by
  unfold L2.atI ixN
  rw [if_pos (by omega), if_pos (by rw [List.length_cons]; omega)]
  rfl
end PG

set_option Elab.async false
set_option linter.all false
set_option maxRecDepth 100000
set_option maxHeartbeats 4000000
namespace PG
open PySem PySem.Spec PyProof.Rows L2
open PySem.W (T3 T4 Datum DatumOrd Holds HoldAll EachIs)
/-! ### == of data of any depth, the depth asked outright -/
class DatumX (a : Type) [Py a] [DecidableEq a] : Prop where
  plain : ∀ x : a, (Py.toD x).plain = true
  eqv : ∀ x y : a, PyData.eqv (Py.toD x) (Py.toD y) = decide (x = y)
instance (priority := 50) {a : Type} [Py a] [DecidableEq a] [Datum a] [IsD a] : DatumX a := ⟨fun x => by rw [IsD.eq]; exact Datum.plain x, fun x y => by rw [IsD.eq, IsD.eq]; exact Datum.eqv x y⟩
theorem Sm.pl : ∀ x : Sm, x.d.plain = true
  | .num w n => by simp [Sm.d, PyData.plain, PyData.plainAll]
  | .nam w => by simp [Sm.d, PyData.plain, PyData.plainAll]
  | .two w a b => by simp [Sm.d, PyData.plain, PyData.plainAll, Sm.pl a, Sm.pl b]
theorem ev23 (w w' : Str) (n : PyData) (x y : PyData) : PyData.eqv (.tuple [.str w, n]) (.tuple [.str w', x, y]) = false := by simp [PyData.eqv, PyData.eqvAll]
theorem ev32 (w w' : Str) (n : PyData) (x y : PyData) : PyData.eqv (.tuple [.str w', x, y]) (.tuple [.str w, n]) = false := by simp [PyData.eqv, PyData.eqvAll]
theorem ev13 (w w' : Str) (x y : PyData) : PyData.eqv (.tuple [.str w]) (.tuple [.str w', x, y]) = false := by simp [PyData.eqv, PyData.eqvAll]
theorem ev31 (w w' : Str) (x y : PyData) : PyData.eqv (.tuple [.str w', x, y]) (.tuple [.str w]) = false := by simp [PyData.eqv, PyData.eqvAll]
theorem Sm.ev : ∀ x y : Sm, PyData.eqv x.d y.d = decide (x = y)
  | .num w n, .num w' n' => by
    simp only [Sm.d, PyData.eqv, PyData.eqvAll, Bool.and_true]
    rw [PySem.W.beq_decide, PySem.W.beq_decide, ← Bool.decide_and]
    exact decide_eq_decide.mpr (by rw [Sm.num.injEq])
  | .num w n, .nam w' => by simp [Sm.d, PyData.eqv, PyData.eqvAll]
  | .num w n, .two w' a b => (ev23 w w' (.int n) a.d b.d).trans (by simp)
  | .nam w, .num w' n => by simp [Sm.d, PyData.eqv, PyData.eqvAll]
  | .nam w, .nam w' => by
    simp only [Sm.d, PyData.eqv, PyData.eqvAll, Bool.and_true]
    rw [PySem.W.beq_decide]
    exact decide_eq_decide.mpr (by rw [Sm.nam.injEq])
  | .nam w, .two w' a b => (ev13 w w' a.d b.d).trans (by simp)
  | .two w a b, .num w' n => (ev32 w' w (.int n) a.d b.d).trans (by simp)
  | .two w a b, .nam w' => (ev31 w' w a.d b.d).trans (by simp)
  | .two w a b, .two w' a' b' => by
    simp only [Sm.d, PyData.eqv, PyData.eqvAll, Bool.and_true]
    rw [PySem.W.beq_decide, Sm.ev a a', Sm.ev b b', ← Bool.decide_and, ← Bool.decide_and]
    exact decide_eq_decide.mpr (by rw [Sm.two.injEq])
instance : DatumX Sm := ⟨Sm.pl, Sm.ev⟩
section
variable {a b c d : Type} [Py a] [DecidableEq a] [DatumX a] [Py b] [DecidableEq b] [DatumX b] [Py c] [DecidableEq c] [DatumX c] [Py d] [DecidableEq d] [DatumX d]
theorem plainX : ∀ xs : List a, PyData.plainAll (xs.map Py.toD) = true
  | [] => rfl
  | x :: xs => by
    rw [List.map_cons, PyData.plainAll, DatumX.plain x, plainX xs]
    rfl
theorem eqvX : ∀ xs ys : List a, PyData.eqvAll (xs.map Py.toD) (ys.map Py.toD) = decide (xs = ys)
  | [], [] => by simp only [List.map_nil, PyData.eqvAll, decide_true]
  | [], _ :: _ => by simp [PyData.eqvAll]
  | _ :: _, [] => by simp [PyData.eqvAll]
  | x :: xs, y :: ys => by
    rw [List.map_cons, List.map_cons, PyData.eqvAll, DatumX.eqv x y, eqvX xs ys, ← Bool.decide_and]
    exact decide_eq_decide.mpr (by rw [List.cons.injEq])
instance : DatumX (List a) := ⟨fun xs => by show PyData.plain (.list (xs.map Py.toD)) = true; simp only [PyData.plain]; exact plainX xs, fun xs ys => by show PyData.eqv (.list (xs.map Py.toD)) (.list (ys.map Py.toD)) = _; simp only [PyData.eqv]; exact eqvX xs ys⟩
theorem T4.sm {p q : T4 a b c d} : p = q ↔ p.a = q.a ∧ p.b = q.b ∧ p.c = q.c ∧ p.d = q.d := by
  cases p; cases q
  simp
instance : DatumX (T4 a b c d) := ⟨fun p => by show PyData.plain (.tuple [_, _, _, _]) = true; simp only [PyData.plain, PyData.plainAll, DatumX.plain, Bool.and_self], fun p q => by
  show PyData.eqv (.tuple [_, _, _, _]) (.tuple [_, _, _, _]) = _
  simp only [PyData.eqv, PyData.eqvAll]
  rw [DatumX.eqv, DatumX.eqv, DatumX.eqv, DatumX.eqv, Bool.and_true, ← Bool.decide_and, ← Bool.decide_and, ← Bool.decide_and]
  exact decide_eq_decide.mpr T4.sm.symm⟩
end
def dep {a : Type} [Py a] (x : a) : Nat := (Py.toD x).depth
section
variable {X : Cx} (a : Type) [Py a] [DecidableEq a] [DatumX a]
def rEqX : R2 := fun x y H Q => ∃ p q : a, R H x p ∧ R H y q ∧ min (dep p) (dep q) ≤ 60 ∧ Q (.bl (decide (p = q))) H
def rNeX : R2 := fun x y H Q => ∃ p q : a, R H x p ∧ R H y q ∧ min (dep p) (dep q) ≤ 60 ∧ Q (.bl (decide (p ≠ q))) H
theorem op_eqX (hu : X.A.units + 64 < cLine) : OpR X (compareOp .Eq) (rEqX a) := by
  intro pins s σ H x y v u Q I rx ry h
  obtain ⟨p, q, hp, hq, hd, k⟩ := h
  obtain ⟨as, ra⟩ := Dp.reads I _ _ _ (Rep.dp _ _ hp) rx
  obtain ⟨bs, rb⟩ := Dp.reads I _ _ _ (Rep.dp _ _ hq) ry
  have hd' : min (Py.toD p).depth (Py.toD q).depth ≤ 60 := hd
  exact PySem.SeqAt.eq_plain ra rb (DatumX.plain p) (DatumX.plain q) (by omega) (by rw [DatumX.eqv p q]; exact ⟨.bl _, H, I, rfl, k⟩)
theorem op_neX (hu : X.A.units + 64 < cLine) : OpR X (compareOp .NotEq) (rNeX a) := by
  intro pins s σ H x y v u Q I rx ry h
  obtain ⟨p, q, hp, hq, hd, k⟩ := h
  obtain ⟨as, ra⟩ := Dp.reads I _ _ _ (Rep.dp _ _ hp) rx
  obtain ⟨bs, rb⟩ := Dp.reads I _ _ _ (Rep.dp _ _ hq) ry
  have hd' : min (Py.toD p).depth (Py.toD q).depth ≤ 60 := hd
  exact PySem.SeqAt.ne_plain ra rb (DatumX.plain p) (DatumX.plain q) (by omega) (by rw [DatumX.eqv p q, ← decide_not]; exact ⟨.bl _, H, I, rfl, k⟩)
end
/-! ### a tuple of things of one kind, of any length -/
structure Tp (a : Type) where
  l : List a
instance {a : Type} [Py a] : Py (Tp a) := ⟨fun t => .tuple (t.l.map Py.toD)⟩
section
variable {a : Type} [Py a] {F : Hp} {v : V}
theorem R.tp_ {x : Tp a} (h : R F v x) : ∃ p vs, v = .ref p ∧ F p = some (.tup vs) ∧ RL F vs x.l := by
  have h' : Rep F v (.tuple (x.l.map Py.toD)) := h
  cases h' with
  | tup ha hs => exact ⟨_, _, rfl, ha, hs⟩
theorem R.tp2 {q : a × a} (h : R F v q) : R F v (Tp.mk [q.1, q.2]) := h
theorem R.tp3 {q : T3 a a a} (h : R F v q) : R F v (Tp.mk [q.a, q.b, q.c]) := h
theorem R.tp1 {w : Str} (h : R F v (Sm.nam w)) : R F v (Tp.mk [w]) := h
end
end PG

set_option Elab.async false
set_option linter.all false
set_option maxRecDepth 100000
set_option maxHeartbeats 4000000
namespace PG
open PySem PySem.Spec PyProof.Rows L2
open PySem.W (T3 T4 Datum DatumOrd Holds HoldAll EachIs)
/-! ### dict(a list of pairs), the keys tuples -/
def mergeT (kvs more : List (List Key × V)) : List (List Key × V) := more.foldl (fun m q => putK m q.1 q.2) kvs
theorem mergeT_kt {H : Hp} {kvs : List (List Key × V)} {xs : List (List Key × Addr × Value)} (r : KT H kvs xs) : ∀ {m : List (List Key × V)} {ms : List (List Key × Addr × Value)}, KT H m ms →
    KT H (mergeT m kvs) (storedAllH ms xs) := by
  induction r with
  | nil => intro m ms h; exact h
  | @cons p q ps qs h t ih =>
    intro m ms hm
    obtain ⟨e, hb, rv⟩ := h
    have := ih (KT.put hm q.1 (b := q.2.1) (by rw [← e]; exact hb) rv)
    unfold mergeT storedAllH at *
    rw [List.foldl_cons, List.foldl_cons, e]
    exact this
def PairT (K : PySem.W.Frag) (H : Hp) (p : Addr × Addr) (q : List Key × V) : Prop := SqT K H p.1 [.ref p.2, q.2] ∧ H p.2 = some (.tup (q.1.map kV))
theorem kt_at {H : Hp} {kvs : List (List Key × V)} {xs : List (List Key × Addr × Value)} (r : KT H kvs xs) : ∀ x ∈ xs, H x.2.1 = some (.tup (x.1.map kV)) := by
  induction r with
  | nil => exact fun x hx => nomatch hx
  | cons h _ ih => intro x hx; rcases List.mem_cons.mp hx with rfl | hx; · rw [← h.1]; exact h.2.1
                   · exact ih x hx
theorem ne_of_none {H : Hp} {b c : Addr} {o : HO} (e : H c = some o) (n : H b = none) : c ≠ b := fun z => by rw [z, n] at e; exact nomatch e
section
variable {X : Cx}
theorem tripT {pins : List (Addr × Obj)} {σ : L2.St} {H : Hp} {s : Shared} (I : Inv X pins σ H s) {ps : List (Addr × Addr)} {kvs : List (List Key × V)} (h : Paired (PairT X.K H) ps kvs) :
    ∃ xs : List (List Key × Addr × Value), KT H kvs xs ∧ xs.length = ps.length ∧ ∀ (j : Nat) q, xs[j]? = some q → ∃ b, ps[j]? = some b ∧ b.2 = q.2.1 ∧ IsTup s.heap b.1 #[.ref q.2.1, q.2.2] := by
  induction h with
  | nil => exact ⟨[], .nil, rfl, fun j q e => by simp at e⟩
  | @cons p kv ps' kvs' h t ih =>
    obtain ⟨xs, r, hl, hx⟩ := ih
    obtain ⟨h1, h2⟩ := h
    obtain ⟨its, rv, ht, _⟩ := I.tuple h1
    obtain ⟨u, y, ei, ru, ry⟩ := vals2 rv
    subst ei
    cases ru
    refine ⟨(kv.1, p.2, y) :: xs, .cons ⟨rfl, h2, ry⟩ r, by simp [hl], fun j q e => ?_⟩
    cases j with
    | zero =>
      have e' : (kv.1, p.2, y) = q := Option.some.inj e
      subst e'
      exact ⟨p, rfl, rfl, ht⟩
    | succ j => exact (hx j q (by simpa using e)).imp fun b z => ⟨by simpa using z.1, z.2⟩
theorem refs_pT : ∀ {ps : List (Addr × Addr)} {us : List Value}, Vals (ps.map fun p => V.ref p.1) us → us = ps.map fun p => Value.ref p.1
  | [], us, r => by rw [List.map_nil] at r; cases r; rfl
  | p :: ps, us, r => by
    rw [List.map_cons] at r
    cases r with
    | cons h t => cases h; rw [List.map_cons, ← refs_pT t]
theorem call_dictT (hcalm : X.calm = true) (hu : X.A.units + 64 < cLine) : CallR X (.type "dict") (fun xs H Q => ∃ (a : Addr) (ps : List (Addr × Addr)) (kvs : List (List Key × V)), xs = [.ref a] ∧
    SqL X.K H a (ps.map fun p => V.ref p.1) ∧ Paired (PairT X.K H) ps kvs ∧ ∀ p, H p = none → Q (.ref p) (upd H p (.dT (mergeT [] kvs)))) := by
  intro pins s σ H zs us Q I r q
  obtain ⟨a, ps, kvs, ez, hq, hp, q⟩ := q
  subst ez
  obtain ⟨u, eu, rx⟩ := vals1 r
  subst eu
  cases rx
  obtain ⟨its, rv, pl, hz⟩ := I.list hq
  have ei := refs_pT rv
  subst ei
  obtain ⟨xs, rel, hl, hx⟩ := tripT I hp
  obtain ⟨o, n, ho, hc, hd, hdat⟩ := pl
  have hz' : ps.length ≤ sizeLine := by simpa using hz
  have hkey : ∀ x ∈ xs, (tupleKind (mixKind X.prog X.w)).is s.heap x.1 x.2.1 := fun x hxm => key_of I.hok (kt_at rel x hxm)
  have hps : ∀ (j : Nat) (k v : Value), (xs.map fun x => (Value.ref x.2.1, x.2.2))[j]? = some (k, v) → ∃ q, xs[j]? = some q ∧ k = .ref q.2.1 ∧ v = q.2.2 := fun j k v e => by
    rw [List.getElem?_map] at e
    cases hq' : xs[j]? with
    | none => rw [hq'] at e; exact nomatch e
    | some q' => rw [hq'] at e; cases e; exact ⟨q', rfl, rfl, rfl⟩
  refine call_dict_pairsH (knd := tupleKind (mixKind X.prog X.w)) (ps := xs)
    (PairArg.list a _ (fun j => ((ps[j]?).map (·.1)).getD 0) (xs.map fun x => (Value.ref x.2.1, x.2.2))) (I.ok.hd hcalm) (show X.A.units + 1 + 1 < cLine by omega)
    ⟨⟨o, n, ho, hc, hd, hdat⟩, ⟨by simp [hl], fun j k v e => ?_⟩⟩ ⟨by simp, fun i k v e => ?_⟩ (fun h' hk x hxm => ?_) (by simpa [hl] using hz') fun h' tk hd' hk => ?_
  · obtain ⟨q', e1, rfl, rfl⟩ := hps j k v e
    obtain ⟨b, e2, _, ht⟩ := hx j q' e1
    have e3 : ((ps[j]?).map (·.1)).getD 0 = b.1 := by rw [e2]; rfl
    show _ ∧ PairAt s.heap (((ps[j]?).map (·.1)).getD 0) _ _
    rw [e3]
    exact ⟨by show _ = some (Value.ref (((ps[j]?).map (·.1)).getD 0)); rw [e3]; simp [e2], .inl ht⟩
  · obtain ⟨q', e1, rfl, rfl⟩ := hps i k v e
    exact ⟨q'.1, q'.2.1, e1, rfl⟩
  · obtain ⟨o', its', n', h1, h2⟩ := hkey x hxm
    exact ⟨o', its', n', hk _ _ (Nat.ne_of_lt (Heap.lt_size h1)) (fun z => nomatch z) h1, h2⟩
  · have hm : (s.heap.objs.size == sysModules) = false := beq_eq_false_iff_ne.mpr (Nat.ne_of_gt I.big)
    have hlen : (mergeT [] kvs).length ≤ sizeLine := by
      have h1 := Paired.length (mergeT_kt rel (m := []) (ms := []) .nil)
      have h2 := storedAllH_length xs ([] : List (List Key × Addr × Value))
      rw [List.length_nil, Nat.zero_add] at h2
      rw [h1]
      exact Nat.le_trans h2 (by rw [hl]; exact hz')
    obtain ⟨q', es, ep, g1, g2, g3, g4, _, g5⟩ := hd'
    refine ⟨.ref s.heap.objs.size, upd H s.heap.objs.size (.dT (mergeT [] kvs)), I.laid (t' := tk) (fun b o' e => hk b o' (fun z => nomatch z) e) (Nat.le_refl _) ⟨hlen, hm, _, (mergeT_kt rel .nil).keeps fun c ys ec => ?_, q', es, ep, g1, g2, g3, g4, g5⟩,
      rfl, q _ (I.hok.fresh (Nat.le_refl _))⟩
    rw [upd_ne (ne_of_none ec (I.hok.fresh (Nat.le_refl _)))]
    exact ec
end
section
variable {β : Type} [Py β] {F H : Hp}
def mergeDT (xs : List ((Int × Int) × β)) : List ((Int × Int) × β) := xs.foldl (fun m p => dPut m p.1 p.2) []
theorem mergeT_rd {kvs : List (List Key × V)} {xs : List ((Int × Int) × β)} (hs : RD F kvs xs) : ∀ {m : List (List Key × V)} {ms : List ((Int × Int) × β)}, RD F m ms → RD F (mergeT m kvs) (xs.foldl (fun m p => dPut m p.1 p.2) ms) := by
  induction hs with
  | nil => intro m ms h; exact h
  | @cons k v y kvs xs hv _ ih =>
    intro m ms h
    exact ih (h.put k hv)
theorem pairsT_of_rl {K : PySem.W.Frag} (s : Same F H) : ∀ {vs : List V} {xs : List ((Int × Int) × β)}, RL F vs xs → ∃ (ps : List (Addr × Addr)) (kvs : List (List Key × V)),
    vs = (ps.map fun p => V.ref p.1) ∧ Paired (PairT K H) ps kvs ∧ RD F kvs xs
  | _, [], h => ⟨[], [], RL.nil_ h, .nil, .nil⟩
  | _, x :: xs, h => by
    obtain ⟨w, ws, rfl, h1, h2⟩ := RL.cons_ h
    obtain ⟨ps, kvs, e, hp, hr⟩ := pairsT_of_rl (K := K) s h2
    obtain ⟨p, v1, v2, rfl, hp1, h3, h4⟩ := R.t2_ h1
    obtain ⟨b, w1, w2, rfl, hb, h5, h6⟩ := R.t2_ h3
    rw [R.int_ h5, R.int_ h6] at hb
    exact ⟨(p, b) :: ps, ([.inl x.1.1, .inl x.1.2], v2) :: kvs, by rw [e]; rfl, .cons ⟨SqT.of (s _ _ hp1), s _ _ hb⟩ hp, .cons (k := x.1) h4 hr⟩
end
/-! ### max and min of a list -/
def mxI : List Int → Option Int
  | [] => none
  | x :: xs => match mxI xs with
    | none => some x
    | some m => some (if m < x then x else m)
def mnI : List Int → Option Int
  | [] => none
  | x :: xs => match mnI xs with
    | none => some x
    | some m => some (if x < m then x else m)
theorem mxI_none : ∀ {xs : List Int}, mxI xs = none → xs = []
  | [], _ => rfl
  | x :: xs, h => by
    unfold mxI at h
    cases e : mxI xs <;> rw [e] at h <;> exact nomatch h
theorem mnI_none : ∀ {xs : List Int}, mnI xs = none → xs = []
  | [], _ => rfl
  | x :: xs, h => by
    unfold mnI at h
    cases e : mnI xs <;> rw [e] at h <;> exact nomatch h
theorem mxI_is : ∀ {xs : List Int} {m : Int}, mxI xs = some m → m ∈ xs ∧ ∀ y ∈ xs, y ≤ m
  | [], _, h => nomatch h
  | x :: xs, m, h => by
    unfold mxI at h
    cases e : mxI xs with
    | none =>
      rw [e] at h
      cases h
      rw [mxI_none e]
      exact ⟨List.mem_cons_self, fun y hy => by rw [List.mem_singleton.mp hy]; exact Int.le_refl _⟩
    | some n =>
      rw [e] at h
      obtain ⟨h1, h2⟩ := mxI_is e
      have h : (if n < x then x else n) = m := Option.some.inj h
      by_cases z : n < x
      · rw [if_pos z] at h
        subst h
        refine ⟨List.mem_cons_self, fun y hy => ?_⟩
        rcases List.mem_cons.mp hy with hy | hy
        · omega
        · have := h2 y hy; omega
      · rw [if_neg z] at h
        subst h
        refine ⟨List.mem_cons_of_mem _ h1, fun y hy => ?_⟩
        rcases List.mem_cons.mp hy with hy | hy
        · omega
        · exact h2 y hy
theorem mnI_is : ∀ {xs : List Int} {m : Int}, mnI xs = some m → m ∈ xs ∧ ∀ y ∈ xs, m ≤ y
  | [], _, h => nomatch h
  | x :: xs, m, h => by
    unfold mnI at h
    cases e : mnI xs with
    | none =>
      rw [e] at h
      cases h
      rw [mnI_none e]
      exact ⟨List.mem_cons_self, fun y hy => by rw [List.mem_singleton.mp hy]; exact Int.le_refl _⟩
    | some n =>
      rw [e] at h
      obtain ⟨h1, h2⟩ := mnI_is e
      have h : (if x < n then x else n) = m := Option.some.inj h
      by_cases z : x < n
      · rw [if_pos z] at h
        subst h
        refine ⟨List.mem_cons_self, fun y hy => ?_⟩
        rcases List.mem_cons.mp hy with hy | hy
        · omega
        · have := h2 y hy; omega
      · rw [if_neg z] at h
        subst h
        refine ⟨List.mem_cons_of_mem _ h1, fun y hy => ?_⟩
        rcases List.mem_cons.mp hy with hy | hy
        · omega
        · exact h2 y hy
theorem mxI_uq {xs : List Int} {m n : Int} (h : mxI xs = some m) (h1 : n ∈ xs) (h2 : ∀ y ∈ xs, y ≤ n) : m = n := by
  have a := mxI_is h
  have b := a.2 n h1
  have c := h2 m a.1
  omega
theorem mnI_uq {xs : List Int} {m n : Int} (h : mnI xs = some m) (h1 : n ∈ xs) (h2 : ∀ y ∈ xs, n ≤ y) : m = n := by
  have a := mnI_is h
  have b := a.2 n h1
  have c := h2 m a.1
  omega
section
variable {X : Cx} {K : PySem.W.Frag}
theorem cr_maxK (hc : X.calm = true) (h : X.K = K) : CallR X (.builtin "max") (rMax K) := by rw [← h]; exact cr_max hc
theorem cr_minK (hc : X.calm = true) (h : X.K = K) : CallR X (.builtin "min") (rMin K) := by rw [← h]; exact cr_min hc
end
end PG

set_option Elab.async false
set_option linter.all false
set_option maxRecDepth 100000
set_option maxHeartbeats 4000000
namespace PG
open PySem PySem.Spec PyProof.Rows L2
open PySem.W (T3 T4 Datum DatumOrd Holds HoldAll EachIs)
/-! ### an exception that was caught and is kept: tracked from then on -/
def excAt (cls : Value) (d : Option Addr) (a : Addr) : Heap → Prop := fun h => ∃ o vs, h.get? a = some o ∧ Zc cls d o ∧ o.data = .fields vs
def excO (cls : Value) (d : Option Addr) (a : Addr) : HO := .ext (excAt cls d a)
section
variable {X : Cx} {pins : List (Addr × Obj)} {σ : L2.St} {H : Hp} {s : Shared}
theorem adopt {a : Addr} {cls : Value} {d : Option Addr} (I : L2.Inv X pins σ H s) (ha : H a = none) (hp : excAt cls d a s.heap) (h0 : X.s_0.heap.get? a = none) (nL : a ≠ X.env.locals) (np : ∀ p ∈ X.pn ++ pins, p.1 ≠ a) :
    L2.Inv X pins σ (upd H a (excO cls d a)) s := by
  obtain ⟨o, vs, ho, hz, hd⟩ := id hp
  have keep : ∀ {b : Addr} {u : HO}, H b = some u → upd H a (excO cls d a) b = some u := fun {b u} q => (upd_ne (ne_of_none q ha)).trans q
  have bare : ∀ {b : Addr}, b ≠ a → H b = none → upd H a (excO cls d a) b = none := fun {b} z q => (upd_ne z).trans q
  refine ⟨I.ok, I.os, I.bare, ⟨I.base.keep, I.base.slot, fun b u q n hx => bare (fun z => ?_) (I.base.free b u q n hx), I.base.there, fun b xs q => keep (I.base.tups b xs q), fun b u v q => keep (I.base.frzs b u v q), fun b ps q => ?_⟩, I.loc, I.cell, bare (Ne.symm nL) I.free, fun y k e => bare (fun z => ?_) (I.freeC y k e), fun p hq => ?_, ?_, I.len⟩
  · rw [z, h0] at q; exact nomatch q
  · obtain ⟨more, r⟩ := I.base.tbls b ps q
    exact ⟨more, keep r⟩
  · obtain ⟨v, w, hw, hv⟩ := I.cell y k e
    rw [z, ho] at hw
    cases hw
    rw [hd] at hv
    exact nomatch hv
  · obtain ⟨q1, q2, q3⟩ := I.pin p hq
    exact ⟨q1, bare (np p hq) q2, q3⟩
  · exact L2.HOk.laidN I.hok (fun _ _ q => q) ha ⟨hp, ⟨o, ho⟩, fun g1 g2 x k => x.imp fun o' y => y.imp fun vs' z => ⟨k _ z.1, z.2⟩⟩
end
/-- what the clause 'except x as n', whose suite keeps the exception, wishes -/
def wKeep (K : PySem.W.Frag) (c : Value) (i : Nat) (ts : Addr → TS) (out : WX) (D : Ends) : WX := fun cls d σ H =>
  ∃ b, PySem.W.exmOne K cls c = some b ∧ (b = true → ∀ a, H a = none → ts a { nx := fun σ' H' => D.nx (σ'.set i none) (upd H' a (excO cls d a)), rt := fun _ _ => False, bk := fun _ _ => False, ct := fun _ _ => False } (σ.set i (some (.ref a))) H) ∧ (b = false → out cls d σ H)
section
variable {X : Cx} {x n : Str} {c : Value} {i : Nat} {body suite : List Stmt} {b1 : Stmt} {np q1 q2 : Pos} {tb : WX → TS} {ts : Addr → TS} {out : WX}
theorem ps_try_keep (hs : X.stack = X.env :: X.outer) (hf : X.env.frame = some X.env.locals) (hex : X.ex = []) (hN : X.N.Nodup) (hi : X.N[i]? = some n) (hl : X.env.kindOf n = some .local) (hc : Names X x c) (tk : Takes X out)
    (hb : ∀ (W : WX) (pn : List (Addr × Obj)) (xe : Value → Shared → Prop), Takes (X.tr pn xe) W → PassesOwn (model X.prog X.w) X.A X.env xe → PSs (X.tr pn xe) body (tb W))
    (hsu : ∀ (a : Addr) (o : Obj) (pn : List (Addr × Obj)), PSs (X.suite a ((a, o) :: pn)) (b1 :: suite) (ts a)) :
    PS X (.Try body [.ExceptHandler (some (.Name x np)) (some n) (b1 :: suite) q1] [] [] q2) (fun D σ H => tb (wKeep X.K c i ts out D) D σ H) := by
  refine ⟨fun pins s σ H D I wish => wpAny_Try_except ?_⟩
  have ok := I.ok
  have hfr : X.A.frames = some (X.env :: X.outer) := ok.frames.trans (by rw [hs])
  have run := (hb (wKeep X.K c i ts out D) (X.pn ++ pins) (fun e g1 => wpAny (model X.prog X.w) X.A (noteFrame e X.env) (fun _ g2 => wpAny (model X.prog X.w) X.A (setFlight e none)
    (fun _ g3 => wpAny (model X.prog X.w) X.A (handleBy e X.env [.ExceptHandler (some (.Name x np)) (some n) (b1 :: suite) q1]) (SP X pins D) X.xe g3) X.xe g2) X.xe g1)
    (fun u g ⟨a, B, sI, ps, τ, G, cls, d, eu, J0, nb, up, sky, na, eos, ag, b, hb1, yes, no⟩ => by
      subst eu
      have J : L2.Inv X pins τ G sI := J0.ofTry ok
      show wpAny (model X.prog X.w) X.A (noteFrame (.ref a) X.env) _ _ _
      refine Sky.land Zc.steady hfr hf (show Sky B (X.env :: X.outer) a (Zc cls d) X.env.locals g.heap by rw [← hs]; exact sky) fun k1 fl1 up1 => ?_
      have J1 : L2.Inv X pins τ G { g with heap := k1 } := J.landed nb fl1.1 (up.trans up1) eos ag
      obtain ⟨o1, vs1, ho1, hz1, hd1⟩ := fl1.there
      have off : a ∉ frs (X.env :: X.outer) := fun hm => by
        obtain ⟨_, o', eo, hnf⟩ := fl1.2.2.1.mem hm
        rw [ho1] at eo
        cases eo
        exact hnf _ hd1
      have nL : a ≠ X.env.locals := fun z => off (List.mem_filterMap.mpr ⟨X.env, List.mem_cons_self, by rw [hf, z]⟩)
      have nF : a ∉ X.fs := fun hm => by
        obtain ⟨e, he, q⟩ := List.mem_filterMap.mp hm
        exact off (List.mem_filterMap.mpr ⟨e, List.mem_cons_of_mem _ he, q⟩)
      have young : ∀ o, sI.heap.get? a ≠ some o := fun o q => by
        have z := nb a o q (by rw [hs]; exact off)
        rw [fl1.2.1] at z
        exact nomatch z
      have h0 : X.s_0.heap.get? a = none := by
        cases q : X.s_0.heap.get? a with
        | none => rfl
        | some o =>
          obtain ⟨o', z⟩ := J.base.there a o q (by rw [hex]; exact fun z => nomatch z)
          exact (young _ z).elim
      have offp : ∀ p ∈ X.pn ++ pins, p.1 ≠ a := fun p hp z => young p.2 (by rw [← z]; exact (J.pin p hp).1)
      have S1 := J1.suite ho1 hd1 na nL nF
      refine wpAny_handleBy_cons (codeAny_handlers_test ?_) (fun q => nomatch q)
      have look : PySem.W.Looks (model X.prog X.w) k1 (typeOf (.ref a)) cls := fun _ _ _ _ k q => wpAny_typeOf_ref (k _ _ ho1) (by rw [hz1.1]; exact q)
      have match_ := PySem.W.exm_one (M := model X.prog X.w) J1.kIn look hb1
      have named : ∀ {Q : Value → Shared → Prop} {E : Value → Shared → Prop}, Q c { g with heap := k1 } → wpAny (model X.prog X.w) (X.A.mark (some (.ref a))) (eval (.Name x np) X.env) Q E { g with heap := k1 } := fun {Q E} q => by
        obtain ⟨hg, hdbg, hm | ⟨hm, hv, hnn⟩⟩ := hc
        · exact ld_glob (X := X.suite a ((a, o1) :: (X.pn ++ pins))) S1 hg hm q hdbg
        · exact ld_blt (X := X.suite a ((a, o1) :: (X.pn ++ pins))) S1 hg hm hv q hnn hdbg
      refine named (match_.here ?_)
      cases b with
      | true =>
        refine codeAny_handlers_suite_as (HandSPX.lands_againZ fl1 fun k2 fl2 up2 => ?_)
        have J2 : L2.Inv X pins τ G { g with heap := k2 } := J.landed nb fl2.1 ((up.trans up1).trans up2) eos ag
        obtain ⟨o2, vs2, ho2, hz2, hd2⟩ := fl2.there
        refine store_ok (X := X.suite a ((a, o2) :: (X.pn ++ pins))) (v := .ref a) (J2.suite ho2 hd2 na nL nF) hN hi (.inl hl) rfl (fun g5 S5 => ?_) (.inr hl)
        refine wpAny_mono ((hsu a o2 (X.pn ++ pins)).run [] g5 _ G _ S5 (yes rfl a na)) (fun f g6 hsp => ?_) (fun _ _ z => z.elim)
        cases f with
        | next =>
          obtain ⟨τ6, G6, S6, q6⟩ := hsp
          refine gone_ok (X := X.suite a ((a, o2) :: (X.pn ++ pins))) S6 hN hi hl fun g7 S7 => ?_
          obtain ⟨hget, hn7, _⟩ := S7.pin (a, o2) (List.mem_append_left _ List.mem_cons_self)
          exact ⟨_, _, adopt (S7.unsuite ok) hn7 ⟨o2, vs2, hget, hz2, hd2⟩ h0 nL offp, q6⟩
        | brk => obtain ⟨_, _, _, q6⟩ := hsp; exact q6.elim
        | cont => obtain ⟨_, _, _, q6⟩ := hsp; exact q6.elim
        | ret u => obtain ⟨_, _, _, _, _, q6⟩ := hsp; exact q6.elim
      | false =>
        refine wpAny_handleBy_nil ?_
        obtain ⟨_, _, _, o3, vs3, T, oT, ts3, he, hz, hd, h1, hr⟩ := id fl1
        unfold PySem.passOn
        refine wpAny_bind (wpAny_field he hd h1 ?_)
        rw [if_neg (by simp : ¬ ((Value.ref T == Value.none) = true))]
        have up_ : wpAny (model X.prog X.w) X.A (setFlight (.ref a) X.env.frame) (fun _ g4 => wpAny (model X.prog X.w) X.A (throw (.ref a) : Sem Flow) (SP X pins D) X.xe g4) X.xe { g with heap := k1 } := by
          rw [hf]
          exact HandSPX.setFlight_upZ fl1 fun k2 fl2 up2 => wpAny_throw (tk _ _ ⟨a, B, sI, pins, τ, G, cls, d, rfl, J, nb, (up.trans up1).trans up2, .inr (.inr (by rw [hs]; exact fl2)), na, eos, ag, no rfl⟩)
        first
          | exact wpAny_bind up_
          | exact wpAny_bind (wpAny_pure (wpAny_bind up_)))
    PassesOwn.looking).run [] s σ H D (I.toTry _) wish
  refine wpAny_mono run (fun f g hsp => ?_) (fun _ _ z => z)
  cases f with
  | next => obtain ⟨τ, G, J, q⟩ := hsp; exact wpAny_execs_nil ⟨τ, G, J.ofTry ok, q⟩
  | brk => obtain ⟨τ, G, J, q⟩ := hsp; exact ⟨τ, G, J.ofTry ok, q⟩
  | cont => obtain ⟨τ, G, J, q⟩ := hsp; exact ⟨τ, G, J.ofTry ok, q⟩
  | ret u => obtain ⟨v, τ, G, J, r, q⟩ := hsp; exact ⟨v, τ, G, J.ofTry ok, r, q⟩
end
/-! ### isinstance of what was caught -/
section
variable {X : Cx}
theorem inst_of {a D : Addr} {h : Heap} (x : excAt (.ref D) none a h) : ∃ o, PySem.W.InstAt h a o D none := by
  obtain ⟨⟨oc, od, oda, osl⟩, vs, hg, ⟨h1, h2⟩, h3⟩ := x
  dsimp only at h1 h2 h3
  subst h1 h2 h3
  exact ⟨_, hg, rfl, rfl, trivial⟩
/-- whose class is t: what was caught, or a value of a built-in type -/
inductive KX (K : PySem.W.Frag) (H : Hp) : V → Value → Prop where
  | exc {a D : Addr} (e : H a = some (excO (.ref D) none a)) (c : ExcC K D) : KX K H (.ref a) (.ref D)
  | base {x : V} {t : Value} (h : TyX K H x t) : KX K H x t
theorem kx_of {pins : List (Addr × Obj)} {σ : L2.St} {H : Hp} {s : Shared} {x : V} {u t : Value} (I : L2.Inv X pins σ H s) (rx : RelV x u) (k : KX X.K H x t) : ∃ P : Heap → Prop, PySem.W.KitX X.K u t P ∧ P s.heap ∧ u ≠ .builtin "__main__.__loader__#opaque" := by
  cases k with
  | @exc a D e C =>
    cases (show u = Value.ref a from rx)
    obtain ⟨o, J⟩ := inst_of (show excAt (.ref D) none a s.heap from (I.hok a _ e).1)
    exact ⟨_, PySem.W.handS_kitx_exc C.hg C.hk C.hs C.hd C.ha C.hn C.ht C.hm, J, fun z => nomatch z⟩
  | base h => exact kit_of I rx h
def rIsU (K : PySem.W.Frag) : List V → Hp → VK → Prop := fun xs H Q => ∃ (x c : V) (t u : Value) (b : Bool), xs = [x, c] ∧ ClsV c u ∧ KX K H x t ∧ PySem.W.kitOne K t u = some b ∧ Q (.bl b) H
theorem isuK {K : PySem.W.Frag} (hK : X.K = K) : CallR X (.builtin "isinstance") (rIsU K) := by
  subst hK
  intro pins s σ H xs us Q I r ⟨x, c, t, u, b, ex, hc, k, e, q⟩
  subst ex
  obtain ⟨u1, u2, rfl, r1, r2⟩ := vals2 r
  cases hc.eq r2
  obtain ⟨P, Z, p, hx⟩ := kx_of I r1 k
  exact PySem.W.kia_one Z I.kIn p e hx fun tk => ⟨.bl b, H, I.tok tk, rfl, q⟩
def rIsUT (K : PySem.W.Frag) : List V → Hp → VK → Prop := fun xs H Q => ∃ (x : V) (tp : Addr) (cs : List V) (t : Value) (ws : List Value) (b : Bool), xs = [x, .ref tp] ∧ H tp = some (.tup cs) ∧ Paired ClsV cs ws ∧ KX K H x t ∧ PySem.W.kitAny K t ws = some b ∧ Q (.bl b) H
theorem isutK {K : PySem.W.Frag} (hK : X.K = K) : CallR X (.builtin "isinstance") (rIsUT K) := by
  subst hK
  intro pins s σ H xs us Q I r ⟨x, tp, cs, t, ws, b, ex, hT, hc, k, e, q⟩
  subst ex
  obtain ⟨u1, u2, rfl, r1, r2⟩ := vals2 r
  cases (show u2 = Value.ref tp from r2)
  obtain ⟨P, Z, p, hx⟩ := kx_of I r1 k
  obtain ⟨_, its, rv, ⟨oc, od, dt, sl⟩, h1, h2, n, h3⟩ := (show ObjOk X.prog X.w H s.heap tp (.tup cs) from I.hok tp _ hT)
  have e3 := ClsV.all hc rv
  subst e3
  dsimp only at h2 h3
  subst h2 h3
  exact PySem.W.kia_tup Z I.kIn p h1 e hx fun tk => ⟨.bl b, H, I.tok tk, rfl, q⟩
end
theorem kit_own {K : PySem.W.Frag} {t : Value} {C : Addr} {b : Bool} (hd : PySem.W.hasDictIn K C = true) (ht : PySem.W.typeIn K (.ref C) = some (.type "type")) (hs : PySem.W.subIn K t (.ref C) = some b) (ho : PySem.W.subIn K (.ref C) (.ref C) = some true) : PySem.W.kitOne K t (.ref C) = some b := by
  obtain ⟨cd, hc, _⟩ := PySem.W.any_some hd
  unfold PySem.W.kitOne PySem.W.kitCls
  by_cases z : (t == .ref C) = true
  · rw [if_pos z]
    have z := beq_iff_eq.mp z
    subst z
    exact ho.symm.trans hs
  · rw [if_neg z]
    show (if ((PySem.W.clsIn K C).isSome && PySem.W.typeIn K (.ref C) == some (.type "type")) = true then _ else _) = _
    rw [if_pos (by rw [hc, ht]; rfl)]
    exact hs
theorem kit_blt {K : PySem.W.Frag} {D : Addr} {T : String} {b : Bool} (hm : PySem.W.kitMeta T = true) (hs : PySem.W.subIn K (.ref D) (.type T) = some b) : PySem.W.kitOne K (.ref D) (.type T) = some b := by
  unfold PySem.W.kitOne PySem.W.kitCls
  rw [if_neg (by simp)]
  show (if PySem.W.kitMeta T = true then _ else _) = _
  rw [if_pos hm]
  exact hs
theorem any_no {K : PySem.W.Frag} {t c : Value} {cs : List Value} {r : Bool} (h : PySem.W.kitOne K t c = some false) (hr : PySem.W.kitAny K t cs = some r) : PySem.W.kitAny K t (c :: cs) = some r := kitAny_cons h (fun _ => hr) fun z => nomatch z
theorem any_yes {K : PySem.W.Frag} {t c : Value} {cs : List Value} (h : PySem.W.kitOne K t c = some true) : PySem.W.kitAny K t (c :: cs) = some true := kitAny_cons h (fun z => nomatch z) fun _ => rfl
/-! ### a call within a try -/
def tCallW (sp : Sp) (W : WX) (t : TA) : TE := fun σ H Q => t σ H fun vs H1 => sp vs H1 Q fun cls d H' => W cls d σ H'
theorem pe_callW {X : Cx} {k : Nat} {f : Addr} {fd : FuncData} {ps : List Str} {sp : Sp} {W : WX} {x : Str} {p pos : Pos} {e : Expr} {es : List Expr} {t : TA} (F : FnOk X.prog X.w X.K X.mg X.base (L2.CX X.prog X.w) k f fd ps sp) (hr : Room k X.A) (hg : Gl X x) (hm : X.mg x = some (.ref f)) (hk : PySem.W.keepIn X.K (.ref f) = true) (hb : Binds X.K fd ps [])
    (tk : Takes X W) (ha : PA X (e :: es) t) (hdb : (x == ("__debug__" : Str)) = false := by decide) (he : starEach (e :: es) X.env = (false, eval e X.env) :: starEach es X.env := by rfl) (hpl : (backTo pos (starEach es X.env)).any (·.1) = false := by rfl) :
    PE X (.Call (.Name x p) (e :: es) [] pos) (tCallW sp W t) := by
  refine ⟨fun pins s σ H Q I h => wpAny_Call_Name_kw (ld_glob I hg hm ?_ hdb)⟩
  refine PySem.W.callWith_K (h₀ := X.base) I.ok.mod.kin hk (thn (ha.run pos pins s σ H _ I h) fun us g ⟨vs, G, J, r, q⟩ => ⟨J.kIn, ?_⟩) he hpl
  have hl : us.length = ps.length := by rw [← r.length]; exact F.len _ _ _ _ q
  refine wpAny_call (codeAny_mono (F.run X.A X.stack g G ⟨us, []⟩ us vs Q (fun cls d H' => W cls d σ H') hr J.env0 (by have := hb g us J.kIn (by simpa using hl); simpa using this) r q) fun res g' hq => ?_)
  cases res with
  | error z => exact tk _ _ (XE.of_call J (fun _ _ _ h => h) hq)
  | ok fl =>
    cases fl with
    | ret u => exact J.after hq
    | next => exact hq.elim
    | brk => exact hq.elim
    | cont => exact hq.elim
/-- try: m, except one of those of L: k1, else k0 -/
def tryK {a : Type} (L : List String) (m : M Unit) (k0 : M a) (k1 : String → M a) : M a := match m with
  | .ok _ => k0
  | .error .bad => bad
  | .error (.exc n) => if n ∈ L then k1 n else bad
theorem wp_tryK {b : Type} {L : List String} {m : M Unit} {k0 : M b} {k1 : String → M b} {Q : b → Prop} {E : String → Prop} (h : wp (tryK L m k0 k1) Q E) : wp m (fun _ => wp k0 Q E) fun n => n ∈ L ∧ wp (k1 n) Q E := by
  cases m with
  | ok x => exact h
  | error e =>
    cases e with
    | bad => exact h
    | exc n =>
      by_cases z : n ∈ L
      · have e : tryK L (.error (.exc n)) k0 k1 = k1 n := if_pos z
        rw [e] at h
        exact ⟨z, h⟩
      · have e : tryK L (.error (.exc n)) k0 k1 = bad := if_neg z
        rw [e] at h
        exact h.elim
theorem wp_okE {a : Type} {x : a} {Q : a → Prop} {E : String → Prop} (h : wp (.ok x : M a) Q E) : Q x := h
theorem Ow.exc {Z : Ent} {F H H1 : Hp} {cs : List (Addr × HO)} (O : Ow Z F cs H) (k : Kp [] H H1) : Ow Z F cs H1 where
  g := {
    f := O.g.f
    s := fun b o e => k.k b o (fun z => nomatch z) (O.g.s b o e)
    k := fun b o hb e => k.k b o (fun z => nomatch z) (O.g.k b o hb e)
    t := fun b h => k.t b (O.g.t b h)
    n := O.g.n
    u := fun b xs e => by
      cases q : H b with
      | none =>
        left
        cases z : Z.H b with
        | none => rfl
        | some o => exact (O.g.t b (by rw [z]; exact fun w => nomatch w) q).elim
      | some o =>
        have := k.k b o (fun z => nomatch z) q
        rw [e] at this
        cases this
        exact O.g.u b xs q }
  cf := O.cf
  ch := fun c hc => k.k _ _ (fun z => nomatch z) (O.ch c hc)
  nd := O.nd
  ca := O.ca
  nt := O.nt
theorem mem1 {n a : String} (h : n ∈ [a]) : n = a := List.mem_singleton.mp h
theorem mem2 {n a b : String} (h : n ∈ [a, b]) : n = a ∨ n = b := by simpa using h
/-! ### lists of truths: count, index -/
theorem RL.bools {H : Hp} : ∀ {vs : List V} {xs : List Bool}, RL H vs xs → vs = xs.map V.bl
  | _, [], h => RL.nil_ h
  | _, x :: xs, h => by
    obtain ⟨w, ws, rfl, h1, h2⟩ := RL.cons_ h
    rw [R.bl_ h1, RL.bools h2]
    rfl
def cntB (k : Bool) : List Bool → Int
  | [] => 0
  | y :: r => (if y = k then 1 else 0) + cntB k r
theorem cnt_in (k : Bool) : ∀ bs : List Bool, PySem.Spec.countIn (.bool k) (bs.map PyData.bool) = cntB k bs
  | [] => rfl
  | b :: bs => by
    show (if same (PyData.bool b) (PyData.bool k) = true then (1 : Int) else 0) + PySem.Spec.countIn _ _ = _
    rw [cnt_in k bs]
    cases b <;> cases k <;> rfl
theorem bools_vals : ∀ {bs : List Bool} {its : List Value}, Vals (bs.map V.bl) its → its = bs.map Value.bool
  | [], its, r => by rw [List.map_nil] at r; cases r; rfl
  | b :: bs, its, r => by
    rw [List.map_cons] at r
    cases r with
    | cons h t => cases h; rw [List.map_cons, ← bools_vals t]
theorem reads_bools {hp : Heap} : ∀ bs : List Bool, ReadsAll hp (bs.map Value.bool) (bs.map PyData.bool) []
  | [] => .nil
  | b :: bs => .cons (as := []) (bs := []) (.bool b) (reads_bools bs)
def rCntB (K : PySem.W.Frag) : V → List V → Hp → VK → Prop := fun x xs H Q => ∃ (a : Addr) (bs : List Bool) (k : Bool), x = .ref a ∧ xs = [.bl k] ∧ SqL K H a (bs.map V.bl) ∧ Q (.int (cntB k bs)) H
theorem countBK {X : Cx} {K : PySem.W.Frag} (hK : X.K = K) : MtR X "list.count" (rCntB K) := by
  subst hK
  intro pins s σ H x xs v us Q I rx r ⟨a, bs, k, ex, exs, hs, q⟩
  subst ex exs
  cases rx
  obtain ⟨u, rfl, ru⟩ := vals1 r
  cases ru
  obtain ⟨its, rv, pl, _⟩ := I.list hs
  cases bools_vals rv
  refine count_list_bools (hp := s.heap) (xs := bs.map PyData.bool) pl.isList (reads_bools bs) (List.all_eq_true.mpr fun y hy => ?_) ?_
  · obtain ⟨b, _, rfl⟩ := List.mem_map.mp hy
    rfl
  · rw [cnt_in]
    exact ⟨.int (cntB k bs), H, I.tok _, ⟨_, rfl⟩, q⟩
def ixB (xs : List Bool) (y : Bool) : M Int := if y ∈ xs then .ok ((xs.findIdx (· == y) : Nat) : Int) else bad
theorem wp_ixB {a : Type} {Q : a → Prop} {E : String → Prop} {xs : List Bool} {y : Bool} {k : Int → M a} (h : wp (ixB xs y >>= k) Q E) : ∃ j, xs.findIdx (· == y) = j ∧ xs[j]? = some y ∧ (∀ (m : Nat) z, m < j → xs[m]? = some z → z ≠ y) ∧ wp (k (j : Int)) Q E := by
  unfold ixB at h
  by_cases hm : y ∈ xs
  · rw [if_pos hm] at h
    have hlt : xs.findIdx (· == y) < xs.length := List.findIdx_lt_length_of_exists ⟨y, hm, by simp⟩
    refine ⟨_, rfl, ?_, fun m z hmj hz e => ?_, h⟩
    · rw [List.getElem?_eq_getElem hlt]
      have := List.findIdx_getElem (w := hlt)
      rw [eq_of_beq this]
    · have := List.not_of_lt_findIdx hmj
      obtain ⟨hl, hz⟩ := List.getElem?_eq_some_iff.mp hz
      rw [hz, e] at this
      simp at this
  · rw [if_neg hm] at h; exact h.elim
theorem all_flat_bl : ∀ xs : List Bool, (xs.map V.bl).all flatV = true
  | [] => rfl
  | x :: xs => by rw [List.map_cons, List.all_cons, all_flat_bl xs]; rfl
theorem bl_noeq {xs : List Bool} {y : Bool} {j : Nat} (h : ∀ (m : Nat) z, m < j → xs[m]? = some z → z ≠ y) : ∀ (m : Nat) (z' : V), m < j → (xs.map V.bl)[m]? = some z' → eqV z' (.bl y) = false := fun m z' hm hz => by
  rw [List.getElem?_map] at hz
  cases e : xs[m]? with
  | none => rw [e] at hz; cases hz
  | some z =>
    rw [e] at hz
    have hz : V.bl z = z' := Option.some.inj hz
    subst hz
    have := h m z hm e
    revert this
    cases z <;> cases y <;> intro this <;> first | rfl | exact (this rfl).elim
theorem bl_at {xs : List Bool} {y : Bool} {j : Nat} (h : xs[j]? = some y) : (xs.map V.bl)[j]? = some (.bl y) := by rw [List.getElem?_map, h]; rfl
theorem bl_eq {y : Bool} : eqV (.bl y) (.bl y) = true := by cases y <;> rfl
/-- x in xs, of data that are no scalars -/
def inD {a : Type} [DecidableEq a] (x : a) (xs : List a) : Prop := x ∈ xs
instance {a : Type} [DecidableEq a] (x : a) (xs : List a) : Decidable (inD x xs) := @List.instDecidableMemOfLawfulBEq a instBEqOfDecidableEq _ x xs
theorem iteDx {c A B : Prop} {i : Decidable c} (h1 : c → A) (h2 : ¬ c → B) : if @decide c i = true then A else B := @iteD c A B i h1 h2
theorem iteNx {c A B : Prop} {i : Decidable c} (h1 : c → B) (h2 : ¬ c → A) : if (!@decide c i) = true then A else B := @iteN c A B i h1 h2
theorem sl43 (a b c d : V) : ¬ (HT.sIx [a, b, c, d].length 0 none = 0 ∧ HT.sIx [a, b, c, d].length [a, b, c, d].length (some (3 : Int)) = [a, b, c, d].length) := fun h => absurd h.2 (by show ¬ (HT.sIx 4 4 (some (3 : Int)) = 4); decide)
theorem dgetD_S {β : Type} [Py β] {F H : Hp} {a : Addr} {kvs : List (Key × V)} {i : Str} {xs : List (Str × β)} {z : V} {y : β} (e : H a = some (.dK kvs)) (hr : RD F kvs xs) (hz : R F z y) : ∃ o, DGet H a (.str i) o ∧ R F (o.getD z) ((dGet xs i).getD y) := by
  refine ⟨valV kvs (.inr i), DGet.k (k := .inr i) e, ?_⟩
  rcases hr.get i with ⟨h1, h2⟩ | ⟨u, v, h1, h2, h3⟩
  · rw [h1, show valV kvs (.inr i) = none from h2]; exact hz
  · rw [h1, show valV kvs (.inr i) = some v from h2]; exact h3
end PG

set_option Elab.async false
set_option linter.all false
set_option maxRecDepth 100000
set_option maxHeartbeats 4000000
namespace PG
open PySem PySem.Spec PyProof.Rows L2
open PySem.W (T3 T4 Datum DatumOrd Holds HoldAll EachIs)
/-! ### a list of lists that are all ours: the outer cell and the inner ones, any number of them, behind the other cells -/
abbrev LCV := Addr × List V
def lcV (c : LCV) : Addr × HO := (c.1, .lst c.2)
def llC (p : Addr) (ps : List LCV) : List (Addr × HO) := (p, .lst (ps.map fun c => V.ref c.1)) :: ps.map lcV
/-- the inner lists stand for these -/
inductive LLR {a : Type} [Py a] (F : Hp) : List LCV → List (List a) → Prop
  | nil : LLR F [] []
  | cons {c : LCV} {xs : List a} {ps : List LCV} {p : List (List a)} : RL F c.2 xs → LLR F ps p → LLR F (c :: ps) (xs :: p)
section
variable {a : Type} [Py a] {F F' : Hp}
theorem LLR.mono {ps : List LCV} {p : List (List a)} (h : LLR F ps p) (s : Same F F') : LLR F' ps p := by
  induction h with
  | nil => exact .nil
  | cons h _ ih => exact .cons (h.mono s) ih
theorem LLR.len {ps : List LCV} {p : List (List a)} (h : LLR F ps p) : ps.length = p.length := by
  induction h with
  | nil => rfl
  | cons _ _ ih => rw [List.length_cons, List.length_cons, ih]
theorem LLR.got {ps : List LCV} {p : List (List a)} (h : LLR F ps p) : ∀ {j : Nat} {xs : List a}, p[j]? = some xs → ∃ c, ps[j]? = some c ∧ RL F c.2 xs := by
  induction h with
  | nil => intro j xs e; simp at e
  | @cons c ys ps p h _ ih =>
    intro j xs e
    cases j with
    | zero =>
      have e : ys = xs := Option.some.inj e
      subst e
      exact ⟨c, rfl, h⟩
    | succ j => exact ih e
theorem LLR.set {ps : List LCV} {p : List (List a)} (h : LLR F ps p) {w : List V} {xs : List a} (hw : RL F w xs) (q : Addr) : ∀ j : Nat, LLR F (ps.set j (q, w)) (p.set j xs) := by
  induction h with
  | nil => intro j; exact .nil
  | cons h hs ih =>
    intro j
    cases j with
    | zero => exact .cons hw hs
    | succ j => exact .cons h (ih j)
theorem LLR.snoc {ps : List LCV} {p : List (List a)} (h : LLR F ps p) {w : List V} {xs : List a} (hw : RL F w xs) (q : Addr) : LLR F (ps ++ [(q, w)]) (p ++ [xs]) := by
  induction h with
  | nil => exact .cons hw .nil
  | cons h _ ih => exact .cons h ih
end
section
variable {Z : Ent} {F H : Hp} {S : List (Addr × HO)} {p : Addr} {ps : List LCV} {c : LCV} {j : Nat}
theorem ref_set (hj : ps[j]? = some c) (w : List V) : ((ps.set j (c.1, w)).map fun c => V.ref c.1) = ps.map fun c => V.ref c.1 := by
  refine List.ext_getElem? fun i => ?_
  rw [List.getElem?_map, List.getElem?_map, List.getElem?_set]
  by_cases h : j = i
  · subst h
    rw [if_pos rfl, hj]
    rw [if_pos (List.getElem?_eq_some_iff.mp hj).1]
    rfl
  · rw [if_neg h]
theorem llC_at (hj : ps[j]? = some c) : (S ++ llC p ps)[S.length + 1 + j]? = some (c.1, .lst c.2) := by
  rw [List.getElem?_append_right (by omega)]
  show (llC p ps)[S.length + 1 + j - S.length]? = _
  rw [show S.length + 1 + j - S.length = j + 1 by omega]
  show (ps.map lcV)[j]? = _
  rw [List.getElem?_map, hj]
  rfl
theorem llC_top : (S ++ llC p ps)[S.length]? = some (p, .lst (ps.map fun c => V.ref c.1)) := by
  rw [List.getElem?_append_right (Nat.le_refl _), Nat.sub_self]
  rfl
theorem Ow.llAt (O : Ow Z F (S ++ llC p ps) H) (hj : ps[j]? = some c) : H c.1 = some (.lst c.2) := O.at _ (llC_at hj)
theorem Ow.llTop (O : Ow Z F (S ++ llC p ps) H) : H p = some (.lst (ps.map fun c => V.ref c.1)) := O.at _ llC_top
/-- one of the inner lists becomes w -/
theorem Ow.llSet (O : Ow Z F (S ++ llC p ps) H) (hj : ps[j]? = some c) (w : List V) : Ow Z F (S ++ llC p (ps.set j (c.1, w))) (upd H c.1 (.lst w)) := by
  have z := O.set (S.length + 1 + j) (.lst w) (llC_at hj)
  have e : (S ++ llC p ps).set (S.length + 1 + j) (c.1, .lst w) = S ++ llC p (ps.set j (c.1, w)) := by
    rw [List.set_append_right _ _ (by omega), show S.length + 1 + j - S.length = j + 1 by omega]
    unfold llC
    rw [ref_set hj w, List.set_cons_succ, List.map_set]
    rfl
  rw [e] at z
  exact z
/-- a new inner list goes behind -/
theorem Ow.llPush {q : Addr} {w : List V} (O : Ow Z F ((q, .lst w) :: (S ++ llC p ps)) H) : Ow Z F (S ++ llC p (ps ++ [(q, w)])) (upd H p (.lst ((ps.map fun c => V.ref c.1) ++ [V.ref q]))) := by
  have z := O.set (S.length + 1) (.lst ((ps.map fun c => V.ref c.1) ++ [V.ref q])) (show ((q, HO.lst w) :: (S ++ llC p ps))[S.length + 1]? = some (p, _) from llC_top)
  refine z.perm ?_
  have e : ((q, HO.lst w) :: (S ++ llC p ps)).set (S.length + 1) (p, .lst ((ps.map fun c => V.ref c.1) ++ [V.ref q])) = (q, HO.lst w) :: (S ++ ((p, .lst ((ps.map fun c => V.ref c.1) ++ [V.ref q])) :: ps.map lcV)) := by
    rw [List.set_cons_succ, List.set_append_right _ _ (Nat.le_refl _), Nat.sub_self]
    rfl
  rw [e]
  unfold llC
  rw [List.map_append, List.map_append]
  show ((q, HO.lst w) :: (S ++ ((p, HO.lst ((ps.map fun c => V.ref c.1) ++ [V.ref q])) :: ps.map lcV))).Perm (S ++ ((p, HO.lst ((ps.map fun c => V.ref c.1) ++ [V.ref q])) :: (ps.map lcV ++ [(q, HO.lst w)])))
  have e2 : S ++ ((p, HO.lst ((ps.map fun c => V.ref c.1) ++ [V.ref q])) :: (ps.map lcV ++ [(q, HO.lst w)])) = (S ++ ((p, HO.lst ((ps.map fun c => V.ref c.1) ++ [V.ref q])) :: ps.map lcV)) ++ [(q, HO.lst w)] := by
    rw [List.append_assoc, List.cons_append]
  rw [e2]
  exact (List.perm_append_singleton _ _).symm
/-- an empty one: a new outer list -/
theorem Ow.llNew (O : Ow Z F ((p, .lst []) :: S) H) : Ow Z F (S ++ llC p []) H := O.perm (List.perm_append_singleton _ _).symm
theorem Ow.frzM {A B : List (Addr × HO)} {b : Addr} {o : HO} (O : Ow Z F (A ++ (b, o) :: B) H) (hz : Z.H b = none) : ∃ F', Ow Z F' (A ++ B) H ∧ Same F F' ∧ F' b = some o := by
  have e : (A ++ (b, o) :: B)[A.length]? = some (b, o) := by rw [List.getElem?_append_right (Nat.le_refl _), Nat.sub_self]; rfl
  obtain ⟨F', O', s, h⟩ := O.frzE A.length e hz
  rw [List.eraseIdx_append_of_length_le (Nat.le_refl _), Nat.sub_self] at O'
  exact ⟨F', O', s, h⟩
theorem Ow.frzAll {a : Type} [Py a] : ∀ {ps : List LCV} {F : Hp} {A : List (Addr × HO)} {xs : List (List a)}, Ow Z F (A ++ ps.map lcV) H → (∀ c ∈ ps, Z.H c.1 = none) → LLR F ps xs →
    ∃ F', Ow Z F' A H ∧ Same F F' ∧ RL F' (ps.map fun c => V.ref c.1) xs
  | [], F, A, xs, O, _, r => by
    cases r
    rw [List.map_nil, List.append_nil] at O
    exact ⟨F, O, Same.refl _, RL.nil⟩
  | c :: ps, F, A, xs, O, hz, r => by
    cases r with
    | @cons _ x _ q h1 h2 =>
      obtain ⟨F1, O1, s1, g1⟩ := Ow.frzM (A := A) (B := ps.map lcV) (b := c.1) (o := .lst c.2) O (hz c List.mem_cons_self)
      obtain ⟨F2, O2, s2, r2⟩ := Ow.frzAll O1 (fun d hd => hz d (List.mem_cons_of_mem _ hd)) (h2.mono s1)
      exact ⟨F2, O2, s1.trans s2, RL.cons (R.lst (s2 _ _ g1) ((h1.mono s1).mono s2)) r2⟩
/-- all of it is read alone from now on -/
theorem Ow.llFrz {a : Type} [Py a] {xs : List (List a)} (O : Ow Z F (S ++ llC p ps) H) (hp : Z.H p = none) (hz : ∀ c ∈ ps, Z.H c.1 = none) (r : LLR F ps xs) : ∃ F', Ow Z F' S H ∧ Same F F' ∧ R F' (.ref p) xs := by
  obtain ⟨F1, O1, s1, g1⟩ := Ow.frzM (A := S) (B := ps.map lcV) (b := p) (o := .lst (ps.map fun c => V.ref c.1)) O hp
  obtain ⟨F2, O2, s2, r2⟩ := Ow.frzAll O1 hz (r.mono s1)
  exact ⟨F2, O2, s1.trans s2, R.lst (s2 _ _ g1) r2⟩
end
section
variable {a : Type} [Py a] {F : Hp}
theorem LLR.atI {ps : List LCV} {p : List (List a)} (h : LLR F ps p) {i : Int} {y : List a} (e : L2.atI p i = some y) :
    ∃ j c, L2.atI (ps.map fun c => V.ref c.1) i = some (V.ref c.1) ∧ ps[j]? = some c ∧ RL F c.2 y ∧ ixN p.length i = some j := by
  unfold L2.atI at e
  cases hx : ixN p.length i with
  | none => rw [hx] at e; exact nomatch e
  | some j =>
    rw [hx] at e
    have e : p[j]? = some y := e
    obtain ⟨c, hc, hr⟩ := h.got e
    refine ⟨j, c, ?_, hc, hr, rfl⟩
    unfold L2.atI
    rw [List.length_map, h.len, hx]
    show (ps.map fun c => V.ref c.1)[j]? = _
    rw [List.getElem?_map, hc]
    rfl
theorem zs_set {H : Hp} {ps : List LCV} {c : LCV} {j : Nat} (h : ∀ d ∈ ps, H d.1 = none) (hj : ps[j]? = some c) (w : List V) : ∀ d ∈ ps.set j (c.1, w), H d.1 = none := fun d hd => by
  rcases List.mem_or_eq_of_mem_set hd with hd | hd
  · exact h d hd
  · rw [hd]; exact h c (List.mem_of_getElem? hj)
theorem zs_snoc {H : Hp} {ps : List LCV} {q : Addr} {w : List V} (h : ∀ d ∈ ps, H d.1 = none) (hq : H q = none) : ∀ d ∈ ps ++ [(q, w)], H d.1 = none := fun d hd => by
  rcases List.mem_append.mp hd with hd | hd
  · exact h d hd
  · rw [List.mem_singleton.mp hd]; exact hq
end
/-! ### a list so many times -/
def repL {a : Type} (k : Int) (xs : List a) : List a := (List.replicate k.toNat xs).flatten
theorem RL.rep {a : Type} [Py a] {H : Hp} {vs : List V} {xs : List a} (h : RL H vs xs) (k : Int) : RL H (repL k vs) (repL k xs) := by
  unfold repL
  induction k.toNat with
  | zero => exact RL.nil
  | succ n ih =>
    rw [List.replicate_succ, List.replicate_succ, List.flatten_cons, List.flatten_cons]
    exact RL.app h ih
def CRep (n : Nat) (k : Int) : Prop := -(2 ^ 63) ≤ k ∧ k < 2 ^ 63 ∧ n * k.toNat < 16777216
instance (n : Nat) (k : Int) : Decidable (CRep n k) := by unfold CRep; infer_instance
theorem R.tpN {a : Type} [Py a] {F : Hp} {p : Addr} {vs : List V} {xs : List a} (h : F p = some (.tup vs)) (r : RL F vs xs) : R F (.ref p) (Tp.mk xs) := by
  show Rep F (.ref p) (.tuple (xs.map Py.toD))
  exact .tup h r
/-! ### what is walked, K told outright (for comprehensions within one another) -/
section
variable {X : Cx} {K : PySem.W.Frag} {tg : Expr}
theorem piListK (h : X.K = K) {l : Expr} {tl : TE} (hl : PE X l tl) : PI X tg l (iList K tl) := by rw [← h]; exact pi_list hl
theorem piTupK (h : X.K = K) {l : Expr} {tl : TE} (hl : PE X l tl) : PI X tg l (iTup K tl) := by rw [← h]; exact pi_tup hl
theorem piEnumK (h : X.K = K) {e : Expr} {ta : TA} {p pos tpos : Pos} {elts : List Expr} {kk : Nat} (hg : Gl X "enumerate") (hm : X.mg "enumerate" = none) (ha : PA X [e] ta) (hs : starEach [e] X.env = [(false, eval e X.env)] := by rfl) :
    PI X (.Tuple elts kk tpos) (.Call (.Name "enumerate" p) [e] [] pos) (iEnum K ta) := by rw [← h]; exact pi_enum hg hm ha hs
theorem piZipK (h : X.K = K) {e e2 : Expr} {ta : TA} {p pos tpos : Pos} {elts : List Expr} {kk : Nat} (hg : Gl X "zip") (hm : X.mg "zip" = none) (ha : PA X [e, e2] ta)
    (hs : starEach [e, e2] X.env = (false, eval e X.env) :: starEach [e2] X.env := by rfl) (hpl : (backTo pos (starEach [e2] X.env)).any (·.1) = false := by rfl) :
    PI X (.Tuple elts kk tpos) (.Call (.Name "zip" p) [e, e2] [] pos) (iZip K ta) := by rw [← h]; exact pi_zip hg hm ha hs hpl
end
end PG

set_option Elab.async false
set_option linter.all false
set_option maxRecDepth 100000
set_option maxHeartbeats 4000000
namespace PG
open PySem PySem.Spec PyProof.Rows L2
open PySem.W (T3 T4 Datum DatumOrd Holds HoldAll EachIs)
/-! ### one of two kinds -/
inductive Un (a b : Type) where
  | l (x : a)
  | r (y : b)
  deriving DecidableEq
instance {a b : Type} [Py a] [Py b] : Py (Un a b) := ⟨fun
  | .l x => Py.toD x
  | .r y => Py.toD y⟩
section
variable {a b : Type} [Py a] [Py b] {F : Hp} {v : V}
theorem R.un_l {x : a} (h : R F v x) : R F v (Un.l x : Un a b) := h
theorem R.un_r {y : b} (h : R F v y) : R F v (Un.r y : Un a b) := h
end
instance {a b : Type} [Py a] [Py b] [DecidableEq a] [DecidableEq b] [DatumX (a × b)] : DatumX (Un (a × b) Str) := ⟨fun
  | .l x => DatumX.plain x
  | .r y => by show PyData.plain (.str y) = true; simp only [PyData.plain], fun
  | .l x, .l y => by
    show PyData.eqv (Py.toD x) (Py.toD y) = _
    rw [DatumX.eqv x y]
    exact decide_eq_decide.mpr (by rw [Un.l.injEq])
  | .l x, .r y => by
    show PyData.eqv (.tuple [_, _]) (.str y) = _
    simp [PyData.eqv]
  | .r x, .l y => by
    show PyData.eqv (.str x) (.tuple [_, _]) = _
    simp [PyData.eqv]
  | .r x, .r y => by
    show PyData.eqv (.str x) (.str y) = _
    simp only [PyData.eqv]
    rw [PySem.W.beq_decide]
    exact decide_eq_decide.mpr (by rw [Un.r.injEq])⟩
/-! ### is None -/
class NN (a : Type) [Py a] : Prop where
  nn : ∀ x : a, Py.toD x ≠ .none
instance : NN Int := ⟨fun _ h => nomatch h⟩
instance : NN Bool := ⟨fun _ h => nomatch h⟩
instance : NN Str := ⟨fun _ h => nomatch h⟩
instance : NN Sm := ⟨fun x h => by cases x <;> exact nomatch (show PyData.tuple _ = .none from h)⟩
section
variable {a b c d : Type} [Py a] [Py b] [Py c] [Py d]
instance : NN (List a) := ⟨fun _ h => nomatch (show PyData.list _ = .none from h)⟩
instance : NN (a × b) := ⟨fun _ h => nomatch (show PyData.tuple _ = .none from h)⟩
instance : NN (T3 a b c) := ⟨fun _ h => nomatch (show PyData.tuple _ = .none from h)⟩
instance : NN (T4 a b c d) := ⟨fun _ h => nomatch (show PyData.tuple _ = .none from h)⟩
instance : NN (Tp a) := ⟨fun _ h => nomatch (show PyData.tuple _ = .none from h)⟩
theorem rep_non {F : Hp} {x : PyData} (h : Rep F .non x) : x = .none := by cases h; rfl
theorem isN_opt [NN a] {F : Hp} {v : V} {o : Option a} (h : R F v o) : decide (v = .non) = o.isNone := by
  cases o with
  | none =>
    rw [R.non_ h]
    rfl
  | some x =>
    have h : Rep F v (Py.toD x) := h
    refine decide_eq_false fun e => ?_
    rw [e] at h
    exact NN.nn x (rep_non h)
end
theorem dNon_t : decide (V.non = V.non) = true := decide_eq_true rfl
theorem dNon_f {p : Addr} : decide (V.ref p = V.non) = false := decide_eq_false fun h => nomatch h
/-! ### lists: insert, extend, all -/
def insL {a : Type} (xs : List a) (i : Int) (y : a) : List a := xs.take i.toNat ++ [y] ++ xs.drop i.toNat
theorem RL.ins {a : Type} [Py a] {F : Hp} {vs : List V} {xs : List a} (h : RL F vs xs) (i : Int) {v : V} {y : a} (hy : R F v y) : RL F (insL vs i v) (insL xs i y) := RL.app (RL.app (h.take _) (RL.cons hy RL.nil)) (h.drop _)
def CIns (n : Nat) (i : Int) : Prop := n < 16777216 ∧ 0 ≤ i ∧ i < 2 ^ 63
instance (n : Nat) (i : Int) : Decidable (CIns n i) := by unfold CIns; infer_instance
instance (i j : Int) : Decidable (CPow i j) := by unfold CPow; infer_instance
section
variable {X : Cx} {K : PySem.W.Frag}
theorem cr_allK (hc : X.calm = true) (h : X.K = K) : CallR X (.builtin "all") (rAll K) := by rw [← h]; exact cr_all hc
theorem cr_anyK (hc : X.calm = true) (h : X.K = K) : CallR X (.builtin "any") (rAny K) := by rw [← h]; exact cr_any hc
/-- len of what is read -/
def rLenS (K : PySem.W.Frag) : List V → Hp → VK → Prop := fun vs H Q => ∃ (a : Addr) (xs : List V), vs = [V.ref a] ∧ SqL K H a xs ∧ Q (.int xs.length) H
theorem call_lenS (h : X.K = K) : CallR X (.builtin "len") (rLenS K) := fun pins s σ H xs us Q I r hq => by
  obtain ⟨a, ys, rfl, hs, q⟩ := hq
  subst h
  exact call_len pins s σ H _ us Q I r ⟨.ref a, ys.length, rfl, .inl ⟨ys, hs, rfl⟩, q⟩
end
/-! ### try whose suite binds a name: what follows is handed on as the suite's result -/
def tryF {a : Type} (L : List String) (m : M (Unit → M a)) (k1 : String → M a) : M a := match m with
  | .ok f => f ()
  | .error .bad => bad
  | .error (.exc n) => if n ∈ L then k1 n else bad
theorem wp_tryF {b : Type} {L : List String} {m : M (Unit → M b)} {k1 : String → M b} {Q : b → Prop} {E : String → Prop} (h : wp (tryF L m k1) Q E) : wp m (fun f => wp (f ()) Q E) fun n => n ∈ L ∧ wp (k1 n) Q E := by
  cases m with
  | ok x => exact h
  | error e =>
    cases e with
    | bad => exact h
    | exc n =>
      by_cases z : n ∈ L
      · have e : tryF L (.error (.exc n)) k1 = k1 n := if_pos z
        rw [e] at h
        exact ⟨z, h⟩
      · have e : tryF L (.error (.exc n)) k1 = bad := if_neg z
        rw [e] at h
        exact h.elim
end PG

set_option Elab.async false
set_option linter.all false
set_option maxRecDepth 100000
set_option maxHeartbeats 4000000
/-! Plain mathematics over the monad M: no program in sight. -/
namespace PG
open PySem L2
open PySem.W (T3 T4 Datum DatumOrd)
section
variable {a b s i : Type}
theorem ok_b (x : a) (k : a → M b) : (Except.ok x >>= k) = k x := rfl
theorem okP_b (x : a) (k : a → M b) : ((Except.ok x : M a) >>= k) = k x := rfl
theorem ret_b (x : a) (k : a → M b) : (ret x >>= k) = k x := rfl
theorem chk_ok {c : Prop} [Decidable c] (h : c) : chk c = .ok () := by unfold chk; rw [if_pos h]
theorem chk_b {c : Prop} [Decidable c] (h : c) (k : Unit → M b) : (chk c >>= k) = k () := by rw [chk_ok h]; rfl
theorem opt_b {o : Option a} {x : a} (h : o = some x) (k : a → M b) : (opt o >>= k) = k x := by rw [h]; rfl
theorem bind_ok {m : M a} {x : a} (h : m = .ok x) (k : a → M b) : (m >>= k) = k x := by rw [h]; rfl
theorem appL_ok {xs : List a} {y : a} (h : xs.length < 16777216) : appL xs y = .ok (xs ++ [y]) := by unfold appL; rw [if_pos h]
theorem ixN_nat {n : Nat} {j : Int} (h0 : 0 ≤ j) (h : j < n) : ixN n j = some j.toNat := by unfold ixN; rw [if_pos h0, if_pos h]
theorem atI_of {xs : List a} {j : Int} {x : a} (h0 : 0 ≤ j) (h : xs[j.toNat]? = some x) : L2.atI xs j = some x := by
  have hl := (List.getElem?_eq_some_iff.mp h).1
  unfold L2.atI
  rw [ixN_nat h0 (by omega)]
  exact h
theorem atI_some {xs : List a} {j : Int} (h0 : 0 ≤ j) (h : j < xs.length) : ∃ x, L2.atI xs j = some x ∧ xs[j.toNat]? = some x := by
  have hl : j.toNat < xs.length := by omega
  exact ⟨xs[j.toNat], atI_of h0 (List.getElem?_eq_getElem hl), List.getElem?_eq_getElem hl⟩
theorem setI_ok {xs : List a} {j : Int} {y : a} (h0 : 0 ≤ j) (h : j < xs.length) : setI xs j y = .ok (xs.set j.toNat y) := by unfold setI; rw [ixN_nat h0 h]
theorem popI_ok {xs : List a} {j : Int} {y : a} (h0 : 0 ≤ j) (h : xs[j.toNat]? = some y) (hl : xs.length < 16777216) : popI xs j = .ok (y, xs.eraseIdx j.toNat) := by
  have h1 := (List.getElem?_eq_some_iff.mp h).1
  unfold popI
  rw [if_pos hl, ixN_nat h0 (by omega)]
  show (match xs[j.toNat]? with
    | some y => (Except.ok (y, xs.eraseIdx j.toNat) : M _)
    | none => bad) = _
  rw [h]
/-- loops by an invariant over the items gone through -/
theorem loopN_inv {f : i → s → M s} (P : List i → s → Prop) : ∀ {xs pre : List i} {x : s}, P pre x → (∀ pre y ys x, xs ++ [] = xs → P pre x → (∃ q, q ++ y :: ys = pre ++ y :: ys) → ∃ x', f y x = .ok x' ∧ P (pre ++ [y]) x') → ∃ x', loopN f xs x = .ok x' ∧ P (pre ++ xs) x' := by
  intro xs
  induction xs with
  | nil => intro pre x h _; exact ⟨x, rfl, by rw [List.append_nil]; exact h⟩
  | cons y ys ih =>
    intro pre x h hs
    obtain ⟨x1, e1, h1⟩ := hs pre y ys x (List.append_nil _) h ⟨pre, rfl⟩
    obtain ⟨x2, e2, h2⟩ := ih (pre := pre ++ [y]) h1 fun pre y ys x _ hp hq => hs pre y ys x (List.append_nil _) hp hq
    refine ⟨x2, ?_, by rw [List.append_assoc] at h2; exact h2⟩
    show (f y x >>= fun x' => loopN f ys x') = _
    rw [e1]
    exact e2
/-- .. with what is known of the items -/
theorem loopN_run {f : i → s → M s} {all : List i} (P : List i → s → Prop) {x : s} (h : P [] x) (hs : ∀ pre y post x, all = pre ++ y :: post → P pre x → ∃ x', f y x = .ok x' ∧ P (pre ++ [y]) x') : ∃ x', loopN f all x = .ok x' ∧ P all x' := by
  have go : ∀ (xs pre : List i) (x : s), all = pre ++ xs → P pre x → ∃ x', loopN f xs x = .ok x' ∧ P (pre ++ xs) x' := by
    intro xs
    induction xs with
    | nil => intro pre x _ h; exact ⟨x, rfl, by rw [List.append_nil]; exact h⟩
    | cons y ys ih =>
      intro pre x e h
      obtain ⟨x1, e1, h1⟩ := hs pre y ys x e h
      obtain ⟨x2, e2, h2⟩ := ih (pre ++ [y]) x1 (by rw [List.append_assoc]; exact e) h1
      refine ⟨x2, ?_, by rw [List.append_assoc] at h2; exact h2⟩
      show (f y x >>= fun x' => loopN f ys x') = _
      rw [e1]
      exact e2
  exact go all [] x rfl h
/-- a loop that goes on at each item -/
theorem loopM_run {r : Type} {f : i → s → M (Fl s r)} {all : List i} (P : List i → s → Prop) {x : s} (h : P [] x) (hs : ∀ pre y post x, all = pre ++ y :: post → P pre x → ∃ x', f y x = .ok (.nx x') ∧ P (pre ++ [y]) x') : ∃ x', loopM f all x = .ok (.nx x') ∧ P all x' := by
  have go : ∀ (xs pre : List i) (x : s), all = pre ++ xs → P pre x → ∃ x', loopM f xs x = .ok (.nx x') ∧ P (pre ++ xs) x' := by
    intro xs
    induction xs with
    | nil => intro pre x _ h; exact ⟨x, rfl, by rw [List.append_nil]; exact h⟩
    | cons y ys ih =>
      intro pre x e h
      obtain ⟨x1, e1, h1⟩ := hs pre y ys x e h
      obtain ⟨x2, e2, h2⟩ := ih (pre ++ [y]) x1 (by rw [List.append_assoc]; exact e) h1
      refine ⟨x2, ?_, by rw [List.append_assoc] at h2; exact h2⟩
      show (f y x >>= fun q => match q with
        | .nx x' => loopM f ys x'
        | .rt z => .ok (.rt z)) = _
      rw [e1]
      exact e2
  exact go all [] x rfl h
/-- .. that has no state -/
theorem loopM_all {r : Type} {f : i → Unit → M (Fl Unit r)} {all : List i} (hs : ∀ y ∈ all, f y () = .ok (.nx ())) : loopM f all () = .ok (.nx ()) := by
  obtain ⟨x, e, _⟩ := loopM_run (f := f) (all := all) (fun _ _ => True) (x := ()) trivial fun pre y post x e _ => ⟨(), by cases x; exact hs y (by rw [e]; simp), trivial⟩
  exact e
theorem compX_run {c : Type} {f : i → s → M (Option c × s)} {all : List i} (P : List i → List c → s → Prop) {x : s} (h : P [] [] x)
    (hs : ∀ pre y post acc x, all = pre ++ y :: post → P pre acc x → ∃ o x', f y x = .ok (o, x') ∧ P (pre ++ [y]) (match o with
      | some z => acc ++ [z]
      | none => acc) x') : ∃ acc x', compX f all [] x = .ok (acc, x') ∧ P all acc x' := by
  have go : ∀ (xs pre : List i) (acc : List c) (x : s), all = pre ++ xs → P pre acc x → ∃ acc' x', compX f xs acc x = .ok (acc', x') ∧ P (pre ++ xs) acc' x' := by
    intro xs
    induction xs with
    | nil => intro pre acc x _ h; exact ⟨acc, x, rfl, by rw [List.append_nil]; exact h⟩
    | cons y ys ih =>
      intro pre acc x e h
      obtain ⟨o, x1, e1, h1⟩ := hs pre y ys acc x e h
      obtain ⟨acc2, x2, e2, h2⟩ := ih (pre ++ [y]) _ x1 (by rw [List.append_assoc]; exact e) h1
      refine ⟨acc2, x2, ?_, by rw [List.append_assoc] at h2; exact h2⟩
      show (nox (f y x) >>= fun p => compX f ys (match p.1 with
        | some z => acc ++ [z]
        | none => acc) p.2) = _
      rw [e1]
      exact e2
  exact go all [] [] x rfl h
theorem compS_run {c : Type} {f : i → s → M (Option c × s)} {all : List i} (hl : all.length < 16777216) (P : List i → List c → s → Prop) {x : s} (h : P [] [] x)
    (hs : ∀ pre y post acc x, all = pre ++ y :: post → P pre acc x → ∃ o x', f y x = .ok (o, x') ∧ P (pre ++ [y]) (match o with
      | some z => acc ++ [z]
      | none => acc) x') : ∃ acc x', compS f all x = .ok (acc, x') ∧ P all acc x' := by
  unfold compS
  rw [chk_b hl]
  exact compX_run P h hs
/-- a plain map with a test -/
theorem compS_pure {c : Type} {f : i → Unit → M (Option c × Unit)} {all : List i} (g : i → Option c) (hl : all.length < 16777216) (hs : ∀ y ∈ all, f y () = .ok (g y, ())) : compS f all () = .ok (all.filterMap g, ()) := by
  obtain ⟨acc, x, e, h⟩ := compS_run (f := f) (all := all) hl (fun pre acc _ => acc = pre.filterMap g) (x := ()) rfl fun pre y post acc x e h => by
    refine ⟨g y, (), by cases x; exact hs y (by rw [e]; simp), ?_⟩
    rw [h, List.filterMap_append]
    cases e2 : g y with
    | none => simp [e2]
    | some z => simp [e2]
  rw [e, h]
end

/-! ### sorted lists -/
section
variable {a : Type}
/-- two sorted lists of the same things are one -/
theorem perm_sorted_eq {le : a → a → Bool} (anti : ∀ x y, le x y = true → le y x = true → x = y) : ∀ {xs ys : List a}, xs.Perm ys → xs.Pairwise (fun x y => le x y = true) → ys.Pairwise (fun x y => le x y = true) → xs = ys := by
  intro xs
  induction xs with
  | nil => intro ys h _ _; exact (List.nil_perm.mp h).symm
  | cons x xs ih =>
    intro ys h hx hy
    cases ys with
    | nil => exact absurd h.length_eq (by simp)
    | cons y ys =>
      rw [List.pairwise_cons] at hx hy
      have e : x = y := by
        have m1 : x ∈ y :: ys := h.mem_iff.mp List.mem_cons_self
        have m2 : y ∈ x :: xs := h.mem_iff.mpr List.mem_cons_self
        rcases List.mem_cons.mp m1 with r | r
        · exact r
        · rcases List.mem_cons.mp m2 with q | q
          · exact q.symm
          · exact anti x y (hx.1 y q) (hy.1 x r)
      subst e
      rw [ih (List.Perm.cons_inv h) hx.2 hy.2]
class LeOk (a : Type) [DecidableEq a] [DatumOrd a] : Prop where
  tr : ∀ x y z : a, leT x y = true → leT y z = true → leT x z = true
  tot : ∀ x y : a, (leT x y || leT y x) = true
  anti : ∀ x y : a, leT x y = true → leT y x = true → x = y
theorem leT_int (x y : Int) : leT x y = decide (x ≤ y) := by
  show (!decide (y < x)) = decide (x ≤ y)
  by_cases h : y < x
  · have : ¬ x ≤ y := by omega
    simp [h, this]
  · have : x ≤ y := by omega
    simp [h, this]
instance : LeOk Int where
  tr x y z h1 h2 := by
    rw [leT_int, decide_eq_true_eq] at h1 h2 ⊢
    omega
  tot x y := by
    rw [leT_int, leT_int, Bool.or_eq_true, decide_eq_true_eq, decide_eq_true_eq]
    omega
  anti x y h1 h2 := by
    rw [leT_int, decide_eq_true_eq] at h1 h2
    omega
theorem leT_p (x y : Int × Int) : leT x y = decide (x.1 < y.1 ∨ (x.1 = y.1 ∧ x.2 ≤ y.2)) := by
  show (!(if y.1 = x.1 then decide (y.2 < x.2) else decide (y.1 < x.1))) = _
  by_cases h : y.1 = x.1
  · rw [if_pos h]
    by_cases h2 : y.2 < x.2
    · have : ¬ (x.1 < y.1 ∨ (x.1 = y.1 ∧ x.2 ≤ y.2)) := by omega
      simp [h2, this]
    · have : (x.1 < y.1 ∨ (x.1 = y.1 ∧ x.2 ≤ y.2)) := by omega
      simp [h2, this]
  · rw [if_neg h]
    by_cases h2 : y.1 < x.1
    · have : ¬ (x.1 < y.1 ∨ (x.1 = y.1 ∧ x.2 ≤ y.2)) := by omega
      simp [h2, this]
    · have : (x.1 < y.1 ∨ (x.1 = y.1 ∧ x.2 ≤ y.2)) := by omega
      simp [h2, this]
instance : LeOk (Int × Int) where
  tr x y z h1 h2 := by
    rw [leT_p, decide_eq_true_eq] at h1 h2 ⊢
    omega
  tot x y := by
    rw [leT_p, leT_p, Bool.or_eq_true, decide_eq_true_eq, decide_eq_true_eq]
    omega
  anti x y h1 h2 := by
    rw [leT_p, decide_eq_true_eq] at h1 h2
    exact Prod.ext (by omega) (by omega)
theorem leT_3 (x y : T3 Int Int Int) : leT x y = decide (x.a < y.a ∨ (x.a = y.a ∧ (x.b < y.b ∨ (x.b = y.b ∧ x.c ≤ y.c)))) := by
  show (!DatumOrd.lt y x) = _
  have e : DatumOrd.lt y x = decide (y.a < x.a ∨ (y.a = x.a ∧ (y.b < x.b ∨ (y.b = x.b ∧ y.c < x.c)))) := by
    rw [Bool.eq_iff_iff, decide_eq_true_eq]
    show (if y.a = x.a then (if y.b = x.b then decide (y.c < x.c) else decide (y.b < x.b)) else decide (y.a < x.a)) = true ↔ _
    by_cases h : y.a = x.a
    · rw [if_pos h]
      by_cases h2 : y.b = x.b
      · rw [if_pos h2, decide_eq_true_eq]; omega
      · rw [if_neg h2, decide_eq_true_eq]; omega
    · rw [if_neg h, decide_eq_true_eq]; omega
  rw [e, Bool.eq_iff_iff, Bool.not_eq_true', decide_eq_false_iff_not, decide_eq_true_eq]
  omega
instance : LeOk (T3 Int Int Int) where
  tr x y z h1 h2 := by
    rw [leT_3, decide_eq_true_eq] at h1 h2 ⊢
    omega
  tot x y := by
    rw [leT_3, leT_3, Bool.or_eq_true, decide_eq_true_eq, decide_eq_true_eq]
    omega
  anti x y h1 h2 := by
    rw [leT_3, decide_eq_true_eq] at h1 h2
    exact PySem.W.T3.same (by omega) (by omega) (by omega)
variable [DecidableEq a] [DatumOrd a] [LeOk a]
theorem sortT_perm (xs : List a) : (sortT xs).Perm xs := List.mergeSort_perm xs _
theorem sortT_sorted (xs : List a) : (sortT xs).Pairwise (fun x y => leT x y = true) := List.pairwise_mergeSort (fun x y z => LeOk.tr x y z) (fun x y => LeOk.tot x y) xs
theorem sortT_eq {xs ys : List a} (h : xs.Perm ys) : sortT xs = sortT ys :=
  perm_sorted_eq LeOk.anti ((sortT_perm xs).trans (h.trans (sortT_perm ys).symm)) (sortT_sorted xs) (sortT_sorted ys)
theorem sortT_id {xs : List a} (h : xs.Pairwise (fun x y => leT x y = true)) : sortT xs = xs := perm_sorted_eq LeOk.anti (sortT_perm xs) (sortT_sorted xs) h
theorem sortT_idem (xs : List a) : sortT (sortT xs) = sortT xs := sortT_id (sortT_sorted xs)
theorem sortT_len (xs : List a) : (sortT xs).length = xs.length := (sortT_perm xs).length_eq
theorem sortT_mem {xs : List a} {x : a} : x ∈ sortT xs ↔ x ∈ xs := (sortT_perm xs).mem_iff
end
/-! ### numbers -/
theorem cdivW {i j : Int} (h : 0 < j) (h2 : j ≤ 10 ^ 40) : CDivW i j := by
  have h3 : j.natAbs ≤ 10 ^ 40 := by omega
  exact wide_div (b := 200) h (Nat.lt_of_le_of_lt h3 (by decide)) (by decide) (by decide)
theorem cmulW {i j : Int} (h1 : i.natAbs < 2 ^ 100000) (h2 : j.natAbs < 2 ^ 100000) : CMulW i j := wide_mul h1 h2 (by decide) (by decide) (by decide)

theorem erase_perm {a : Type} : ∀ {l : List a} {j : Nat} (h : j < l.length), (l[j] :: l.eraseIdx j).Perm l
  | x :: l, 0, _ => List.Perm.refl _
  | x :: l, j + 1, h => by
    have h' : j < l.length := by simpa using h
    show (l[j] :: x :: l.eraseIdx j).Perm (x :: l)
    exact (List.Perm.swap _ _ _).trans (List.Perm.cons _ (erase_perm h'))

/-! ### trees -/
abbrev Tie := T3 Int Int Int
abbrev Tr := List Int × List Tie
def tieOf (p q c : Int) : Tie := if p ≤ q then ⟨p, q, c⟩ else ⟨q, p, c⟩
/-- place by place, each new one tied to one that is there -/
inductive Grown : List Int → List Tie → Prop
  | one (p : Int) : Grown [p] []
  | more {ps : List Int} {ts : List Tie} (q p c : Int) : Grown ps ts → q ∈ ps → p ∉ ps → Grown (ps ++ [p]) (ts ++ [tieOf p q c])
theorem tieOf_lt {p q c : Int} (h : p ≠ q) : (tieOf p q c).a < (tieOf p q c).b ∧ ((tieOf p q c).a = p ∧ (tieOf p q c).b = q ∨ (tieOf p q c).a = q ∧ (tieOf p q c).b = p) ∧ (tieOf p q c).c = c := by
  unfold tieOf
  by_cases h1 : p ≤ q
  · rw [if_pos h1]; exact ⟨by show p < q; omega, .inl ⟨rfl, rfl⟩, rfl⟩
  · rw [if_neg h1]; exact ⟨by show q < p; omega, .inr ⟨rfl, rfl⟩, rfl⟩
theorem Grown.in {ps : List Int} {ts : List Tie} (g : Grown ps ts) : ∀ t ∈ ts, t.a ∈ ps ∧ t.b ∈ ps ∧ t.a < t.b := by
  induction g with
  | one p => intro t h; cases h
  | @more ps ts q p c g hq hp ih =>
    intro t h
    rcases List.mem_append.mp h with h | h
    · obtain ⟨h1, h2, h3⟩ := ih t h
      exact ⟨List.mem_append_left _ h1, List.mem_append_left _ h2, h3⟩
    · have e := List.mem_singleton.mp h
      subst e
      have hpq : p ≠ q := fun e => hp (e ▸ hq)
      obtain ⟨l, hab, _⟩ := tieOf_lt (c := c) hpq
      have mp : p ∈ ps ++ [p] := by simp
      have mq : q ∈ ps ++ [p] := List.mem_append_left _ hq
      rcases hab with ⟨h1, h2⟩ | ⟨h1, h2⟩
      · exact ⟨by rw [h1]; exact mp, by rw [h2]; exact mq, l⟩
      · exact ⟨by rw [h1]; exact mq, by rw [h2]; exact mp, l⟩
theorem Grown.len {ps : List Int} {ts : List Tie} (g : Grown ps ts) : ps.length = ts.length + 1 := by
  induction g with
  | one p => rfl
  | more q p c g hq hp ih => rw [List.length_append, List.length_append, ih]; rfl
theorem Grown.nd {ps : List Int} {ts : List Tie} (g : Grown ps ts) : ps.Nodup := by
  induction g with
  | one p => simp
  | more q p c g hq hp ih => exact List.nodup_append.mpr ⟨ih, by simp, fun x hx y hy e => by rw [List.mem_singleton.mp hy] at e; exact hp (e ▸ hx)⟩
/-- a tree: its worths, its ties sorted -/
structure TreeOk (t : Tr) : Prop where
  ex : ∃ ps ts, Grown ps ts ∧ ps.Perm (rangeL 0 (t.1.length : Int)) ∧ t.2 = sortT ts
theorem TreeOk.pos {t : Tr} (h : TreeOk t) : 1 ≤ t.1.length := by
  obtain ⟨ps, ts, g, p, e⟩ := h.ex
  have h1 := p.length_eq
  rw [rangeL_length] at h1
  have := g.len
  omega
theorem TreeOk.len {t : Tr} (h : TreeOk t) : t.1.length = t.2.length + 1 := by
  obtain ⟨ps, ts, g, p, e⟩ := h.ex
  have h1 := p.length_eq
  rw [rangeL_length] at h1
  have := g.len
  rw [e, sortT_len]
  omega
theorem rangeL_mem' {lo hi x : Int} : x ∈ rangeL lo hi ↔ lo ≤ x ∧ x < hi := by
  unfold rangeL
  rw [List.mem_map]
  constructor
  · rintro ⟨j, hj, rfl⟩
    have := List.mem_range.mp hj
    omega
  · rintro ⟨h1, h2⟩
    exact ⟨(x - lo).toNat, List.mem_range.mpr (by omega), by omega⟩
theorem TreeOk.tie {t : Tr} (h : TreeOk t) : ∀ x ∈ t.2, 0 ≤ x.a ∧ x.a < x.b ∧ x.b < (t.1.length : Int) := by
  obtain ⟨ps, ts, g, p, e⟩ := h.ex
  intro x hx
  rw [e, sortT_mem] at hx
  obtain ⟨h1, h2, h3⟩ := g.in x hx
  have a1 := rangeL_mem'.mp (p.mem_iff.mp h1)
  have a2 := rangeL_mem'.mp (p.mem_iff.mp h2)
  exact ⟨a1.1, h3, a2.2⟩
theorem TreeOk.sorted {t : Tr} (h : TreeOk t) : sortT t.2 = t.2 := by
  obtain ⟨ps, ts, g, p, e⟩ := h.ex
  rw [e, sortT_idem]
theorem sort2 (x y : Int) : sortT [x, y] = if x ≤ y then [x, y] else [y, x] := by
  by_cases h : x ≤ y
  · rw [if_pos h]
    exact sortT_id (by simp [leT_int, h])
  · rw [if_neg h]
    have e : sortT [x, y] = sortT [y, x] := sortT_eq (List.Perm.swap _ _ _)
    rw [e]
    exact sortT_id (by simp [leT_int]; omega)

theorem fm_congr {a b : Type} {f g : a → Option b} : ∀ {l : List a}, (∀ x ∈ l, f x = g x) → l.filterMap f = l.filterMap g
  | [], _ => rfl
  | x :: l, h => by
    have h1 := h x List.mem_cons_self
    have h2 := fm_congr (l := l) fun y hy => h y (List.mem_cons_of_mem _ hy)
    rw [List.filterMap_cons, List.filterMap_cons, h1, h2]
end PG

set_option Elab.async false
set_option linter.all false
set_option maxRecDepth 100000
namespace G
open PySem PySem.Spec PyProof.Rows L2 PG
open PySem.W (T3 T4 Datum DatumOrd)
def top (i : Nat) : Stmt := PySem.Challenge.pw_everyseat_k02_no_tree.main.body.getD i (.Pass ⟨0, 0, 0, 0⟩)
structure Nb (mg : Str → Option Value) : Prop where
  b_ValueError : mg "ValueError" = none
  b_int : mg "int" = none
  b_isinstance : mg "isinstance" = none
  b_len : mg "len" = none
  b_list : mg "list" = none
  b_max : mg "max" = none
  b_range : mg "range" = none
  b_sorted : mg "sorted" = none
structure ExA (K : PySem.W.Frag) (mg : Str → Option Value) (C_SeatError C_NoTree C_NoForm C_NoLength C_NoName C_NoOrder C_NoPaper C_NoPlace C_NoRule C_NoText C_NoTie : Addr) : Prop where
  g_SeatError : mg "SeatError" = some (.ref C_SeatError)
  d_SeatError : PySem.W.hasDictIn K C_SeatError = true
  t_SeatError : PySem.W.typeIn K (.ref C_SeatError) = some (.type "type")
  n_SeatError : PySem.W.subIn K (.type "NoneType") (.ref C_SeatError) = some false
  b_SeatError : PySem.W.subIn K (.ref C_SeatError) (.type "BaseException") = some true
  s_SeatError_SeatError : PySem.W.subIn K (.ref C_SeatError) (.ref C_SeatError) = some true
  g_NoTree : mg "NoTree" = some (.ref C_NoTree)
  d_NoTree : PySem.W.hasDictIn K C_NoTree = true
  t_NoTree : PySem.W.typeIn K (.ref C_NoTree) = some (.type "type")
  n_NoTree : PySem.W.subIn K (.type "NoneType") (.ref C_NoTree) = some false
  b_NoTree : PySem.W.subIn K (.ref C_NoTree) (.type "BaseException") = some true
  s_NoTree_NoTree : PySem.W.subIn K (.ref C_NoTree) (.ref C_NoTree) = some true
  g_NoForm : mg "NoForm" = some (.ref C_NoForm)
  d_NoForm : PySem.W.hasDictIn K C_NoForm = true
  t_NoForm : PySem.W.typeIn K (.ref C_NoForm) = some (.type "type")
  n_NoForm : PySem.W.subIn K (.type "NoneType") (.ref C_NoForm) = some false
  b_NoForm : PySem.W.subIn K (.ref C_NoForm) (.type "BaseException") = some true
  s_NoForm_NoForm : PySem.W.subIn K (.ref C_NoForm) (.ref C_NoForm) = some true
  g_NoLength : mg "NoLength" = some (.ref C_NoLength)
  d_NoLength : PySem.W.hasDictIn K C_NoLength = true
  t_NoLength : PySem.W.typeIn K (.ref C_NoLength) = some (.type "type")
  n_NoLength : PySem.W.subIn K (.type "NoneType") (.ref C_NoLength) = some false
  b_NoLength : PySem.W.subIn K (.ref C_NoLength) (.type "BaseException") = some true
  s_NoLength_NoLength : PySem.W.subIn K (.ref C_NoLength) (.ref C_NoLength) = some true
  g_NoName : mg "NoName" = some (.ref C_NoName)
  d_NoName : PySem.W.hasDictIn K C_NoName = true
  t_NoName : PySem.W.typeIn K (.ref C_NoName) = some (.type "type")
  n_NoName : PySem.W.subIn K (.type "NoneType") (.ref C_NoName) = some false
  b_NoName : PySem.W.subIn K (.ref C_NoName) (.type "BaseException") = some true
  s_NoName_NoName : PySem.W.subIn K (.ref C_NoName) (.ref C_NoName) = some true
  g_NoOrder : mg "NoOrder" = some (.ref C_NoOrder)
  d_NoOrder : PySem.W.hasDictIn K C_NoOrder = true
  t_NoOrder : PySem.W.typeIn K (.ref C_NoOrder) = some (.type "type")
  n_NoOrder : PySem.W.subIn K (.type "NoneType") (.ref C_NoOrder) = some false
  b_NoOrder : PySem.W.subIn K (.ref C_NoOrder) (.type "BaseException") = some true
  s_NoOrder_NoOrder : PySem.W.subIn K (.ref C_NoOrder) (.ref C_NoOrder) = some true
  g_NoPaper : mg "NoPaper" = some (.ref C_NoPaper)
  d_NoPaper : PySem.W.hasDictIn K C_NoPaper = true
  t_NoPaper : PySem.W.typeIn K (.ref C_NoPaper) = some (.type "type")
  n_NoPaper : PySem.W.subIn K (.type "NoneType") (.ref C_NoPaper) = some false
  b_NoPaper : PySem.W.subIn K (.ref C_NoPaper) (.type "BaseException") = some true
  s_NoPaper_NoPaper : PySem.W.subIn K (.ref C_NoPaper) (.ref C_NoPaper) = some true
  g_NoPlace : mg "NoPlace" = some (.ref C_NoPlace)
  d_NoPlace : PySem.W.hasDictIn K C_NoPlace = true
  t_NoPlace : PySem.W.typeIn K (.ref C_NoPlace) = some (.type "type")
  n_NoPlace : PySem.W.subIn K (.type "NoneType") (.ref C_NoPlace) = some false
  b_NoPlace : PySem.W.subIn K (.ref C_NoPlace) (.type "BaseException") = some true
  s_NoPlace_NoPlace : PySem.W.subIn K (.ref C_NoPlace) (.ref C_NoPlace) = some true
  g_NoRule : mg "NoRule" = some (.ref C_NoRule)
  d_NoRule : PySem.W.hasDictIn K C_NoRule = true
  t_NoRule : PySem.W.typeIn K (.ref C_NoRule) = some (.type "type")
  n_NoRule : PySem.W.subIn K (.type "NoneType") (.ref C_NoRule) = some false
  b_NoRule : PySem.W.subIn K (.ref C_NoRule) (.type "BaseException") = some true
  s_NoRule_NoRule : PySem.W.subIn K (.ref C_NoRule) (.ref C_NoRule) = some true
  g_NoText : mg "NoText" = some (.ref C_NoText)
  d_NoText : PySem.W.hasDictIn K C_NoText = true
  t_NoText : PySem.W.typeIn K (.ref C_NoText) = some (.type "type")
  n_NoText : PySem.W.subIn K (.type "NoneType") (.ref C_NoText) = some false
  b_NoText : PySem.W.subIn K (.ref C_NoText) (.type "BaseException") = some true
  s_NoText_NoText : PySem.W.subIn K (.ref C_NoText) (.ref C_NoText) = some true
  g_NoTie : mg "NoTie" = some (.ref C_NoTie)
  d_NoTie : PySem.W.hasDictIn K C_NoTie = true
  t_NoTie : PySem.W.typeIn K (.ref C_NoTie) = some (.type "type")
  n_NoTie : PySem.W.subIn K (.type "NoneType") (.ref C_NoTie) = some false
  b_NoTie : PySem.W.subIn K (.ref C_NoTie) (.type "BaseException") = some true
  s_NoTie_NoTie : PySem.W.subIn K (.ref C_NoTie) (.ref C_NoTie) = some true
  e_NoTree : ExcC K C_NoTree
  v_NoTree : PySem.W.subIn K (.ref C_NoTree) (.type "ValueError") = some true
  s_NoTree_SeatError : PySem.W.subIn K (.ref C_NoTree) (.ref C_SeatError) = some true
  s_NoTree_NoForm : PySem.W.subIn K (.ref C_NoTree) (.ref C_NoForm) = some false
  s_NoTree_NoLength : PySem.W.subIn K (.ref C_NoTree) (.ref C_NoLength) = some false
  s_NoTree_NoName : PySem.W.subIn K (.ref C_NoTree) (.ref C_NoName) = some false
  s_NoTree_NoOrder : PySem.W.subIn K (.ref C_NoTree) (.ref C_NoOrder) = some false
  s_NoTree_NoPaper : PySem.W.subIn K (.ref C_NoTree) (.ref C_NoPaper) = some false
  s_NoTree_NoPlace : PySem.W.subIn K (.ref C_NoTree) (.ref C_NoPlace) = some false
  s_NoTree_NoRule : PySem.W.subIn K (.ref C_NoTree) (.ref C_NoRule) = some false
  s_NoTree_NoText : PySem.W.subIn K (.ref C_NoTree) (.ref C_NoText) = some false
  s_NoTree_NoTie : PySem.W.subIn K (.ref C_NoTree) (.ref C_NoTie) = some false
structure ExAll (K : PySem.W.Frag) (mg : Str → Option Value) : Prop where
  ex : ∃ C_SeatError C_NoTree C_NoForm C_NoLength C_NoName C_NoOrder C_NoPaper C_NoPlace C_NoRule C_NoText C_NoTie : Addr, ExA K mg C_SeatError C_NoTree C_NoForm C_NoLength C_NoName C_NoOrder C_NoPaper C_NoPlace C_NoRule C_NoText C_NoTie
section
variable {P : Program} {w : World} {K : PySem.W.Frag} {mg : Str → Option Value} {base : Heap}
abbrev s_tied_places : Stmt := top 13
theorem sc_tied_places : FnScope ["many", "ties", "found", "a", "b", "length", "near", "place"] ["many", "ties"] (defScope s_tied_places) := ⟨rfl, rfl, rfl, by decide +kernel, rfl, by decide +kernel, by decide +kernel⟩
def addAt (fs : List (List Int)) (a b : Int) : M (List (List Int)) := match ixN fs.length a with
  | some j => (match fs[j]? with
    | some x => appL x b >>= fun y => .ok (fs.set j y)
    | none => bad)
  | none => bad
def m_tied_places (x_many : Int) (x_ties : List (T3 Int Int Int)) : M (List (List Int)) :=
  chk (okR x_many) >>= fun _ =>
  loopN (fun (t : T3 Int Int Int) (fs : List (List Int)) => addAt fs t.a t.b >>= fun f1 => addAt f1 t.b t.a) (sortT x_ties) (List.replicate x_many.toNat []) >>= fun fs =>
  .ok (fs.map sortT)
theorem wp_addAt {b : Type} {Q : b → Prop} {E : String → Prop} {fs : List (List Int)} {a y : Int} {k : List (List Int) → M b} (h : wp (addAt fs a y >>= k) Q E) :
    ∃ j x, ixN fs.length a = some j ∧ fs[j]? = some x ∧ x.length < sizeLine ∧ wp (k (fs.set j (x ++ [y]))) Q E := by
  unfold addAt at h
  cases e : ixN fs.length a with
  | none => rw [e] at h; exact h.elim
  | some j =>
    rw [e] at h
    have h : wp ((match fs[j]? with
      | some x => appL x y >>= fun y => .ok (fs.set j y)
      | none => bad) >>= k) Q E := h
    cases e2 : fs[j]? with
    | none => rw [e2] at h; exact h.elim
    | some x =>
      rw [e2] at h
      have h : wp ((appL x y >>= fun y => .ok (fs.set j y)) >>= k) Q E := h
      rw [wp_bind] at h
      obtain ⟨c, h⟩ := wp_appL h
      exact ⟨j, x, rfl, e2, c, h⟩
/-- all lists are new -/
def sp_tied_places_own (mg : Str → Option Value) : Sp := fun vs H Q E => ∃ (F : Hp) (x_many : Int) (v_ties : V) (x_ties : List (T3 Int Int Int)), vs = [.int x_many, v_ties] ∧ Pre F [] H ∧ R F v_ties x_ties ∧
  wp (m_tied_places x_many x_ties) (fun r => ∀ (F' H' : Hp) (p : Addr) (ps : List LC), Gr [] F H F' H' → OwnLL H F' H' p ps → ps.map (·.2) = r → Q (.ref p) H')
  (fun n => ∀ (C : Addr) (H' : Hp), mg (Str.ofString n) = some (.ref C) → Kp [] H H' → E (.ref C) none H')
def sp_tied_places (mg : Str → Option Value) : Sp := fun vs H Q E => ∃ (F : Hp) (x_many : Int) (v_ties : V) (x_ties : (List (T3 Int Int Int))), vs = [.int x_many, v_ties] ∧ Pre F [] H ∧ R (a := (List (T3 Int Int Int))) F v_ties x_ties ∧
  wp (m_tied_places x_many x_ties) (fun r => ∀ (F' H' : Hp), Gr [] F H F' H' → ∀ (p : Addr) (w : List V), H p = none → F' p = none → H' p = some (.lst w) → RL (a := (List Int)) F' w r → Q (.ref p) H')
  (fun n => ∀ (C : Addr) (H' : Hp), mg (Str.ofString n) = some (.ref C) → Kp [] H H' → E (.ref C) none H')
theorem lc_set {ps : List LC} {j : Nat} {c : LC} {y : List Int} (h : ps[j]? = some c) : (ps.set j (c.1, y)).map (·.1) = ps.map (·.1) ∧ (ps.set j (c.1, y)).map (·.2) = (ps.map (·.2)).set j y := by
  refine ⟨?_, by rw [List.map_set]⟩
  rw [List.map_set]
  refine List.ext_getElem? fun k => ?_
  by_cases hk : j = k
  · subst hk
    have hl := (List.getElem?_eq_some_iff.mp h).1
    rw [List.getElem?_set_self (by simpa using hl), List.getElem?_map, h]
    rfl
  · rw [List.getElem?_set_ne hk]
/-- one append -/
theorem tp_app {Z : Ent} {F H : Hp} {D : Addr} {o : HO} {rest : List (Addr × HO)} {ps : List LC} (O : Ow Z F ((D, o) :: ps.map lcell) H) {j : Nat} {c : LC} (h : ps[j]? = some c) (y : Int) :
    Ow Z F ((D, o) :: (ps.set j (c.1, c.2 ++ [y])).map lcell) (upd H c.1 (.lst (c.2.map V.int ++ [V.int y]))) ∧ H c.1 = some (.lst (c.2.map V.int)) := by
  have e : ((D, o) :: ps.map lcell)[j + 1]? = some (c.1, .lst (c.2.map V.int)) := by
    rw [List.getElem?_cons_succ, List.getElem?_map, h]
    rfl
  refine ⟨?_, O.at (j + 1) e⟩
  have q := O.set (j + 1) (.lst (c.2.map V.int ++ [V.int y])) e
  have e2 : ((D, o) :: ps.map lcell).set (j + 1) (c.1, .lst (c.2.map V.int ++ [V.int y])) = (D, o) :: (ps.set j (c.1, c.2 ++ [y])).map lcell := by
    rw [List.set_cons_succ, List.map_set]
    unfold lcell
    rw [List.map_append]
    rfl
  rw [e2] at q
  exact q
theorem tp_at {ps : List LC} {j : Nat} {x : List Int} (h : (ps.map (·.2))[j]? = some x) : ∃ c, ps[j]? = some c ∧ c.2 = x := by
  rw [List.getElem?_map] at h
  cases e : ps[j]? with
  | none => rw [e] at h; cases h
  | some c => rw [e] at h; exact ⟨c, rfl, Option.some.inj h⟩
theorem tp_ix {ps : List LC} {a : Int} {j : Nat} {c : LC} (e : ixN (ps.map (·.2)).length a = some j) (h : ps[j]? = some c) : atI (lrefs ps) a = some (.ref c.1) := by
  unfold atI lrefs
  rw [List.length_map] at e ⊢
  rw [e]
  show (lrefs ps)[j]? = _
  rw [List.getElem?_map, h]
  rfl
set_option maxHeartbeats 4000000 in
theorem ok_tied_places_own (nb : Nb mg) (D : Df K mg "tied_places" "tied_places" s_tied_places ["many", "ties"]) : Ca P w K mg base "tied_places" 1 ["many", "ties"] (sp_tied_places_own mg) := by
  refine Ca.mk' D sc_tied_places (fun vs H Q E h => ?_) (fun q_ f_ cdv A outer s H vs Q E hr h => ?_)
  · obtain ⟨F, _, _, _, rfl, _⟩ := h
    rfl
  · obtain ⟨F, x_many, v_ties, x_ties, rfl, P0, f_ties, hk⟩ := h
    have nd := sc_tied_places.nd
    have hu128 := hu128_of hr
    have O := P0.start
    refine ⟨_, pss_cons (ps_setLc (i := 2) (own := [("place", 7)]) (g := _) (tt := _) rfl nd rfl rfl (sw_true rfl rfl rfl (by decide +kernel)) (pi_range1 rfl nb.b_range (pa_cons (pv 0) pa_nil))
        (blkOk_by (own := [("place", 7)]) (N := ["many", "ties", "found", "a", "b", "length", "near", "place"]) (sc := defScope s_tied_places) (by decide +kernel)) (fun _ _ _ _ _ => (pg_name (i := 7) nd rfl (Or.inl rfl))) (fun _ _ _ _ _ => pts_nil) (fun _ _ _ _ _ => pe_lst pa_nil))
      (pss_cons (ps_for (passes_of rfl) rfl (pi_list (pe_callB (cr_sortedT (T3 Int Int Int) hu128) (by rfl) nb.b_sorted (by decide +kernel) (pa_cons (pv 1) pa_nil)))
        (pg_tup rfl (pgs_cons (pg_name (i := 3) nd rfl (Or.inl rfl)) (pgs_cons (pg_name (i := 4) nd rfl (Or.inl rfl)) (pgs_cons (pg_name (i := 5) nd rfl (Or.inl rfl)) pgs_nil))))
        (pss_cons (ps_expr (pe_bm PySem.F.plainAttrs_list PySem.F.slot_list_append PySem.F.type_list_append mt_append (pe_ix ix_list (pv 2) (pv 3) (fun _ _ => rfl)) (pa_cons (pv 4) pa_nil)))
          (pss_one (ps_expr (pe_bm PySem.F.plainAttrs_list PySem.F.slot_list_append PySem.F.type_list_append mt_append (pe_ix ix_list (pv 2) (pv 4) (fun _ _ => rfl)) (pa_cons (pv 3) pa_nil))))))
      (pss_one (ps_ret (pe_lc (own := [("near", 6)]) (g := _) (tt := _) rfl nd (pi_list (pv 2))
        (blkOk_by (own := [("near", 6)]) (N := ["many", "ties", "found", "a", "b", "length", "near", "place"]) (sc := defScope s_tied_places) (by decide +kernel)) (fun _ _ _ _ _ => (pg_name (i := 6) nd rfl (Or.inl rfl))) (fun _ _ _ _ _ => pts_nil)
        (fun _ _ _ _ _ => pe_callB (cr_sortedT Int hu128) (by rfl) nb.b_sorted (by decide +kernel) (pa_cons (pv 6) pa_nil)))))), ?_⟩
    obtain ⟨c1, hk⟩ := wp_chk hk
    obtain ⟨L, hL, hLs, hLd⟩ := loopN_L hk
    refine ⟨_, rfl, _, rfl, c1.lo, c1.hi, fun D hD => ?_⟩
    refine lc_range (lo := 0) (n := x_many.toNat) (fun i H => ∃ ps : List LC, Ow _ F ((D, .lst (lrefs ps)) :: ps.map lcell) H ∧ ps.map (·.2) = List.replicate i []) ⟨[], O.new hD, rfl⟩ ?_ ?_
    · rintro i H1 hi ⟨ps, O1, e1⟩
      refine ⟨rfl, (by show 0 ≤ sizeLine; decide), fun q hq => ?_⟩
      have O2 := O1.new (o := .lst []) hq
      have hlen : ps.length = i := by
        have := congrArg List.length e1
        simpa using this
      have b := c1.2
      refine ⟨_, O2.at 1 rfl, lt_line (by rw [List.length_map]; omega), ps ++ [(q, [])], ?_, by rw [List.map_append, e1, List.replicate_succ']; rfl⟩
      have O3 := O2.set 1 (.lst ((lrefs ps) ++ [V.ref q])) rfl
      have ea : lrefs (ps ++ [(q, [])]) = lrefs ps ++ [V.ref q] := List.map_append
      rw [ea, List.map_append]
      refine O3.perm ?_
      show ((q, HO.lst []) :: (D, _) :: ps.map lcell).Perm ((D, _) :: (ps.map lcell ++ [(q, HO.lst [])]))
      refine (List.Perm.swap _ _ _).trans (List.Perm.cons _ ?_)
      exact (List.perm_append_comm (l₁ := [(q, HO.lst [])]) (l₂ := ps.map lcell))
    · rintro H1 ⟨ps, O1, e1⟩
      obtain ⟨p1, w1, e2, h2, hl2⟩ := R.lst_ f_ties
      cases e2
      refine ⟨_, rfl, _, _, _, rfl, O1.s _ _ h2, RL.mono hl2 O1.s, fun p3 hp3 => ?_⟩
      obtain ⟨F4, O4, S4, h4⟩ := O1.putE hp3 (.lst (sortV w1 x_ties))
      have hl4 := (RL.sorted hl2).mono S4
      refine ⟨_, rfl, ⟨_, SqLF O4.s h4⟩, ?_⟩
      rw [← e1] at hL
      refine for_list (K := K) (xs := sortV w1 x_ties) (fun i σ H => ∃ (ps' : List LC) (t3 t4 t5 : Option V), σ = [some (V.int x_many), some (V.ref p1), some (V.ref D), t3, t4, t5, none, none] ∧ Ow _ F4 ((D, .lst (lrefs ps')) :: ps'.map lcell) H ∧ ps'.length = x_many.toNat ∧ L (List.drop i (sortT x_ties)) (ps'.map fun (c : LC) => c.2))
        ⟨ps, none, none, none, rfl, O4, (by have := congrArg List.length e1; simpa using this), hL⟩ (fun i_ σ_ H_ _ hp_ => ?_) ?_ ?_
      · obtain ⟨_, _, _, _, _, hO_, _⟩ := hp_
        exact SqLF hO_.s h4
      · rintro i x σ H5 hi ⟨ps', t3, t4, t5, rfl, O5, hl5, hL5⟩
        obtain ⟨y, ey, hy⟩ := RL.got hl4 hi
        rw [drop_at ey] at hL5
        have hk := hLs _ _ _ hL5
        obtain ⟨p6, v1, v2, v3, e6, h6, r1, r2, r3⟩ := R.t3_ hy
        cases e6
        obtain rfl := R.int_ r1
        obtain rfl := R.int_ r2
        obtain rfl := R.int_ r3
        obtain ⟨j, x, ej, ex, cl, hk⟩ := wp_addAt hk
        have hk := wp_bind (k := fun r => Except.ok r) |>.mpr hk
        obtain ⟨j2, x2, ej2, ex2, cl2, hk⟩ := wp_addAt hk
        obtain ⟨c, hc, rfl⟩ := tp_at ex
        obtain ⟨O6, hq6⟩ := tp_app (rest := []) O5 hc y.b
        obtain ⟨l1, l2⟩ := lc_set (y := c.2 ++ [y.b]) hc
        rw [← l2] at ex2 ej2
        obtain ⟨c', hc', rfl⟩ := tp_at ex2
        obtain ⟨O7, hq7⟩ := tp_app (rest := []) O6 hc' y.a
        obtain ⟨l3, l4⟩ := lc_set (y := c'.2 ++ [y.a]) hc'
        have eD : lrefs (ps'.set j (c.1, c.2 ++ [y.b])) = lrefs ps' := by
          have := congrArg (List.map V.ref) l1
          rw [List.map_map, List.map_map] at this
          exact this
        have eD2 : lrefs ((ps'.set j (c.1, c.2 ++ [y.b])).set j2 (c'.1, c'.2 ++ [y.a])) = lrefs (ps'.set j (c.1, c.2 ++ [y.b])) := by
          have := congrArg (List.map V.ref) l3
          rw [List.map_map, List.map_map] at this
          exact this
        have i2 : atI (lrefs ps') y.b = some (.ref c'.1) := by
          rw [← eD]
          exact tp_ix ej2 hc'
        refine ⟨_, _, rfl, SqTF O5.s h6, rfl, _, _, rfl, _, _, rfl, _, _, rfl, rfl, _, rfl, _, rfl, _, _, _, _, rfl, rfl, SqL.of (O5.at 0 rfl), tp_ix ej hc, .inl ⟨rfl, _, SqL.of hq6⟩, _, rfl, _, _, _, rfl, rfl, hq6, by rw [List.length_map]; exact cl, ?_⟩
        refine ⟨_, rfl, _, rfl, _, _, _, _, rfl, rfl, SqL.of (O6.at 0 rfl), i2, .inl ⟨rfl, _, SqL.of hq7⟩, _, rfl, _, _, _, rfl, rfl, hq7, by rw [List.length_map]; exact cl2, ?_⟩
        refine ⟨_, _, _, _, rfl, by rw [eD2, eD]; exact O7, by rw [List.length_set, List.length_set]; exact hl5, ?_⟩
        rw [l4, l2]
        exact hk
      · rintro σ H5 ⟨ps', t3, t4, t5, rfl, O5, hl5, hL5⟩
        rw [drop_end hl4.len] at hL5
        have hk := hLd _ hL5
        refine ⟨_, rfl, _, rfl, ⟨_, SqL.of (O5.at 0 rfl)⟩, fun D2 hD2 => ?_⟩
        have b1 := c1.2
        refine lc_list (K := K) (xs := lrefs ps') (fun i H => ∃ qs : List LC, Ow _ F4 ((D2, .lst (lrefs qs)) :: (qs.map lcell ++ ((D, .lst (lrefs ps')) :: ps'.map lcell))) H ∧ qs.map (·.2) = ((ps'.map (·.2)).take i).map sortT)
          ⟨[], O5.new hD2, by simp⟩ (fun i_ H_ _ hp_ => ?_) ?_ ?_
        · obtain ⟨qs, hO_, _⟩ := hp_
          exact SqL.of (hO_.ch (D, _) (List.mem_cons_of_mem _ (List.mem_append_right _ List.mem_cons_self)))
        · rintro i x H6 hi ⟨qs, O6, e6⟩
          obtain ⟨c, hc, rfl⟩ : ∃ c, ps'[i]? = some c ∧ x = V.ref c.1 := by
            have hi : (ps'.map fun (c : LC) => V.ref c.1)[i]? = some x := hi
            rw [List.getElem?_map] at hi
            cases e : ps'[i]? with
            | none => rw [e] at hi; cases hi
            | some c => rw [e] at hi; exact ⟨c, rfl, (Option.some.inj hi).symm⟩
          have hm : lcell c ∈ ps'.map lcell := List.mem_map.mpr ⟨c, List.mem_of_getElem? hc, rfl⟩
          have hq := O6.ch (lcell c) (List.mem_cons_of_mem _ (List.mem_append_right _ (List.mem_cons_of_mem _ hm)))
          have hil := (List.getElem?_eq_some_iff.mp hc).1
          have hql : qs.length ≤ i := by
            have := congrArg List.length e6
            simp at this
            omega
          have es : sortV (c.2.map V.int) c.2 = (sortT c.2).map V.int := (RL.sorted (H := F) RL.of_ints).ints
          refine ⟨rfl, _, rfl, _, _, c.2, rfl, hq, RL.of_ints, fun p hp => ?_⟩
          have O7 := O6.new (o := .lst (sortV (c.2.map V.int) c.2)) hp
          refine ⟨_, O7.at 1 rfl, lt_line (by rw [List.length_map]; omega), qs ++ [(p, sortT c.2)], ?_, ?_⟩
          · have O8 := O7.set 1 (.lst (lrefs qs ++ [V.ref p])) rfl
            have ea : lrefs (qs ++ [(p, sortT c.2)]) = lrefs qs ++ [V.ref p] := List.map_append
            rw [ea, List.map_append]
            refine O8.perm ?_
            rw [es]
            show ((p, HO.lst _) :: (D2, _) :: (qs.map lcell ++ _)).Perm ((D2, _) :: (qs.map lcell ++ [(p, HO.lst _)] ++ _))
            refine (List.Perm.swap _ _ _).trans (List.Perm.cons _ ?_)
            rw [List.append_assoc]
            exact List.perm_middle.symm
          · rw [List.map_append, e6]
            have e7 : (ps'.map (·.2))[i]? = some c.2 := by rw [List.getElem?_map, hc]; rfl
            rw [List.take_succ, e7, List.map_append]
            rfl
        · rintro H6 ⟨qs, O6, e6⟩
          have el : (lrefs ps').length = (ps'.map (·.2)).length := by rw [List.length_map, List.length_map]
          rw [el, List.take_length] at e6
          have hsub : ∀ c ∈ qs, lcell c ∈ (D2, HO.lst (lrefs qs)) :: (qs.map lcell ++ ((D, .lst (lrefs ps')) :: ps'.map lcell)) := fun c hc => List.mem_cons_of_mem _ (List.mem_append_left _ (List.mem_map.mpr ⟨c, hc, rfl⟩))
          have nas : ∀ b : Addr, ¬ b ∈ ([] : List Addr) := fun b h => nomatch h
          refine hk F4 H6 D2 qs O6.g ⟨O5.was hD2, O6.cf _ List.mem_cons_self, O6.ch _ List.mem_cons_self, fun c hc => (O6.ca _ (hsub c hc)).resolve_left (nas _), fun c hc => O6.cf _ (hsub c hc), fun c hc => O6.ch _ (hsub c hc), ?_⟩ e6
          have n := O6.nd
          rw [List.map_cons, List.map_append, List.nodup_cons, List.nodup_append] at n
          rw [List.nodup_cons]
          have em : (qs.map lcell).map (·.1) = qs.map (·.1) := by
            rw [List.map_map]
            rfl
          rw [em] at n
          exact ⟨fun h => n.1 (List.mem_append_left _ h), n.2.1⟩
theorem ok_tied_places (nb : Nb mg) (D : Df K mg "tied_places" "tied_places" s_tied_places ["many", "ties"]) : Ca P w K mg base "tied_places" 1 ["many", "ties"] (sp_tied_places mg) := by
  refine FnOk.impC (ok_tied_places_own nb D) fun vs H Q E h => ?_
  obtain ⟨F, x_many, v_ties, x_ties, rfl, P0, f_ties, hk⟩ := h
  refine ⟨F, x_many, v_ties, x_ties, rfl, P0, f_ties, wp_mono hk fun r k F' H' p ps g L e => ?_⟩
  obtain ⟨F2, g2, n2, rl⟩ := L.frz g
  rw [e] at rl
  exact k F2 H' g2 p _ L.pn n2 L.ph rl

abbrev s_come_to : Stmt := top 14
theorem sc_come_to : FnScope ["near", "place", "found", "at", "other"] ["near", "place"] (defScope s_come_to) := ⟨rfl, rfl, rfl, by decide +kernel, rfl, by decide +kernel, by decide +kernel⟩
def m_come_to (x_near : (List (List Int))) (x_place : Int) : M ((List Int)) :=
whL (r := Unit) (fun (st17 : Int × (List Int)) =>
if st17.1 < (st17.2.length : Int) then (
opt (atI st17.2 st17.1) >>= fun y25 =>
opt (atI x_near y25) >>= fun y35 =>
loopN (fun (y45 : Int) (st56 : (List Int)) =>
if y45 ∉ st56 then (
appL st56 y45 >>= fun _ =>
.ok (st56 ++ [y45]))
else (
.ok st56)) y35 st17.2 >>= fun st72 =>
.ok (.go ((st17.1 + (1 : Int)), st72)))
else (
.ok (.stop (st17.1, st17.2)))) 1000000 ((0 : Int), [x_place]) >>= fun f89 => match f89 with
| .rt _ => bad
| .nx st82 =>
.ok st82.2
def sp_come_to (mg : Str → Option Value) : Sp := fun vs H Q E => ∃ (F : Hp) (v_near : V) (x_near : (List (List Int))) (x_place : Int), vs = [v_near, V.int x_place] ∧ Pre F [] H ∧ R (a := (List (List Int))) F v_near x_near ∧
  wp (m_come_to x_near x_place) (fun r => ∀ (F' H' : Hp), Gr [] F H F' H' → ∀ (p : Addr) (w : (List V)), H p = none → F' p = none → H' p = some (.lst w) → RL (a := Int) F' w r → Q (.ref p) H')
  (fun n => ∀ (C : Addr) (H' : Hp), mg (Str.ofString n) = some (.ref C) → Kp [] H H' → E (.ref C) none H')
set_option maxHeartbeats 2000000 in
theorem ok_come_to (nb : Nb mg) (D : Df K mg "come_to" "come_to" s_come_to ["near", "place"]) : Ca P w K mg base "come_to" 1 ["near", "place"] (sp_come_to mg) := by
  refine Ca.mk' D sc_come_to (fun vs H Q E h => ?_) (fun q_ f_ cdv A outer s H vs Q E hr h => ?_)
  · obtain ⟨F, _, _, _, rfl, _⟩ := h
    rfl
  · obtain ⟨F, v_near, x_near, x_place, rfl, P0, f_near, hk⟩ := h
    have nd := sc_come_to.nd
    have hu64 := hr.units
    have hu128 := hu128_of hr
    have O := P0.start
    refine ⟨_, (pss_cons (ps_set (i := 2) nd rfl (Or.inl rfl) (pe_lst (pa_cons (pv 1) pa_nil)))
  (pss_cons (ps_set (i := 3) nd rfl (Or.inl rfl) pe_int)
  (pss_cons (ps_while (passes_of rfl) (pt_cmpR op_lt (pv 3) (pe_callB call_lenT (by rfl) nb.b_len PySem.boot_len (pa_cons (pv 2) pa_nil)) (nomark _)) (pss_cons (ps_for (passes_of rfl) rfl (piListK (K := K) rfl (pe_ix (ixListK (K := K) rfl) (pv 0) (pe_ix (ixListK (K := K) rfl) (pv 2) (pv 3) (fun _ _ => rfl)) (fun _ _ => rfl))) (pg_name (i := 4) nd rfl (Or.inl rfl)) (pss_one (ps_if (pt_cmpR (op_ninT Int hu64) (pv 4) (pv 2) rfl) (pss_one (ps_expr (pe_bm PySem.F.plainAttrs_list PySem.F.slot_list_append PySem.F.type_list_append mt_append (pv 2) (pa_cons (pv 4) pa_nil)))) pss_nil)))
  (pss_one (ps_aug (i := 3) nd rfl (Or.inl rfl) pe_int ip_add))))
  (pss_one (ps_ret (pv 2)))))), ?_⟩
    refine ⟨_, rfl, (by show 1 ≤ sizeLine; decide), fun p2 hp3 => ?_⟩
    have hl5 : RL (a := Int) F ([V.int x_place]) ([x_place]) := RL.cons R.int RL.nil
    have z6 := O.was hp3
    have O4 := O.new (o := .lst ([V.int x_place])) hp3
    obtain ⟨L7, X8, hL9, hLs10, hLd11⟩ := whL_L hk
    refine while_P (fun n σ H_ => ∃ (F_ : Hp) (st : Int × (List Int)) (w_0 : (List V)) (t_0 : Option V), σ = [some v_near, some (V.int x_place), some (V.ref p2), some (V.int st.1), t_0] ∧ Same F F_ ∧ Ow (⟨[], F, H⟩ : Ent) F_ [(p2, .lst w_0)] H_ ∧ RL (a := Int) F_ w_0 st.2 ∧ L7 n st) (fun σ H_ => ∃ (F_ : Hp) (st : Int × (List Int)) (w_0 : (List V)) (t_0 : Option V), σ = [some v_near, some (V.int x_place), some (V.ref p2), some (V.int st.1), t_0] ∧ Same F F_ ∧ Ow (⟨[], F, H⟩ : Ent) F_ [(p2, .lst w_0)] H_ ∧ RL (a := Int) F_ w_0 st.2 ∧ X8 st) 1000000 ⟨F, ((0 : Int), [x_place]), [V.int x_place], none, rfl, Same.refl _, O4, hl5, hL9⟩ ?_ ?_
    rotate_left
    · rintro hex12 m13 sg14 H15 ⟨F22, st17, w19, t21, rfl, S16, O23, hl20, hL18⟩
      have f_near := f_near.mono S16
      have hk := hLs10 _ _ hL18
      refine ⟨_, rfl, _, rfl, _, _, _, rfl, (.inl (O23.at 0 rfl)), hl20.len, _, _, rfl, rfl, _, rfl, ?_⟩
      refine iteD (fun q24 => ?_) (fun q24 => ?_)
      · have hk := wp_if hk q24
        obtain ⟨y25, e26, hk⟩ := wp_opt hk
        obtain ⟨w27, e28, r29⟩ := hl20.atI e26
        obtain rfl := R.int_ r29
        obtain ⟨p30, w31, e32, h33, hl34⟩ := R.lst_ f_near
        cases e32
        obtain ⟨y35, e36, hk⟩ := wp_opt hk
        obtain ⟨w37, e38, r39⟩ := hl34.atI e36
        obtain ⟨p40, w41, e42, h43, hl44⟩ := R.lst_ r39
        cases e42
        obtain ⟨L46, hL47, hLs48, hLd49⟩ := loopN_L hk
        refine ⟨_, (fun _ _ h_ => h_), _, rfl, _, rfl, _, rfl, _, _, _, _, rfl, rfl, (SqL.of (O23.at 0 rfl)), e28, _, _, _, _, rfl, rfl, (SqLF O23.s h33), e38, _, rfl, ⟨_, (SqLF O23.s h43)⟩, ?_⟩
        refine for_list (K := K) (xs := w41) (fun i σ H => ∃ (F_ : Hp) (st : (List Int)) (w_0 : (List V)) (t_0 : Option V), σ = [some (V.ref p30), some (V.int x_place), some (V.ref p2), some (V.int st17.1), t_0] ∧ Same F22 F_ ∧ Ow _ F_ [(p2, .lst w_0)] H ∧ RL (a := Int) F_ w_0 st ∧ L46 (List.drop i y35) st) ⟨F22, st17.2, w19, t21, rfl, Same.refl _, O23, hl20, hL47⟩ (fun i_ σ_ H_ _ hp_ => ?_) ?_ ?_
        · obtain ⟨_, _, _, _, _, hS_, hO_, _⟩ := hp_
          exact SqLF hO_.s (hS_ _ _ h43)
        · rintro i50 x51 sg52 H53 hi54 ⟨F60, st56, w57, t59, rfl, S55, O61, hl58, hL47⟩
          have f_near := f_near.mono S55
          have S16 := S16.trans S55
          have h33 := S55 _ _ h33
          have hl34 := hl34.mono S55
          have r39 := r39.mono S55
          have h43 := S55 _ _ h43
          have hl44 := hl44.mono S55
          obtain ⟨y45, e62, r63⟩ := RL.got hl44 hi54
          rw [drop_at e62] at hL47
          have hk := hLs48 _ _ _ hL47
          obtain rfl := R.int_ r63
          refine ⟨_, rfl, _, rfl, _, _, _, _, R.int, rfl, (.inl (O61.at 0 rfl)), (RL.mono (hl58) O61.s), _, rfl, ?_⟩
          refine iteD (fun q64 => ?_) (fun q64 => ?_)
          · have hk := wp_if hk q64
            obtain ⟨c65, hk⟩ := wp_appL hk
            refine ⟨_, rfl, (.inl ⟨rfl, _, SqL.of (O61.at 0 rfl)⟩), _, rfl, _, _, _, rfl, rfl, (O61.at 0 rfl), (by rw [hl58.len]; exact c65), ?_⟩
            have O67 := O61.set 0 (.lst (w57 ++ [V.int y45])) rfl
            have hl68 : RL (a := Int) F60 (w57 ++ [V.int y45]) (st56 ++ [y45]) := RL.snoc hl58 R.int
            exact ⟨F60, (st56 ++ [y45]), (w57 ++ [V.int y45]), some (V.int y45), rfl, S55, O67, hl68, hk⟩
          · have hk := wp_el hk q64
            exact ⟨F60, st56, w57, some (V.int y45), rfl, S55, O61, hl58, hk⟩
        rintro sg69 H70 ⟨F77, st72, w74, t76, rfl, S71, O78, hl75, hL73⟩
        rw [drop_end hl44.len] at hL73
        have hk := hLd49 _ hL73
        have f_near := f_near.mono S71
        have S16 := S16.trans S71
        have h33 := S71 _ _ h33
        have hl34 := hl34.mono S71
        have r39 := r39.mono S71
        have h43 := S71 _ _ h43
        have hl44 := hl44.mono S71
        refine ⟨_, rfl, _, _, rfl, rfl, ?_⟩
        obtain ⟨m_, hm_, hk⟩ := hk
        exact ⟨m_, hm_, F77, ((st17.1 + (1 : Int)), st72), w74, t76, rfl, S16, O78, hl75, hk⟩
      · have hk := wp_el hk q24
        exact hex12 _ _ ⟨F22, (st17.1, st17.2), w19, t21, rfl, S16, O23, hl20, hk⟩
    rintro sg79 H80 ⟨F87, st82, w84, t86, rfl, S81, O88, hl85, hL83⟩
    have hk := hLd11 _ hL83
    have f_near := f_near.mono S81
    refine ⟨_, rfl, ?_⟩
    exact hk _ _  O88.g  _ _ z6 (O88.cf _ (List.mem_of_getElem? (i := 0) rfl)) (O88.at 0 rfl) hl85
abbrev s_tree_of : Stmt := top 15
theorem sc_tree_of : FnScope ["worths", "ties", "many", "pairs", "a", "b", "length"] ["worths", "ties"] (defScope s_tree_of) := ⟨rfl, rfl, rfl, by decide +kernel, rfl, by decide +kernel, by decide +kernel⟩
def m_tree_of (x_worths : (List Int)) (x_ties : (List (T3 Int Int Int))) : M (((List Int) × (List (T3 Int Int Int)))) :=
compS (fun (y11 : (T3 Int Int Int)) (st28 : Unit) =>
.ok (some (y11.a, y11.b), ())) x_ties () >>= fun q61 =>
if (q61.1.length : Int) ≠ ((x_worths.length : Int) - (1 : Int)) then (
raise "NoTree")
else (
compS (fun (y78 : (Int × Int)) (st95 : Unit) =>
if (0 : Int) ≤ y78.1 then (
if y78.1 < y78.2 then (
if y78.2 < (x_worths.length : Int) then (
.ok (none, ()))
else (
.ok (some (y78.1, y78.2), ())))
else (
.ok (some (y78.1, y78.2), ())))
else (
.ok (some (y78.1, y78.2), ()))) q61.1 () >>= fun q143 =>
if q143.1 ≠ ([] : List (Int × Int)) then (
raise "NoTree")
else (
m_tied_places (x_worths.length : Int) x_ties >>= fun r158 =>
m_come_to r158 (0 : Int) >>= fun r177 =>
if (r177.length : Int) < (x_worths.length : Int) then (
raise "NoTree")
else (
.ok (x_worths, (sortT x_ties)))))
def sp_tree_of (mg : Str → Option Value) : Sp := fun vs H Q E => ∃ (F : Hp) (v_worths : V) (x_worths : (List Int)) (v_ties : V) (x_ties : (List (T3 Int Int Int))), vs = [v_worths, v_ties] ∧ Pre F [] H ∧ R (a := (List Int)) F v_worths x_worths ∧ R (a := (List (T3 Int Int Int))) F v_ties x_ties ∧
  wp (m_tree_of x_worths x_ties) (fun r => ∀ (F' H' : Hp), Gr [] F H F' H' → ∀ (p : Addr) (q0 : Addr) (v0 : (List V)) (q1 : Addr) (v1 : (List V)), H q0 = none → F' q0 = none → H' q0 = some (.lst v0) → RL (a := Int) F' v0 r.1 → H q1 = none → F' q1 = none → H' q1 = some (.lst v1) → RL (a := (T3 Int Int Int)) F' v1 r.2 → q0 ≠ q1 → F' p = some (.tup [.ref q0, .ref q1]) → Q (.ref p) H')
  (fun n => ∀ (C : Addr) (H' : Hp), mg (Str.ofString n) = some (.ref C) → Kp [] H H' → E (.ref C) none H')
set_option maxHeartbeats 2000000 in
theorem ok_tree_of (nb : Nb mg) (C_come_to : Ca P w K mg base "come_to" 1 ["near", "place"] (sp_come_to mg)) (C_tied_places : Ca P w K mg base "tied_places" 1 ["many", "ties"] (sp_tied_places mg)) (E_NoTree : ∃ C, Xc K mg "NoTree" C) (D : Df K mg "tree_of" "tree_of" s_tree_of ["worths", "ties"]) : Ca P w K mg base "tree_of" 2 ["worths", "ties"] (sp_tree_of mg) := by
  obtain ⟨fa_come_to, fd_come_to, G_come_to, M_come_to, K_come_to, B_come_to⟩ := C_come_to.ex
  obtain ⟨fa_tied_places, fd_tied_places, G_tied_places, M_tied_places, K_tied_places, B_tied_places⟩ := C_tied_places.ex
  obtain ⟨XC_NoTree, X_NoTree⟩ := E_NoTree
  refine Ca.mk' D sc_tree_of (fun vs H Q E h => ?_) (fun q_ f_ cdv A outer s H vs Q E hr h => ?_)
  · obtain ⟨F, _, _, _, _, rfl, _⟩ := h
    rfl
  · obtain ⟨F, v_worths, x_worths, v_ties, x_ties, rfl, P0, f_worths, f_ties, hk⟩ := h
    have nd := sc_tree_of.nd
    have hu64 := hr.units
    have hu128 := hu128_of hr
    have O := P0.start
    refine ⟨_, (pss_cons (ps_set (i := 2) nd rfl (Or.inr rfl) (pe_callB call_lenT (by rfl) nb.b_len PySem.boot_len (pa_cons (pv 0) pa_nil)))
  (pss_cons (ps_setLc (i := 3) (own := [("a", 4), ("b", 5), ("length", 6)]) (g := gTup K 3 (gCons (gName 4) (gCons (gName 5) (gCons (gName 6) (gNil))))) (tt := _) rfl nd rfl rfl (sw_true rfl rfl rfl (by decide +kernel)) (piListK (K := K) rfl (pv 1)) (blkOk_by (own := [("a", 4), ("b", 5), ("length", 6)]) (N := ["worths", "ties", "many", "pairs", "a", "b", "length"]) (sc := defScope s_tree_of) (by decide +kernel)) (fun _ _ _ _ _ => (pg_tup rfl (pgs_cons (pg_name (i := 4) nd rfl (Or.inl rfl)) (pgs_cons (pg_name (i := 5) nd rfl (Or.inl rfl)) (pgs_cons (pg_name (i := 6) nd rfl (Or.inl rfl)) pgs_nil))))) (fun _ _ _ _ _ => pts_nil) (fun _ _ _ _ _ => (pe_tup (pa_cons (pv 4) (pa_cons (pv 5) pa_nil)))))
  (pss_cons (ps_if (PW.pt (pw_or (pt_cmpR (op_neT Int hu64) (pe_callB call_lenT (by rfl) nb.b_len PySem.boot_len (pa_cons (pv 3) pa_nil)) (pe_op op_sub (pv 2) pe_int) (nomark _)) (pw_or1 (pt_cmpR (op_neT (List (Int × Int)) hu64) (pe_lc (own := [("a", 4), ("b", 5)]) (g := gTup K 2 (gCons (gName 4) (gCons (gName 5) (gNil)))) (tt := _) rfl nd (piListK (K := K) rfl (pv 3)) (blkOk_by (own := [("a", 4), ("b", 5)]) (N := ["worths", "ties", "many", "pairs", "a", "b", "length"]) (sc := defScope s_tree_of) (by decide +kernel)) (fun _ _ _ _ _ => (pg_tup rfl (pgs_cons (pg_name (i := 4) nd rfl (Or.inl rfl)) (pgs_cons (pg_name (i := 5) nd rfl (Or.inl rfl)) pgs_nil)))) (fun _ _ _ _ _ => (pts_one (pt_not (pt_chain3 op_le op_lt op_lt pe_int (pv 4) (pv 5) (pv 2))))) (fun _ _ _ _ _ => (pe_tup (pa_cons (pv 4) (pa_cons (pv 5) pa_nil))))) (pe_lst pa_nil) (nomark _))))) (pss_one (ps_raise rfl (takes_of rfl rfl rfl rfl) (pmk_own PySem.F.excBase_ValueError X_NoTree.x X_NoTree.g X_NoTree.k (raises_own X_NoTree.b X_NoTree.t) rfl))) pss_nil)
  (pss_cons (ps_if (pt_cmpR op_lt (pe_callB call_lenT (by rfl) nb.b_len PySem.boot_len (pa_cons (pe_call G_come_to (hr.mono (by decide)) rfl M_come_to K_come_to B_come_to .nil (passes_call (takes_of rfl rfl rfl rfl) fun _ _ _ _ h => h) (pa_cons (pe_call G_tied_places (hr.mono (by decide)) rfl M_tied_places K_tied_places B_tied_places .nil (passes_call (takes_of rfl rfl rfl rfl) fun _ _ _ _ h => h) (pa_cons (pv 2) (pa_cons (pv 1) pa_nil))) (pa_cons pe_int pa_nil))) pa_nil)) (pv 2) (nomark _)) (pss_one (ps_raise rfl (takes_of rfl rfl rfl rfl) (pmk_own PySem.F.excBase_ValueError X_NoTree.x X_NoTree.g X_NoTree.k (raises_own X_NoTree.b X_NoTree.t) rfl))) pss_nil)
  (pss_one (ps_ret (pe_tup (pa_cons (pe_callTy (listOfK (K := K) rfl) (by rfl) nb.b_list (by decide +kernel) (pa_cons (pv 0) pa_nil)) (pa_cons (pe_callB (cr_sortedT (T3 Int Int Int) hu128) (by rfl) nb.b_sorted (by decide +kernel) (pa_cons (pv 1) pa_nil)) pa_nil))))))))), ?_⟩
    obtain ⟨p1, w2, e3, h4, hl5⟩ := R.lst_ f_worths
    cases e3
    obtain ⟨p6, w7, e8, h9, hl10⟩ := R.lst_ f_ties
    cases e8
    obtain ⟨c16, L12, hL13, hLs14, hLd15⟩ := compS_L hk
    refine ⟨_, rfl, _, _, _, rfl, (.inl (O.s _ _ h4)), hl5.len, _, rfl, _, rfl, ⟨_, (SqLF O.s h9)⟩, fun p17 hp18 => ?_⟩
    have z50 := O.was hp18
    refine lc_list (K := K) (xs := w7) (fun i H => ∃ (F_ : Hp) (st : Unit) (acc : List (Int × Int)) (wa : List V), Same F F_ ∧ Ow _ F_ [(p17, .lst wa)] H ∧ RL F_ wa acc ∧ wa.length ≤ i ∧ L12 (List.drop i x_ties) acc st) ⟨F, (), [], [], Same.refl _, O.new hp18, RL.nil, Nat.zero_le _, hL13⟩ (fun i_ H_ _ hp_ => ?_) ?_ ?_
    · obtain ⟨_, _, _, _, hS_, hO_, _⟩ := hp_
      exact SqLF hO_.s (hS_ _ _ h9)
    · rintro i19 x20 H21 hi22 ⟨F27, st28, acc24, wa25, S29, O31, hl30, la26, hL13⟩
      have f_worths := f_worths.mono S29
      have f_ties := f_ties.mono S29
      have h4 := S29 _ _ h4
      have hl5 := hl5.mono S29
      have h9 := S29 _ _ h9
      have hl10 := hl10.mono S29
      obtain ⟨y11, e32, r33⟩ := RL.got hl10 hi22
      rw [drop_at e32] at hL13
      have hk := hLs14 _ _ _ _ hL13
      obtain ⟨p34, v37, v38, v39, e35, h36, r40, r41, r42⟩ := R.t3_ r33
      cases e35
      obtain rfl := R.int_ r40
      obtain rfl := R.int_ r41
      obtain rfl := R.int_ r42
      refine ⟨_, _, rfl, (SqTF O31.s h36), rfl, _, _, rfl, _, _, rfl, _, _, rfl, rfl, rfl, ?_⟩
      refine ⟨_, rfl, _, rfl, (by show 2 ≤ sizeLine; decide), fun p43 hp44 => ?_⟩
      obtain ⟨F45, O46, S47, h48⟩ := O31.putE hp44 (.tup [V.int y11.a, V.int y11.b])
      have f_worths := f_worths.mono S47
      have f_ties := f_ties.mono S47
      have h4 := S47 _ _ h4
      have hl5 := hl5.mono S47
      have h9 := S47 _ _ h9
      have hl10 := hl10.mono S47
      have S29 := S29.trans S47
      have hl30 := hl30.mono S47
      have r33 := r33.mono S47
      have h36 := S47 _ _ h36
      have h49 : R (a := (Int × Int)) F45 (.ref p43) (y11.a, y11.b) := R.t2 h48 R.int R.int
      refine ⟨_, (O46.at 0 rfl), (comp_len la26 hi22 hl10.len c16), ?_⟩
      exact ⟨F45, (), acc24 ++ [(y11.a, y11.b)], wa25 ++ [V.ref p43], S29, O46.set 0 (.lst (wa25 ++ [V.ref p43])) rfl, RL.snoc hl30 h49, by rw [List.length_append]; exact Nat.succ_le_succ la26, hk⟩
    rintro H51 ⟨F52, st53, acc54, wa55, S56, O57, hl58, la59, hL60⟩
    rw [drop_end hl10.len] at hL60
    have hk := hLd15 _ _ hL60
    have f_worths := f_worths.mono S56
    have f_ties := f_ties.mono S56
    have h4 := S56 _ _ h4
    have hl5 := hl5.mono S56
    have h9 := S56 _ _ h9
    have hl10 := hl10.mono S56
    obtain ⟨F62, O63, S64, h65⟩ := O57.frzE 0 rfl z50
    have f_worths := f_worths.mono S64
    have f_ties := f_ties.mono S64
    have h4 := S64 _ _ h4
    have hl5 := hl5.mono S64
    have h9 := S64 _ _ h9
    have hl10 := hl10.mono S64
    have hl58 := hl58.mono S64
    have h66 := R.lst (a := (Int × Int)) h65 hl58
    obtain ⟨p67, w68, e69, h70, hl71⟩ := R.lst_ h66
    cases e69
    refine ⟨_, rfl, _, _, _, rfl, (.inl (O63.s _ _ h70)), hl71.len, _, rfl, _, _, rfl, rfl, _, _, R.int, R.int, _, rfl, ?_⟩
    refine iteD (fun q72 => ?_) (fun q72 => ?_)
    · have hk := wp_if hk q72
      refine iteT ?_
      exact hk _ _ X_NoTree.g O63.kp
    · have hk := wp_el hk q72
      obtain ⟨p73, w74, e75, h76, hl77⟩ := R.lst_ h66
      cases e75
      obtain ⟨c83, L79, hL80, hLs81, hLd82⟩ := compS_L hk
      refine ⟨_, rfl, _, rfl, ⟨_, (SqLF O63.s h76)⟩, fun p84 hp85 => ?_⟩
      have z132 := O63.was hp85
      refine lc_list (K := K) (xs := w74) (fun i H => ∃ (F_ : Hp) (st : Unit) (acc : List (Int × Int)) (wa : List V), Same F62 F_ ∧ Ow _ F_ [(p84, .lst wa)] H ∧ RL F_ wa acc ∧ wa.length ≤ i ∧ L79 (List.drop i acc54) acc st) ⟨F62, (), [], [], Same.refl _, O63.new hp85, RL.nil, Nat.zero_le _, hL80⟩ (fun i_ H_ _ hp_ => ?_) ?_ ?_
      · obtain ⟨_, _, _, _, hS_, hO_, _⟩ := hp_
        exact SqLF hO_.s (hS_ _ _ h76)
      · rintro i86 x87 H88 hi89 ⟨F94, st95, acc91, wa92, S96, O98, hl97, la93, hL80⟩
        have f_worths := f_worths.mono S96
        have f_ties := f_ties.mono S96
        have h4 := S96 _ _ h4
        have hl5 := hl5.mono S96
        have h9 := S96 _ _ h9
        have hl10 := hl10.mono S96
        have h66 := h66.mono S96
        have h70 := S96 _ _ h70
        have hl71 := hl71.mono S96
        have h76 := S96 _ _ h76
        have hl77 := hl77.mono S96
        obtain ⟨y78, e99, r100⟩ := RL.got hl77 hi89
        rw [drop_at e99] at hL80
        have hk := hLs81 _ _ _ _ hL80
        obtain ⟨p101, v104, v105, e102, h103, r106, r107⟩ := R.t2_ r100
        cases e102
        obtain rfl := R.int_ r106
        obtain rfl := R.int_ r107
        refine ⟨_, _, rfl, (SqTF O98.s h103), rfl, _, _, rfl, _, _, rfl, rfl, rfl, _, rfl, _, _, rfl, rfl, _, rfl, ?_⟩
        refine iteD (fun q108 => ?_) (fun q108 => ?_)
        · have hk := wp_if hk q108
          refine ⟨_, rfl, _, _, rfl, rfl, _, rfl, ?_⟩
          refine iteD (fun q109 => ?_) (fun q109 => ?_)
          · have hk := wp_if hk q109
            refine ⟨_, rfl, _, _, rfl, rfl, _, rfl, ?_⟩
            refine iteN (fun q110 => ?_) (fun q110 => ?_)
            · have hk := wp_if hk q110
              exact ⟨F94, (), acc91, wa92, S96, O98, hl97, Nat.le_succ_of_le la93, hk⟩
            · have hk := wp_el hk q110
              refine ⟨_, rfl, _, rfl, (by show 2 ≤ sizeLine; decide), fun p111 hp112 => ?_⟩
              obtain ⟨F113, O114, S115, h116⟩ := O98.putE hp112 (.tup [V.int y78.1, V.int y78.2])
              have f_worths := f_worths.mono S115
              have f_ties := f_ties.mono S115
              have h4 := S115 _ _ h4
              have hl5 := hl5.mono S115
              have h9 := S115 _ _ h9
              have hl10 := hl10.mono S115
              have h66 := h66.mono S115
              have h70 := S115 _ _ h70
              have hl71 := hl71.mono S115
              have h76 := S115 _ _ h76
              have hl77 := hl77.mono S115
              have S96 := S96.trans S115
              have hl97 := hl97.mono S115
              have r100 := r100.mono S115
              have h103 := S115 _ _ h103
              have h117 : R (a := (Int × Int)) F113 (.ref p111) (y78.1, y78.2) := R.t2 h116 R.int R.int
              refine ⟨_, (O114.at 0 rfl), (comp_len la93 hi89 hl77.len c83), ?_⟩
              exact ⟨F113, (), acc91 ++ [(y78.1, y78.2)], wa92 ++ [V.ref p111], S96, O114.set 0 (.lst (wa92 ++ [V.ref p111])) rfl, RL.snoc hl97 h117, by rw [List.length_append]; exact Nat.succ_le_succ la93, hk⟩
          · have hk := wp_el hk q109
            refine ⟨_, rfl, ?_⟩
            refine iteNF ?_
            refine ⟨_, rfl, _, rfl, (by show 2 ≤ sizeLine; decide), fun p118 hp119 => ?_⟩
            obtain ⟨F120, O121, S122, h123⟩ := O98.putE hp119 (.tup [V.int y78.1, V.int y78.2])
            have f_worths := f_worths.mono S122
            have f_ties := f_ties.mono S122
            have h4 := S122 _ _ h4
            have hl5 := hl5.mono S122
            have h9 := S122 _ _ h9
            have hl10 := hl10.mono S122
            have h66 := h66.mono S122
            have h70 := S122 _ _ h70
            have hl71 := hl71.mono S122
            have h76 := S122 _ _ h76
            have hl77 := hl77.mono S122
            have S96 := S96.trans S122
            have hl97 := hl97.mono S122
            have r100 := r100.mono S122
            have h103 := S122 _ _ h103
            have h124 : R (a := (Int × Int)) F120 (.ref p118) (y78.1, y78.2) := R.t2 h123 R.int R.int
            refine ⟨_, (O121.at 0 rfl), (comp_len la93 hi89 hl77.len c83), ?_⟩
            exact ⟨F120, (), acc91 ++ [(y78.1, y78.2)], wa92 ++ [V.ref p118], S96, O121.set 0 (.lst (wa92 ++ [V.ref p118])) rfl, RL.snoc hl97 h124, by rw [List.length_append]; exact Nat.succ_le_succ la93, hk⟩
        · have hk := wp_el hk q108
          refine ⟨_, rfl, ?_⟩
          refine iteNF ?_
          refine ⟨_, rfl, _, rfl, (by show 2 ≤ sizeLine; decide), fun p125 hp126 => ?_⟩
          obtain ⟨F127, O128, S129, h130⟩ := O98.putE hp126 (.tup [V.int y78.1, V.int y78.2])
          have f_worths := f_worths.mono S129
          have f_ties := f_ties.mono S129
          have h4 := S129 _ _ h4
          have hl5 := hl5.mono S129
          have h9 := S129 _ _ h9
          have hl10 := hl10.mono S129
          have h66 := h66.mono S129
          have h70 := S129 _ _ h70
          have hl71 := hl71.mono S129
          have h76 := S129 _ _ h76
          have hl77 := hl77.mono S129
          have S96 := S96.trans S129
          have hl97 := hl97.mono S129
          have r100 := r100.mono S129
          have h103 := S129 _ _ h103
          have h131 : R (a := (Int × Int)) F127 (.ref p125) (y78.1, y78.2) := R.t2 h130 R.int R.int
          refine ⟨_, (O128.at 0 rfl), (comp_len la93 hi89 hl77.len c83), ?_⟩
          exact ⟨F127, (), acc91 ++ [(y78.1, y78.2)], wa92 ++ [V.ref p125], S96, O128.set 0 (.lst (wa92 ++ [V.ref p125])) rfl, RL.snoc hl97 h131, by rw [List.length_append]; exact Nat.succ_le_succ la93, hk⟩
      rintro H133 ⟨F134, st135, acc136, wa137, S138, O139, hl140, la141, hL142⟩
      rw [drop_end hl77.len] at hL142
      have hk := hLd82 _ _ hL142
      have f_worths := f_worths.mono S138
      have f_ties := f_ties.mono S138
      have h4 := S138 _ _ h4
      have hl5 := hl5.mono S138
      have h9 := S138 _ _ h9
      have hl10 := hl10.mono S138
      have h66 := h66.mono S138
      have h70 := S138 _ _ h70
      have hl71 := hl71.mono S138
      have h76 := S138 _ _ h76
      have hl77 := hl77.mono S138
      obtain ⟨F144, O145, S146, h147⟩ := O139.frzE 0 rfl z132
      have f_worths := f_worths.mono S146
      have f_ties := f_ties.mono S146
      have h4 := S146 _ _ h4
      have hl5 := hl5.mono S146
      have h9 := S146 _ _ h9
      have hl10 := hl10.mono S146
      have h66 := h66.mono S146
      have h70 := S146 _ _ h70
      have hl71 := hl71.mono S146
      have h76 := S146 _ _ h76
      have hl77 := hl77.mono S146
      have hl140 := hl140.mono S146
      have h148 := R.lst (a := (Int × Int)) h147 hl140
      refine ⟨(by show 0 ≤ sizeLine; decide), fun p149 hp150 => ?_⟩
      have hl156 : RL (a := (Int × Int)) F144 ([]) ([] : List (Int × Int)) := RL.nil
      obtain ⟨F151, O152, S153, h154⟩ := O145.putE hp150 (.lst ([]))
      have f_worths := f_worths.mono S153
      have f_ties := f_ties.mono S153
      have h4 := S153 _ _ h4
      have hl5 := hl5.mono S153
      have h9 := S153 _ _ h9
      have hl10 := hl10.mono S153
      have h66 := h66.mono S153
      have h70 := S153 _ _ h70
      have hl71 := hl71.mono S153
      have h76 := S153 _ _ h76
      have hl77 := hl77.mono S153
      have h148 := h148.mono S153
      have hl156 := hl156.mono S153
      have h155 := R.lst (a := (Int × Int)) h154 hl156
      refine ⟨_, _, (R.mono h148 O152.s), (R.mono h155 O152.s), _, rfl, ?_⟩
      refine iteD (fun q157 => ?_) (fun q157 => ?_)
      · have hk := wp_if hk q157
        exact hk _ _ X_NoTree.g O152.kp
      · have hk := wp_el hk q157
        refine ⟨_, rfl, _, rfl, _, _, _, _, rfl, O152.pre0, f_ties, wp_call hk (fun r158 er159 hk F160 H161 g162 p163 w164 hn165 hf166 h167 hl168 => ?_) (fun n hn C H1 hC kp => hn C H1 hC (O152.kp0 kp))⟩
        have O169 := O152.call0 g162
        have S_ := g162.f
        have f_worths := f_worths.mono S_
        have f_ties := f_ties.mono S_
        have h4 := S_ _ _ h4
        have hl5 := hl5.mono S_
        have h9 := S_ _ _ h9
        have hl10 := hl10.mono S_
        have h66 := h66.mono S_
        have h70 := S_ _ _ h70
        have hl71 := hl71.mono S_
        have h76 := S_ _ _ h76
        have hl77 := hl77.mono S_
        have h148 := h148.mono S_
        have h155 := h155.mono S_
        have O170 := O152.got O169 rfl hn165 hf166 h167
        have z171 := O152.was hn165
        obtain ⟨F172, O173, S174, h175⟩ := O170.frzE 0 rfl z171
        have f_worths := f_worths.mono S174
        have f_ties := f_ties.mono S174
        have h4 := S174 _ _ h4
        have hl5 := hl5.mono S174
        have h9 := S174 _ _ h9
        have hl10 := hl10.mono S174
        have h66 := h66.mono S174
        have h70 := S174 _ _ h70
        have hl71 := hl71.mono S174
        have h76 := S174 _ _ h76
        have hl77 := hl77.mono S174
        have h148 := h148.mono S174
        have h155 := h155.mono S174
        have hl168 := hl168.mono S174
        have h176 := R.lst (a := (List Int)) h175 hl168
        refine ⟨_, _, _, _, rfl, O173.pre0, h176, wp_call hk (fun r177 er178 hk F179 H180 g181 p182 w183 hn184 hf185 h186 hl187 => ?_) (fun n hn C H1 hC kp => hn C H1 hC (O173.kp0 kp))⟩
        have O188 := O173.call0 g181
        have S_ := g181.f
        have f_worths := f_worths.mono S_
        have f_ties := f_ties.mono S_
        have h4 := S_ _ _ h4
        have hl5 := hl5.mono S_
        have h9 := S_ _ _ h9
        have hl10 := hl10.mono S_
        have h66 := h66.mono S_
        have h70 := S_ _ _ h70
        have hl71 := hl71.mono S_
        have h76 := S_ _ _ h76
        have hl77 := hl77.mono S_
        have h148 := h148.mono S_
        have h155 := h155.mono S_
        have h176 := h176.mono S_
        have O189 := O173.got O188 rfl hn184 hf185 h186
        have z190 := O173.was hn184
        obtain ⟨F191, O192, S193, h194⟩ := O189.frzE 0 rfl z190
        have f_worths := f_worths.mono S193
        have f_ties := f_ties.mono S193
        have h4 := S193 _ _ h4
        have hl5 := hl5.mono S193
        have h9 := S193 _ _ h9
        have hl10 := hl10.mono S193
        have h66 := h66.mono S193
        have h70 := S193 _ _ h70
        have hl71 := hl71.mono S193
        have h76 := S193 _ _ h76
        have hl77 := hl77.mono S193
        have h148 := h148.mono S193
        have h155 := h155.mono S193
        have h176 := h176.mono S193
        have hl187 := hl187.mono S193
        have h195 := R.lst (a := Int) h194 hl187
        obtain ⟨p196, w197, e198, h199, hl200⟩ := R.lst_ h195
        cases e198
        refine ⟨_, _, _, rfl, (.inl (O192.s _ _ h199)), hl200.len, _, rfl, _, _, rfl, rfl, _, rfl, ?_⟩
        refine iteD (fun q201 => ?_) (fun q201 => ?_)
        · have hk := wp_if hk q201
          exact hk _ _ X_NoTree.g O192.kp
        · have hk := wp_el hk q201
          obtain ⟨p205, w206, e207, h208, hl209⟩ := R.lst_ f_worths
          cases e207
          refine ⟨_, rfl, _, _, rfl, (.inl (SqLF O192.s h208)), fun p210 hp211 => ?_⟩
          have hl213 : RL (a := Int) F191 w206 x_worths := hl209
          have z214 := O192.was hp211
          have O212 := O192.new (o := .lst w206) hp211
          obtain ⟨p215, w216, e217, h218, hl219⟩ := R.lst_ f_ties
          cases e217
          refine ⟨_, rfl, _, _, _, rfl, (O212.s _ _ h218), (RL.mono hl219 O212.s), fun p220 hp221 => ?_⟩
          have hl223 : RL (a := (T3 Int Int Int)) F191 (sortV w216 x_ties) (sortT x_ties) := (RL.sorted hl219)
          have z224 := O212.was hp221
          have O222 := O212.new (o := .lst (sortV w216 x_ties)) hp221
          refine ⟨(by show 2 ≤ sizeLine; decide), fun p225 hp226 => ?_⟩
          obtain ⟨F227, O228, S229, h230⟩ := O222.putE hp226 (.tup [V.ref p210, V.ref p220])
          have f_worths := f_worths.mono S229
          have f_ties := f_ties.mono S229
          have h4 := S229 _ _ h4
          have hl5 := hl5.mono S229
          have h9 := S229 _ _ h9
          have hl10 := hl10.mono S229
          have h66 := h66.mono S229
          have h70 := S229 _ _ h70
          have hl71 := hl71.mono S229
          have h76 := S229 _ _ h76
          have hl77 := hl77.mono S229
          have h148 := h148.mono S229
          have h155 := h155.mono S229
          have h176 := h176.mono S229
          have h195 := h195.mono S229
          have h199 := S229 _ _ h199
          have hl200 := hl200.mono S229
          have h208 := S229 _ _ h208
          have hl209 := hl209.mono S229
          have hl213 := hl213.mono S229
          have h218 := S229 _ _ h218
          have hl219 := hl219.mono S229
          have hl223 := hl223.mono S229
          exact hk _ _  O228.g  _ _ _ _ _ z214 (O228.cf _ (List.mem_of_getElem? (i := 1) rfl)) (O228.at 1 rfl) hl213 z224 (O228.cf _ (List.mem_of_getElem? (i := 0) rfl)) (O228.at 0 rfl) hl223 (O228.ne 1 0 (by decide) rfl rfl) h230
abbrev s_law_stir : Stmt := top 17
theorem sc_law_stir : FnScope ["cell", "k", "number"] ["cell", "k"] (defScope s_law_stir) := ⟨rfl, rfl, rfl, by decide +kernel, rfl, by decide +kernel, by decide +kernel⟩
def m_law_stir (x_cell : Int) (x_k : Int) : M (Int) :=
chk (0 < ((10 : Int) ^ Int.toNat (40 : Int))) >>= fun _ =>
chk (CMulW (x_cell % ((10 : Int) ^ Int.toNat (40 : Int))) (48271 : Int)) >>= fun _ =>
chk (CMulW ((3 : Int) ^ Int.toNat (60 : Int)) (x_k + (1 : Int))) >>= fun _ =>
chk (CMulW (((3 : Int) ^ Int.toNat (60 : Int)) * (x_k + (1 : Int))) (x_k + (1 : Int))) >>= fun _ =>
ret ((((x_cell % ((10 : Int) ^ Int.toNat (40 : Int))) * (48271 : Int)) + ((((3 : Int) ^ Int.toNat (60 : Int)) * (x_k + (1 : Int))) * (x_k + (1 : Int)))) + x_k) >>= fun n5 =>
chk (CMulW n5 n5) >>= fun _ =>
chk (CMulW (69621 : Int) n5) >>= fun _ =>
ret ((n5 * n5) + ((69621 : Int) * n5)) >>= fun n9 =>
chk (CMulW n9 n9) >>= fun _ =>
chk (0 < (((10 : Int) ^ Int.toNat (61 : Int)) + (7 : Int))) >>= fun _ =>
chk (CDivW ((n9 * n9) % (((10 : Int) ^ Int.toNat (61 : Int)) + (7 : Int))) (8 : Int)) >>= fun _ =>
.ok (((n9 * n9) % (((10 : Int) ^ Int.toNat (61 : Int)) + (7 : Int))) / (8 : Int))
def sp_law_stir (mg : Str → Option Value) : Sp := fun vs H Q E => ∃ (F : Hp) (x_cell : Int) (x_k : Int), vs = [V.int x_cell, V.int x_k] ∧ Pre F [] H ∧
  wp (m_law_stir x_cell x_k) (fun r => ∀ (F' H' : Hp), Gr [] F H F' H' → Q (V.int r) H')
  (fun n => ∀ (C : Addr) (H' : Hp), mg (Str.ofString n) = some (.ref C) → Kp [] H H' → E (.ref C) none H')
set_option maxHeartbeats 2000000 in
theorem ok_law_stir (nb : Nb mg) (D : Df K mg "_law_stir" "_law_stir" s_law_stir ["cell", "k"]) : Ca P w K mg base "_law_stir" 1 ["cell", "k"] (sp_law_stir mg) := by
  refine Ca.mk' D sc_law_stir (fun vs H Q E h => ?_) (fun q_ f_ cdv A outer s H vs Q E hr h => ?_)
  · obtain ⟨F, _, _, rfl, _⟩ := h
    rfl
  · obtain ⟨F, x_cell, x_k, rfl, P0, hk⟩ := h
    have nd := sc_law_stir.nd
    have hu64 := hr.units
    have hu128 := hu128_of hr
    have O := P0.start
    refine ⟨_, (pss_cons (ps_set (i := 2) nd rfl (Or.inl rfl) (pe_op op_add (pe_op op_add (pe_op op_mulW (pe_op op_mod (pv 0) (pe_op op_pow pe_int pe_int)) pe_int) (pe_op op_mulW (pe_op op_mulW (pe_op op_pow pe_int pe_int) (pe_op op_add (pv 1) pe_int)) (pe_op op_add (pv 1) pe_int))) (pv 1)))
  (pss_cons (ps_set (i := 2) nd rfl (Or.inl rfl) (pe_op op_add (pe_op op_mulW (pv 2) (pv 2)) (pe_op op_mulW pe_int (pv 2))))
  (pss_one (ps_ret (pe_op op_fdivW (pe_op op_mod (pe_op op_mulW (pv 2) (pv 2)) (pe_op op_add (pe_op op_pow pe_int pe_int) pe_int)) pe_int))))), ?_⟩
    obtain ⟨c1, hk⟩ := wp_chk hk
    obtain ⟨c2, hk⟩ := wp_chk hk
    obtain ⟨c3, hk⟩ := wp_chk hk
    obtain ⟨c4, hk⟩ := wp_chk hk
    obtain ⟨n5, hn6, hk⟩ := wp_ret hk
    subst hn6
    obtain ⟨c7, hk⟩ := wp_chk hk
    obtain ⟨c8, hk⟩ := wp_chk hk
    obtain ⟨n9, hn10, hk⟩ := wp_ret hk
    subst hn10
    obtain ⟨c11, hk⟩ := wp_chk hk
    obtain ⟨c12, hk⟩ := wp_chk hk
    obtain ⟨c13, hk⟩ := wp_chk hk
    refine ⟨_, rfl, _, _, rfl, rfl, (by decide), _, _, rfl, rfl, c1, _, _, rfl, rfl, c2, _, _, rfl, rfl, (by decide), _, rfl, _, _, rfl, rfl, _, _, rfl, rfl, c3, _, rfl, _, _, rfl, rfl, _, _, rfl, rfl, c4, _, _, rfl, rfl, _, rfl, _, _, rfl, rfl, _, rfl, _, rfl, _, _, rfl, rfl, c7, _, rfl, _, _, rfl, rfl, c8, _, _, rfl, rfl, _, rfl, _, rfl, _, _, rfl, rfl, c11, _, _, rfl, rfl, (by decide), _, _, rfl, rfl, _, _, rfl, rfl, c12, _, _, rfl, rfl, c13, ?_⟩
    exact hk _ _  O.g 
abbrev s_law_deck : Stmt := top 18
theorem sc_law_deck : FnScope ["cell", "great"] ["cell"] (defScope s_law_deck) := ⟨rfl, rfl, rfl, by decide +kernel, rfl, by decide +kernel, by decide +kernel⟩
def m_law_deck (x_cell : Int) : M ((List Int)) :=
if ((10 : Int) ^ Int.toNat (18 : Int)) ≤ x_cell then (
chk (0 < (2147483629 : Int)) >>= fun _ =>
.ok ([(x_cell - ((10 : Int) ^ Int.toNat (18 : Int))), ((x_cell - ((10 : Int) ^ Int.toNat (18 : Int))) % (2147483629 : Int))]))
else (
m_law_stir x_cell (1 : Int) >>= fun r11 =>
chk (CMulW r11 ((10 : Int) ^ Int.toNat (60 : Int))) >>= fun _ =>
m_law_stir x_cell (2 : Int) >>= fun r18 =>
chk (CMulW ((r11 * ((10 : Int) ^ Int.toNat (60 : Int))) + r18) ((10 : Int) ^ Int.toNat (60 : Int))) >>= fun _ =>
m_law_stir x_cell (3 : Int) >>= fun r25 =>
chk (0 < (2147483628 : Int)) >>= fun _ =>
.ok ([((((r11 * ((10 : Int) ^ Int.toNat (60 : Int))) + r18) * ((10 : Int) ^ Int.toNat (60 : Int))) + r25), ((x_cell % (2147483628 : Int)) + (1 : Int))]))
def sp_law_deck (mg : Str → Option Value) : Sp := fun vs H Q E => ∃ (F : Hp) (x_cell : Int), vs = [V.int x_cell] ∧ Pre F [] H ∧
  wp (m_law_deck x_cell) (fun r => ∀ (F' H' : Hp), Gr [] F H F' H' → ∀ (p : Addr) (w : (List V)), H p = none → F' p = none → H' p = some (.lst w) → RL (a := Int) F' w r → Q (.ref p) H')
  (fun n => ∀ (C : Addr) (H' : Hp), mg (Str.ofString n) = some (.ref C) → Kp [] H H' → E (.ref C) none H')
set_option maxHeartbeats 2000000 in
theorem ok_law_deck (nb : Nb mg) (C_law_stir : Ca P w K mg base "_law_stir" 1 ["cell", "k"] (sp_law_stir mg)) (D : Df K mg "_law_deck" "_law_deck" s_law_deck ["cell"]) : Ca P w K mg base "_law_deck" 2 ["cell"] (sp_law_deck mg) := by
  obtain ⟨fa_law_stir, fd_law_stir, G_law_stir, M_law_stir, K_law_stir, B_law_stir⟩ := C_law_stir.ex
  refine Ca.mk' D sc_law_deck (fun vs H Q E h => ?_) (fun q_ f_ cdv A outer s H vs Q E hr h => ?_)
  · obtain ⟨F, _, rfl, _⟩ := h
    rfl
  · obtain ⟨F, x_cell, rfl, P0, hk⟩ := h
    have nd := sc_law_deck.nd
    have hu64 := hr.units
    have hu128 := hu128_of hr
    have O := P0.start
    refine ⟨_, (pss_cons (ps_if (pt_cmpR op_ge (pv 0) (pe_op op_pow pe_int pe_int) (nomark _)) (pss_one (ps_ret (pe_lst (pa_cons (pe_op op_sub (pv 0) (pe_op op_pow pe_int pe_int)) (pa_cons (pe_op op_mod (pe_op op_sub (pv 0) (pe_op op_pow pe_int pe_int)) pe_int) pa_nil))))) pss_nil)
  (pss_cons (ps_set (i := 1) nd rfl (Or.inl rfl) (pe_op op_add (pe_op op_mulW (pe_op op_add (pe_op op_mulW (pe_call G_law_stir (hr.mono (by decide)) rfl M_law_stir K_law_stir B_law_stir .nil (passes_call (takes_of rfl rfl rfl rfl) fun _ _ _ _ h => h) (pa_cons (pv 0) (pa_cons pe_int pa_nil))) (pe_op op_pow pe_int pe_int)) (pe_call G_law_stir (hr.mono (by decide)) rfl M_law_stir K_law_stir B_law_stir .nil (passes_call (takes_of rfl rfl rfl rfl) fun _ _ _ _ h => h) (pa_cons (pv 0) (pa_cons pe_int pa_nil)))) (pe_op op_pow pe_int pe_int)) (pe_call G_law_stir (hr.mono (by decide)) rfl M_law_stir K_law_stir B_law_stir .nil (passes_call (takes_of rfl rfl rfl rfl) fun _ _ _ _ h => h) (pa_cons (pv 0) (pa_cons pe_int pa_nil)))))
  (pss_one (ps_ret (pe_lst (pa_cons (pv 1) (pa_cons (pe_op op_add (pe_op op_mod (pv 0) pe_int) pe_int) pa_nil))))))), ?_⟩
    refine ⟨_, rfl, _, _, rfl, rfl, (by decide), _, _, rfl, rfl, _, rfl, ?_⟩
    refine iteD (fun q1 => ?_) (fun q1 => ?_)
    · have hk := wp_if hk q1
      obtain ⟨c5, hk⟩ := wp_chk hk
      refine ⟨_, rfl, _, _, rfl, rfl, (by decide), _, _, rfl, rfl, _, rfl, _, _, rfl, rfl, (by decide), _, _, rfl, rfl, _, _, rfl, rfl, c5, (by show 2 ≤ sizeLine; decide), fun p6 hp7 => ?_⟩
      have hl9 : RL (a := Int) F ([V.int (x_cell - ((10 : Int) ^ Int.toNat (18 : Int))), V.int ((x_cell - ((10 : Int) ^ Int.toNat (18 : Int))) % (2147483629 : Int))]) ([(x_cell - ((10 : Int) ^ Int.toNat (18 : Int))), ((x_cell - ((10 : Int) ^ Int.toNat (18 : Int))) % (2147483629 : Int))]) := RL.cons R.int (RL.cons R.int RL.nil)
      have z10 := O.was hp7
      have O8 := O.new (o := .lst ([V.int (x_cell - ((10 : Int) ^ Int.toNat (18 : Int))), V.int ((x_cell - ((10 : Int) ^ Int.toNat (18 : Int))) % (2147483629 : Int))])) hp7
      exact hk _ _  O8.g  _ _ z10 (O8.cf _ (List.mem_of_getElem? (i := 0) rfl)) (O8.at 0 rfl) hl9
    · have hk := wp_el hk q1
      refine ⟨_, rfl, _, _, _, rfl, O.pre0, wp_call hk (fun r11 er12 hk F13 H14 g15 => ?_) (fun n hn C H1 hC kp => hn C H1 hC (O.kp0 kp))⟩
      have O16 := O.call0 g15
      have S_ := g15.f
      obtain ⟨c17, hk⟩ := wp_chk hk
      refine ⟨_, _, rfl, rfl, (by decide), _, _, rfl, rfl, c17, _, rfl, _, _, _, rfl, O16.pre0, wp_call hk (fun r18 er19 hk F20 H21 g22 => ?_) (fun n hn C H1 hC kp => hn C H1 hC (O16.kp0 kp))⟩
      have O23 := O16.call0 g22
      have S_ := g22.f
      obtain ⟨c24, hk⟩ := wp_chk hk
      refine ⟨_, _, rfl, rfl, _, _, rfl, rfl, (by decide), _, _, rfl, rfl, c24, _, rfl, _, _, _, rfl, O23.pre0, wp_call hk (fun r25 er26 hk F27 H28 g29 => ?_) (fun n hn C H1 hC kp => hn C H1 hC (O23.kp0 kp))⟩
      have O30 := O23.call0 g29
      have S_ := g29.f
      obtain ⟨c33, hk⟩ := wp_chk hk
      refine ⟨_, _, rfl, rfl, _, rfl, _, rfl, _, _, rfl, rfl, c33, _, _, rfl, rfl, (by show 2 ≤ sizeLine; decide), fun p34 hp35 => ?_⟩
      have hl37 : RL (a := Int) F27 ([V.int ((((r11 * ((10 : Int) ^ Int.toNat (60 : Int))) + r18) * ((10 : Int) ^ Int.toNat (60 : Int))) + r25), V.int ((x_cell % (2147483628 : Int)) + (1 : Int))]) ([((((r11 * ((10 : Int) ^ Int.toNat (60 : Int))) + r18) * ((10 : Int) ^ Int.toNat (60 : Int))) + r25), ((x_cell % (2147483628 : Int)) + (1 : Int))]) := RL.cons R.int (RL.cons R.int RL.nil)
      have z38 := O30.was hp35
      have O36 := O30.new (o := .lst ([V.int ((((r11 * ((10 : Int) ^ Int.toNat (60 : Int))) + r18) * ((10 : Int) ^ Int.toNat (60 : Int))) + r25), V.int ((x_cell % (2147483628 : Int)) + (1 : Int))])) hp35
      exact hk _ _  O36.g  _ _ z38 (O36.cf _ (List.mem_of_getElem? (i := 0) rfl)) (O36.at 0 rfl) hl37
abbrev s_law_take : Stmt := top 19
theorem sc_law_take : FnScope ["deck", "many", "taken"] ["deck", "many"] (defScope s_law_take) := ⟨rfl, rfl, rfl, by decide +kernel, rfl, by decide +kernel, by decide +kernel⟩
def m_law_take (x_deck : (List Int)) (x_many : Int) : M (Int × (List Int)) :=
opt (atI x_deck (0 : Int)) >>= fun y1 =>
if y1 = (0 : Int) then (
opt (atI x_deck (1 : Int)) >>= fun y7 =>
chk (CMulW y7 (48271 : Int)) >>= fun _ =>
opt (atI x_deck (1 : Int)) >>= fun y13 =>
chk (CDivW y13 (7 : Int)) >>= fun _ =>
chk (0 < (2147483647 : Int)) >>= fun _ =>
setI x_deck (1 : Int) (((y7 * (48271 : Int)) + (y13 / (7 : Int))) % (2147483647 : Int)) >>= fun z22 =>
opt (atI z22 (1 : Int)) >>= fun y25 =>
chk (CMulW y25 (69621 : Int)) >>= fun _ =>
chk (0 < (2147483563 : Int)) >>= fun _ =>
chk (CDivW ((y25 * (69621 : Int)) % (2147483563 : Int)) (8 : Int)) >>= fun _ =>
chk (0 < x_many) >>= fun _ =>
.ok (((((y25 * (69621 : Int)) % (2147483563 : Int)) / (8 : Int)) % x_many), z22))
else (
opt (atI x_deck (0 : Int)) >>= fun y34 =>
chk (0 < x_many) >>= fun _ =>
opt (atI x_deck (0 : Int)) >>= fun y40 =>
chk (CDivW y40 x_many) >>= fun _ =>
setI x_deck (0 : Int) (y40 / x_many) >>= fun z48 =>
.ok ((y34 % x_many), z48))
def sp_law_take (mg : Str → Option Value) : Sp := fun vs H Q E => ∃ (F : Hp) (a_deck : Addr) (w_deck : (List V)) (x_deck : (List Int)) (x_many : Int), vs = [.ref a_deck, V.int x_many] ∧ Pre F [(a_deck, .lst w_deck)] H ∧ RL (a := Int) F w_deck x_deck ∧
  wp (m_law_take x_deck x_many) (fun r => ∀ (F' H' : Hp) (w0 : (List V)), Gr [a_deck] F H F' H' → H' a_deck = some (.lst w0) → RL (a := Int) F' w0 r.2 → Q (V.int r.1) H')
  (fun n => ∀ (C : Addr) (H' : Hp), mg (Str.ofString n) = some (.ref C) → Kp [a_deck] H H' → E (.ref C) none H')
set_option maxHeartbeats 2000000 in
theorem ok_law_take (nb : Nb mg) (D : Df K mg "_law_take" "_law_take" s_law_take ["deck", "many"]) : Ca P w K mg base "_law_take" 1 ["deck", "many"] (sp_law_take mg) := by
  refine Ca.mk' D sc_law_take (fun vs H Q E h => ?_) (fun q_ f_ cdv A outer s H vs Q E hr h => ?_)
  · obtain ⟨F, _, _, _, _, rfl, _⟩ := h
    rfl
  · obtain ⟨F, a_deck, w_deck, x_deck, x_many, rfl, P0, f_deck, hk⟩ := h
    have nd := sc_law_take.nd
    have hu64 := hr.units
    have hu128 := hu128_of hr
    have O := P0.start
    refine ⟨_, (pss_cons (ps_if (pt_cmpR (op_eqT Int hu64) (pe_ix (ixListK (K := K) rfl) (pv 0) pe_int (fun _ _ => rfl)) pe_int (nomark _)) (pss_cons (ps_asg (pe_op op_mod (pe_op op_add (pe_op op_mulW (pe_ix (ixListK (K := K) rfl) (pv 0) pe_int (fun _ _ => rfl)) pe_int) (pe_op op_fdivW (pe_ix (ixListK (K := K) rfl) (pv 0) pe_int (fun _ _ => rfl)) pe_int)) pe_int) (pg_sub (pv 0) pe_int set_list))
  (pss_one (ps_ret (pe_op op_mod (pe_op op_fdivW (pe_op op_mod (pe_op op_mulW (pe_ix (ixListK (K := K) rfl) (pv 0) pe_int (fun _ _ => rfl)) pe_int) pe_int) pe_int) (pv 1))))) pss_nil)
  (pss_cons (ps_set (i := 2) nd rfl (Or.inl rfl) (pe_op op_mod (pe_ix (ixListK (K := K) rfl) (pv 0) pe_int (fun _ _ => rfl)) (pv 1)))
  (pss_cons (ps_asg (pe_op op_fdivW (pe_ix (ixListK (K := K) rfl) (pv 0) pe_int (fun _ _ => rfl)) (pv 1)) (pg_sub (pv 0) pe_int set_list))
  (pss_one (ps_ret (pv 2)))))), ?_⟩
    obtain ⟨y1, e2, hk⟩ := wp_opt hk
    obtain ⟨w3, e4, r5⟩ := f_deck.atI e2
    obtain rfl := R.int_ r5
    refine ⟨_, rfl, _, _, _, _, rfl, rfl, (SqL.of (O.at 0 rfl)), e4, _, _, R.int, R.int, _, rfl, ?_⟩
    refine iteD (fun q6 => ?_) (fun q6 => ?_)
    · have hk := wp_if hk q6
      obtain ⟨y7, e8, hk⟩ := wp_opt hk
      obtain ⟨w9, e10, r11⟩ := f_deck.atI e8
      obtain rfl := R.int_ r11
      obtain ⟨c12, hk⟩ := wp_chk hk
      obtain ⟨y13, e14, hk⟩ := wp_opt hk
      obtain ⟨w15, e16, r17⟩ := f_deck.atI e14
      obtain rfl := R.int_ r17
      obtain ⟨c18, hk⟩ := wp_chk hk
      obtain ⟨c19, hk⟩ := wp_chk hk
      obtain ⟨j20, e21, hk⟩ := wp_setI hk
      refine ⟨_, rfl, _, _, _, _, rfl, rfl, (SqL.of (O.at 0 rfl)), e10, _, _, rfl, rfl, c12, _, rfl, _, _, _, _, rfl, rfl, (SqL.of (O.at 0 rfl)), e16, _, _, rfl, rfl, c18, _, _, rfl, rfl, _, _, rfl, rfl, c19, _, rfl, _, _, _, _, rfl, rfl, (O.at 0 rfl), (by rw [f_deck.len]; exact e21), ?_⟩
      have O23 := O.set 0 (.lst (w_deck.set j20 (V.int (((y7 * (48271 : Int)) + (y13 / (7 : Int))) % (2147483647 : Int))))) rfl
      have hl24 : RL (a := Int) F (w_deck.set j20 (V.int (((y7 * (48271 : Int)) + (y13 / (7 : Int))) % (2147483647 : Int)))) (x_deck.set j20 (((y7 * (48271 : Int)) + (y13 / (7 : Int))) % (2147483647 : Int))) := RL.set j20 f_deck R.int
      obtain ⟨y25, e26, hk⟩ := wp_opt hk
      obtain ⟨w27, e28, r29⟩ := hl24.atI e26
      obtain rfl := R.int_ r29
      obtain ⟨c30, hk⟩ := wp_chk hk
      obtain ⟨c31, hk⟩ := wp_chk hk
      obtain ⟨c32, hk⟩ := wp_chk hk
      obtain ⟨c33, hk⟩ := wp_chk hk
      refine ⟨_, rfl, _, _, _, _, rfl, rfl, (SqL.of (O23.at 0 rfl)), e28, _, _, rfl, rfl, c30, _, _, rfl, rfl, c31, _, _, rfl, rfl, c32, _, rfl, _, _, rfl, rfl, c33, ?_⟩
      exact hk _ _ (w_deck.set j20 (V.int (((y7 * (48271 : Int)) + (y13 / (7 : Int))) % (2147483647 : Int)))) O23.g (O23.at 0 rfl) hl24
    · have hk := wp_el hk q6
      obtain ⟨y34, e35, hk⟩ := wp_opt hk
      obtain ⟨w36, e37, r38⟩ := f_deck.atI e35
      obtain rfl := R.int_ r38
      obtain ⟨c39, hk⟩ := wp_chk hk
      obtain ⟨y40, e41, hk⟩ := wp_opt hk
      obtain ⟨w42, e43, r44⟩ := f_deck.atI e41
      obtain rfl := R.int_ r44
      obtain ⟨c45, hk⟩ := wp_chk hk
      obtain ⟨j46, e47, hk⟩ := wp_setI hk
      refine ⟨_, rfl, _, _, _, _, rfl, rfl, (SqL.of (O.at 0 rfl)), e37, _, rfl, _, _, rfl, rfl, c39, _, rfl, _, _, _, _, rfl, rfl, (SqL.of (O.at 0 rfl)), e43, _, rfl, _, _, rfl, rfl, c45, _, rfl, _, _, _, _, rfl, rfl, (O.at 0 rfl), (by rw [f_deck.len]; exact e47), ?_⟩
      have O49 := O.set 0 (.lst (w_deck.set j46 (V.int (y40 / x_many)))) rfl
      have hl50 : RL (a := Int) F (w_deck.set j46 (V.int (y40 / x_many))) (x_deck.set j46 (y40 / x_many)) := RL.set j46 f_deck R.int
      refine ⟨_, rfl, ?_⟩
      exact hk _ _ (w_deck.set j46 (V.int (y40 / x_many))) O49.g (O49.at 0 rfl) hl50
abbrev s_law_far : Stmt := top 20
theorem sc_law_far : FnScope ["deck"] ["deck"] (defScope s_law_far) := ⟨rfl, rfl, rfl, by decide +kernel, rfl, by decide +kernel, by decide +kernel⟩
def m_law_far (x_deck : (List Int)) : M (Int × (List Int)) :=
m_law_take x_deck (3 : Int) >>= fun r9 =>
opt (atI ([(4 : Int), (1000 : Int), ((10 : Int) ^ Int.toNat (29 : Int))]) r9.1) >>= fun y23 =>
.ok (y23, r9.2)
def sp_law_far (mg : Str → Option Value) : Sp := fun vs H Q E => ∃ (F : Hp) (a_deck : Addr) (w_deck : (List V)) (x_deck : (List Int)), vs = [.ref a_deck] ∧ Pre F [(a_deck, .lst w_deck)] H ∧ RL (a := Int) F w_deck x_deck ∧
  wp (m_law_far x_deck) (fun r => ∀ (F' H' : Hp) (w0 : (List V)), Gr [a_deck] F H F' H' → H' a_deck = some (.lst w0) → RL (a := Int) F' w0 r.2 → Q (V.int r.1) H')
  (fun n => ∀ (C : Addr) (H' : Hp), mg (Str.ofString n) = some (.ref C) → Kp [a_deck] H H' → E (.ref C) none H')
set_option maxHeartbeats 2000000 in
theorem ok_law_far (nb : Nb mg) (C_law_take : Ca P w K mg base "_law_take" 1 ["deck", "many"] (sp_law_take mg)) (D : Df K mg "_law_far" "_law_far" s_law_far ["deck"]) : Ca P w K mg base "_law_far" 2 ["deck"] (sp_law_far mg) := by
  obtain ⟨fa_law_take, fd_law_take, G_law_take, M_law_take, K_law_take, B_law_take⟩ := C_law_take.ex
  refine Ca.mk' D sc_law_far (fun vs H Q E h => ?_) (fun q_ f_ cdv A outer s H vs Q E hr h => ?_)
  · obtain ⟨F, _, _, _, rfl, _⟩ := h
    rfl
  · obtain ⟨F, a_deck, w_deck, x_deck, rfl, P0, f_deck, hk⟩ := h
    have nd := sc_law_far.nd
    have hu64 := hr.units
    have hu128 := hu128_of hr
    have O := P0.start
    refine ⟨_, (pss_one (ps_ret (pe_ix (ixListK (K := K) rfl) (pe_lst (pa_cons pe_int (pa_cons pe_int (pa_cons (pe_op op_pow pe_int pe_int) pa_nil)))) (pe_call G_law_take (hr.mono (by decide)) rfl M_law_take K_law_take B_law_take .nil (passes_call (takes_of rfl rfl rfl rfl) fun _ _ _ _ h => h) (pa_cons (pv 0) (pa_cons pe_int pa_nil))) (fun _ _ => rfl)))), ?_⟩
    refine ⟨_, _, rfl, rfl, (by decide), (by show 3 ≤ sizeLine; decide), fun p1 hp2 => ?_⟩
    have hl8 : RL (a := Int) F ([V.int (4 : Int), V.int (1000 : Int), V.int ((10 : Int) ^ Int.toNat (29 : Int))]) ([(4 : Int), (1000 : Int), ((10 : Int) ^ Int.toNat (29 : Int))]) := RL.cons R.int (RL.cons R.int (RL.cons R.int RL.nil))
    obtain ⟨F3, O4, S5, h6⟩ := O.putE hp2 (.lst ([V.int (4 : Int), V.int (1000 : Int), V.int ((10 : Int) ^ Int.toNat (29 : Int))]))
    have f_deck := f_deck.mono S5
    have hl8 := hl8.mono S5
    have h7 := R.lst (a := Int) h6 hl8
    refine ⟨_, rfl, _, _, _, _, _, rfl, (O4.pre1 0 rfl), f_deck, wp_call hk (fun r9 er10 hk F11 H12 w14 g13 h15 hl16 => ?_) (fun n hn C H1 hC kp => hn C H1 hC (O4.kp1 kp 0 rfl))⟩
    have O17 := O4.call1 g13 0 rfl h15
    have S_ := g13.f
    have h7 := h7.mono S_
    obtain ⟨p18, w19, e20, h21, hl22⟩ := R.lst_ h7
    cases e20
    obtain ⟨y23, e24, hk⟩ := wp_opt hk
    obtain ⟨w25, e26, r27⟩ := hl22.atI e24
    obtain rfl := R.int_ r27
    refine ⟨_, _, _, _, rfl, rfl, (SqLF O17.s h21), e26, ?_⟩
    exact hk _ _ w14 O17.g (O17.at 0 rfl) hl16
abbrev s_law_number : Stmt := top 21
theorem sc_law_number : FnScope ["deck", "far"] ["deck", "far"] (defScope s_law_number) := ⟨rfl, rfl, rfl, by decide +kernel, rfl, by decide +kernel, by decide +kernel⟩
def m_law_number (x_deck : (List Int)) (x_far : Int) : M (Int × (List Int)) :=
chk (CMulW (2 : Int) x_far) >>= fun _ =>
m_law_take x_deck (((2 : Int) * x_far) + (1 : Int)) >>= fun r2 =>
.ok ((r2.1 - x_far), r2.2)
def sp_law_number (mg : Str → Option Value) : Sp := fun vs H Q E => ∃ (F : Hp) (a_deck : Addr) (w_deck : (List V)) (x_deck : (List Int)) (x_far : Int), vs = [.ref a_deck, V.int x_far] ∧ Pre F [(a_deck, .lst w_deck)] H ∧ RL (a := Int) F w_deck x_deck ∧
  wp (m_law_number x_deck x_far) (fun r => ∀ (F' H' : Hp) (w0 : (List V)), Gr [a_deck] F H F' H' → H' a_deck = some (.lst w0) → RL (a := Int) F' w0 r.2 → Q (V.int r.1) H')
  (fun n => ∀ (C : Addr) (H' : Hp), mg (Str.ofString n) = some (.ref C) → Kp [a_deck] H H' → E (.ref C) none H')
set_option maxHeartbeats 2000000 in
theorem ok_law_number (nb : Nb mg) (C_law_take : Ca P w K mg base "_law_take" 1 ["deck", "many"] (sp_law_take mg)) (D : Df K mg "_law_number" "_law_number" s_law_number ["deck", "far"]) : Ca P w K mg base "_law_number" 2 ["deck", "far"] (sp_law_number mg) := by
  obtain ⟨fa_law_take, fd_law_take, G_law_take, M_law_take, K_law_take, B_law_take⟩ := C_law_take.ex
  refine Ca.mk' D sc_law_number (fun vs H Q E h => ?_) (fun q_ f_ cdv A outer s H vs Q E hr h => ?_)
  · obtain ⟨F, _, _, _, _, rfl, _⟩ := h
    rfl
  · obtain ⟨F, a_deck, w_deck, x_deck, x_far, rfl, P0, f_deck, hk⟩ := h
    have nd := sc_law_number.nd
    have hu64 := hr.units
    have hu128 := hu128_of hr
    have O := P0.start
    refine ⟨_, (pss_one (ps_ret (pe_op op_sub (pe_call G_law_take (hr.mono (by decide)) rfl M_law_take K_law_take B_law_take .nil (passes_call (takes_of rfl rfl rfl rfl) fun _ _ _ _ h => h) (pa_cons (pv 0) (pa_cons (pe_op op_add (pe_op op_mulW pe_int (pv 1)) pe_int) pa_nil))) (pv 1)))), ?_⟩
    obtain ⟨c1, hk⟩ := wp_chk hk
    refine ⟨_, rfl, _, rfl, _, _, rfl, rfl, c1, _, _, rfl, rfl, _, _, _, _, _, rfl, (O.pre1 0 rfl), f_deck, wp_call hk (fun r2 er3 hk F4 H5 w7 g6 h8 hl9 => ?_) (fun n hn C H1 hC kp => hn C H1 hC (O.kp1 kp 0 rfl))⟩
    have O10 := O.call1 g6 0 rfl h8
    have S_ := g6.f
    refine ⟨_, rfl, _, _, rfl, rfl, ?_⟩
    exact hk _ _ w7 O10.g (O10.at 0 rfl) hl9
abbrev s_law_order : Stmt := top 22
theorem sc_law_order : FnScope ["deck", "many", "left", "found", "k"] ["deck", "many"] (defScope s_law_order) := ⟨rfl, rfl, rfl, by decide +kernel, rfl, by decide +kernel, by decide +kernel⟩
def m_law_order (x_deck : (List Int)) (x_many : Int) : M ((List Int) × (List Int)) :=
chk (okR x_many) >>= fun _ =>
chk (okR x_many) >>= fun _ =>
loopN (fun (y14 : Int) (st26 : (List Int) × (List Int) × (List Int)) =>
m_law_take st26.2.2 (st26.2.1.length : Int) >>= fun r36 =>
popI st26.2.1 r36.1 >>= fun t54 =>
appL st26.1 t54.1 >>= fun _ =>
.ok ((st26.1 ++ [t54.1]), t54.2, r36.2)) (rangeL 0 x_many) (([] : List Int), (rangeL 0 x_many), x_deck) >>= fun st64 =>
.ok (st64.1, st64.2.2)
def sp_law_order (mg : Str → Option Value) : Sp := fun vs H Q E => ∃ (F : Hp) (a_deck : Addr) (w_deck : (List V)) (x_deck : (List Int)) (x_many : Int), vs = [.ref a_deck, V.int x_many] ∧ Pre F [(a_deck, .lst w_deck)] H ∧ RL (a := Int) F w_deck x_deck ∧
  wp (m_law_order x_deck x_many) (fun r => ∀ (F' H' : Hp) (w0 : (List V)), Gr [a_deck] F H F' H' → H' a_deck = some (.lst w0) → RL (a := Int) F' w0 r.2 → ∀ (p : Addr) (w : (List V)), H p = none → F' p = none → H' p = some (.lst w) → RL (a := Int) F' w r.1 → Q (.ref p) H')
  (fun n => ∀ (C : Addr) (H' : Hp), mg (Str.ofString n) = some (.ref C) → Kp [a_deck] H H' → E (.ref C) none H')
set_option maxHeartbeats 2000000 in
theorem ok_law_order (nb : Nb mg) (C_law_take : Ca P w K mg base "_law_take" 1 ["deck", "many"] (sp_law_take mg)) (D : Df K mg "_law_order" "_law_order" s_law_order ["deck", "many"]) : Ca P w K mg base "_law_order" 2 ["deck", "many"] (sp_law_order mg) := by
  obtain ⟨fa_law_take, fd_law_take, G_law_take, M_law_take, K_law_take, B_law_take⟩ := C_law_take.ex
  refine Ca.mk' D sc_law_order (fun vs H Q E h => ?_) (fun q_ f_ cdv A outer s H vs Q E hr h => ?_)
  · obtain ⟨F, _, _, _, _, rfl, _⟩ := h
    rfl
  · obtain ⟨F, a_deck, w_deck, x_deck, x_many, rfl, P0, f_deck, hk⟩ := h
    have nd := sc_law_order.nd
    have hu64 := hr.units
    have hu128 := hu128_of hr
    have O := P0.start
    refine ⟨_, (pss_cons (ps_set (i := 2) nd rfl (Or.inl rfl) (pe_listRg rfl (by rfl) nb.b_list (prg_1 (by rfl) nb.b_range (pv 1))))
  (pss_cons (ps_set (i := 3) nd rfl (Or.inl rfl) (pe_lst pa_nil))
  (pss_cons (ps_for (passes_of rfl) rfl (pi_range1 rfl nb.b_range (pa_cons (pv 1) pa_nil)) (pg_name (i := 4) nd rfl (Or.inl rfl)) (pss_one (ps_expr (pe_bm PySem.F.plainAttrs_list PySem.F.slot_list_append PySem.F.type_list_append mt_append (pv 3) (pa_cons (pe_bm PySem.F.plainAttrs_list PySem.F.slot_list_pop PySem.F.type_list_pop mt_popAt (pv 2) (pa_cons (pe_call G_law_take (hr.mono (by decide)) rfl M_law_take K_law_take B_law_take .nil (passes_call (takes_of rfl rfl rfl rfl) fun _ _ _ _ h => h) (pa_cons (pv 0) (pa_cons (pe_callB call_lenT (by rfl) nb.b_len PySem.boot_len (pa_cons (pv 2) pa_nil)) pa_nil))) pa_nil)) pa_nil)))))
  (pss_one (ps_ret (pv 3)))))), ?_⟩
    obtain ⟨c2, hk⟩ := wp_chk hk
    refine ⟨_, rfl, _, rfl, c2.rg1, fun p3 hp4 => ?_⟩
    have hl6 : RL (a := Int) F (rgV 0 x_many) (rangeL 0 x_many) := RL.rg
    have z7 := O.was hp4
    have O5 := O.new (o := .lst (rgV 0 x_many)) hp4
    refine ⟨(by show 0 ≤ sizeLine; decide), fun p9 hp10 => ?_⟩
    have hl12 : RL (a := Int) F ([]) ([] : List Int) := RL.nil
    have z13 := O5.was hp10
    have O11 := O5.new (o := .lst ([])) hp10
    obtain ⟨c15, hk⟩ := wp_chk hk
    obtain ⟨L16, hL17, hLs18, hLd19⟩ := loopN_L hk
    refine ⟨_, rfl, _, rfl, c15.lo, c15.hi, ?_⟩
    refine for_range (lo := 0) (n := (x_many).toNat) (fun i σ H => ∃ (F_ : Hp) (st : (List Int) × (List Int) × (List Int)) (w_0 : (List V)) (w_1 : (List V)) (w_2 : (List V)) (t_0 : Option V), σ = [some (V.ref a_deck), some (V.int x_many), some (V.ref p3), some (V.ref p9), t_0] ∧ Same F F_ ∧ Ow _ F_ [(p9, .lst w_0), (p3, .lst w_1), (a_deck, .lst w_2)] H ∧ RL (a := Int) F_ w_0 st.1 ∧ RL (a := Int) F_ w_1 st.2.1 ∧ RL (a := Int) F_ w_2 st.2.2 ∧ L16 (List.drop i (rangeL 0 x_many)) st) ⟨F, (([] : List Int), (rangeL 0 x_many), x_deck), [], (rgV 0 x_many), w_deck, none, rfl, Same.refl _, O11, hl12, hl6, f_deck, hL17⟩ ?_ ?_
    · rintro i20 sg22 H23 hi24 ⟨F34, st26, w27, w28, w29, t33, rfl, S25, O35, hl30, hl31, hl32, hL17⟩
      rw [rangeL_get0 hi24] at hL17
      have hk := hLs18 _ _ _ hL17
      obtain ⟨y14, he_⟩ : ∃ z_, z_ = 0 + (i20 : Int) := ⟨_, rfl⟩
      try rw [← he_] at hk
      rw [← he_]
      refine ⟨_, rfl, (.inl ⟨rfl, _, SqL.of (O35.at 0 rfl)⟩), _, rfl, (.inl ⟨rfl, _, SqL.of (O35.at 1 rfl)⟩), _, rfl, _, rfl, _, _, _, rfl, (.inl (O35.at 1 rfl)), hl31.len, _, _, _, _, _, rfl, (O35.pre1 2 rfl), hl32, wp_call hk (fun r36 er37 hk F38 H39 w41 g40 h42 hl43 => ?_) (fun n hn C H1 hC kp => hn C H1 hC (O35.kp1 kp 2 rfl))⟩
      have O44 := O35.call1 g40 2 rfl h42
      have S_ := g40.f
      have hl30 := hl30.mono S_
      have hl31 := hl31.mono S_
      have S25 := S25.trans S_
      obtain ⟨j45, y46, e47, c48, c49, e50, hk⟩ := wp_popI hk
      obtain ⟨w51, e52, r53⟩ := hl31.get e50
      refine ⟨_, _, _, _, _, rfl, rfl, (O44.at 1 rfl), c48, c49, (by rw [hl31.len]; exact e47), e52, ?_⟩
      obtain rfl := R.int_ r53
      have O55 := O44.set 1 (.lst (w28.eraseIdx j45)) rfl
      have hl56 : RL (a := Int) F38 (w28.eraseIdx j45) (st26.2.1.eraseIdx j45) := RL.erase j45 hl31
      obtain ⟨c57, hk⟩ := wp_appL hk
      refine ⟨_, _, _, rfl, rfl, (O55.at 0 rfl), (by rw [hl30.len]; exact c57), ?_⟩
      have O59 := O55.set 0 (.lst (w27 ++ [V.int y46])) rfl
      have hl60 : RL (a := Int) F38 (w27 ++ [V.int y46]) (st26.1 ++ [y46]) := RL.snoc hl30 R.int
      exact ⟨F38, ((st26.1 ++ [y46]), st26.2.1.eraseIdx j45, r36.2), (w27 ++ [V.int y46]), (w28.eraseIdx j45), w41, some (V.int y14), rfl, S25, O59, hl60, hl56, hl43, hk⟩
    rintro sg61 H62 ⟨F73, st64, w66, w67, w68, t72, rfl, S63, O74, hl69, hl70, hl71, hL65⟩
    rw [rangeL_end0] at hL65
    have hk := hLd19 _ hL65
    refine ⟨_, rfl, ?_⟩
    exact hk _ _ w68 O74.g (O74.at 2 rfl) hl71 _ _ z13 (O74.cf _ (List.mem_of_getElem? (i := 0) rfl)) (O74.at 0 rfl) hl69
abbrev s_law_tree : Stmt := top 23
theorem sc_law_tree : FnScope ["deck", "most", "far", "many", "order", "kind", "ties", "k", "at", "pair"] ["deck", "most", "far"] (defScope s_law_tree) := ⟨rfl, rfl, rfl, by decide +kernel, rfl, by decide +kernel, by decide +kernel⟩
def m_law_tree (x_deck : (List Int)) (x_most : Int) (x_far : Int) : M (((List Int) × (List (T3 Int Int Int))) × (List Int)) :=
m_law_take x_deck x_most >>= fun r1 =>
m_law_order r1.2 ((1 : Int) + r1.1) >>= fun r10 =>
m_law_take r10.2 (5 : Int) >>= fun r32 =>
chk (okR (1 : Int)) >>= fun _ =>
chk (okR ((1 : Int) + r1.1)) >>= fun _ =>
loopN (fun (y47 : Int) (st60 : (List Int) × (List (T3 Int Int Int))) =>
m_law_take st60.1 y47 >>= fun r70 =>
m_law_take r70.2 (3 : Int) >>= fun r79 =>
m_law_take r79.2 y47 >>= fun r88 =>
opt (atI ([r70.1, (y47 - (1 : Int)), (0 : Int), (if ((y47 - (1 : Int)) - r79.1) > (0 : Int) then ((y47 - (1 : Int)) - r79.1) else (0 : Int)), r88.1]) r32.1) >>= fun y110 =>
opt (atI r10.1 y47) >>= fun y120 =>
opt (atI r10.1 y110) >>= fun y130 =>
opt (atI (sortT ([y120, y130])) (0 : Int)) >>= fun y161 =>
opt (atI (sortT ([y120, y130])) (1 : Int)) >>= fun y171 =>
m_law_number r88.2 x_far >>= fun r176 =>
appL st60.2 (T3.mk y161 y171 r176.1) >>= fun _ =>
.ok (r176.2, (st60.2 ++ [(T3.mk y161 y171 r176.1)]))) (rangeL (1 : Int) ((1 : Int) + r1.1)) (r32.2, ([] : List (T3 Int Int Int))) >>= fun st199 =>
chk (okR ((1 : Int) + r1.1)) >>= fun _ =>
compS (fun (y210 : Int) (st228 : (List Int)) =>
m_law_number st228 x_far >>= fun r234 =>
.ok (some r234.1, r234.2)) (rangeL 0 ((1 : Int) + r1.1)) st199.1 >>= fun q256 =>
.ok ((q256.1, (sortT st199.2)), q256.2)
def sp_law_tree (mg : Str → Option Value) : Sp := fun vs H Q E => ∃ (F : Hp) (a_deck : Addr) (w_deck : (List V)) (x_deck : (List Int)) (x_most : Int) (x_far : Int), vs = [.ref a_deck, V.int x_most, V.int x_far] ∧ Pre F [(a_deck, .lst w_deck)] H ∧ RL (a := Int) F w_deck x_deck ∧
  wp (m_law_tree x_deck x_most x_far) (fun r => ∀ (F' H' : Hp) (w0 : (List V)), Gr [a_deck] F H F' H' → H' a_deck = some (.lst w0) → RL (a := Int) F' w0 r.2 → ∀ v : V, R (a := ((List Int) × (List (T3 Int Int Int)))) F' v r.1 → Q v H')
  (fun n => ∀ (C : Addr) (H' : Hp), mg (Str.ofString n) = some (.ref C) → Kp [a_deck] H H' → E (.ref C) none H')
set_option maxHeartbeats 2000000 in
theorem ok_law_tree (nb : Nb mg) (C_law_number : Ca P w K mg base "_law_number" 2 ["deck", "far"] (sp_law_number mg)) (C_law_order : Ca P w K mg base "_law_order" 2 ["deck", "many"] (sp_law_order mg)) (C_law_take : Ca P w K mg base "_law_take" 1 ["deck", "many"] (sp_law_take mg)) (D : Df K mg "_law_tree" "_law_tree" s_law_tree ["deck", "most", "far"]) : Ca P w K mg base "_law_tree" 3 ["deck", "most", "far"] (sp_law_tree mg) := by
  obtain ⟨fa_law_number, fd_law_number, G_law_number, M_law_number, K_law_number, B_law_number⟩ := C_law_number.ex
  obtain ⟨fa_law_order, fd_law_order, G_law_order, M_law_order, K_law_order, B_law_order⟩ := C_law_order.ex
  obtain ⟨fa_law_take, fd_law_take, G_law_take, M_law_take, K_law_take, B_law_take⟩ := C_law_take.ex
  refine Ca.mk' D sc_law_tree (fun vs H Q E h => ?_) (fun q_ f_ cdv A outer s H vs Q E hr h => ?_)
  · obtain ⟨F, _, _, _, _, _, rfl, _⟩ := h
    rfl
  · obtain ⟨F, a_deck, w_deck, x_deck, x_most, x_far, rfl, P0, f_deck, hk⟩ := h
    have nd := sc_law_tree.nd
    have hu64 := hr.units
    have hu128 := hu128_of hr
    have O := P0.start
    refine ⟨_, (pss_cons (ps_set (i := 3) nd rfl (Or.inl rfl) (pe_op op_add pe_int (pe_call G_law_take (hr.mono (by decide)) rfl M_law_take K_law_take B_law_take .nil (passes_call (takes_of rfl rfl rfl rfl) fun _ _ _ _ h => h) (pa_cons (pv 0) (pa_cons (pv 1) pa_nil)))))
  (pss_cons (ps_set (i := 4) nd rfl (Or.inl rfl) (pe_call G_law_order (hr.mono (by decide)) rfl M_law_order K_law_order B_law_order .nil (passes_call (takes_of rfl rfl rfl rfl) fun _ _ _ _ h => h) (pa_cons (pv 0) (pa_cons (pv 3) pa_nil))))
  (pss_cons (ps_set (i := 5) nd rfl (Or.inl rfl) (pe_call G_law_take (hr.mono (by decide)) rfl M_law_take K_law_take B_law_take .nil (passes_call (takes_of rfl rfl rfl rfl) fun _ _ _ _ h => h) (pa_cons (pv 0) (pa_cons pe_int pa_nil))))
  (pss_cons (ps_set (i := 6) nd rfl (Or.inl rfl) (pe_lst pa_nil))
  (pss_cons (ps_for (passes_of rfl) rfl (pi_range2 rfl nb.b_range (pa_cons pe_int (pa_cons (pv 3) pa_nil))) (pg_name (i := 7) nd rfl (Or.inl rfl)) (pss_cons (ps_set (i := 8) nd rfl (Or.inl rfl) (pe_ix (ixListK (K := K) rfl) (pe_lst (pa_cons (pe_call G_law_take (hr.mono (by decide)) rfl M_law_take K_law_take B_law_take .nil (passes_call (takes_of rfl rfl rfl rfl) fun _ _ _ _ h => h) (pa_cons (pv 0) (pa_cons (pv 7) pa_nil))) (pa_cons (pe_op op_sub (pv 7) pe_int) (pa_cons pe_int (pa_cons (pe_callB (call_max2 rfl) (by rfl) nb.b_max (by decide +kernel) (pa_cons pe_int (pa_cons (pe_op op_sub (pe_op op_sub (pv 7) pe_int) (pe_call G_law_take (hr.mono (by decide)) rfl M_law_take K_law_take B_law_take .nil (passes_call (takes_of rfl rfl rfl rfl) fun _ _ _ _ h => h) (pa_cons (pv 0) (pa_cons pe_int pa_nil)))) pa_nil))) (pa_cons (pe_call G_law_take (hr.mono (by decide)) rfl M_law_take K_law_take B_law_take .nil (passes_call (takes_of rfl rfl rfl rfl) fun _ _ _ _ h => h) (pa_cons (pv 0) (pa_cons (pv 7) pa_nil))) pa_nil)))))) (pv 5) (fun _ _ => rfl)))
  (pss_cons (ps_set (i := 9) nd rfl (Or.inl rfl) (pe_callB (cr_sortedT Int hu128) (by rfl) nb.b_sorted (by decide +kernel) (pa_cons (pe_lst (pa_cons (pe_ix (ixListK (K := K) rfl) (pv 4) (pv 7) (fun _ _ => rfl)) (pa_cons (pe_ix (ixListK (K := K) rfl) (pv 4) (pv 8) (fun _ _ => rfl)) pa_nil))) pa_nil)))
  (pss_one (ps_expr (pe_bm PySem.F.plainAttrs_list PySem.F.slot_list_append PySem.F.type_list_append mt_append (pv 6) (pa_cons (pe_tup (pa_cons (pe_ix (ixListK (K := K) rfl) (pv 9) pe_int (fun _ _ => rfl)) (pa_cons (pe_ix (ixListK (K := K) rfl) (pv 9) pe_int (fun _ _ => rfl)) (pa_cons (pe_call G_law_number (hr.mono (by decide)) rfl M_law_number K_law_number B_law_number .nil (passes_call (takes_of rfl rfl rfl rfl) fun _ _ _ _ h => h) (pa_cons (pv 0) (pa_cons (pv 2) pa_nil))) pa_nil)))) pa_nil)))))))
  (pss_one (ps_ret (pe_tup (pa_cons (pe_lc (own := [("k", 7)]) (g := gName 7) (tt := _) rfl nd (pi_range1 rfl nb.b_range (pa_cons (pv 3) pa_nil)) (blkOk_by (own := [("k", 7)]) (N := ["deck", "most", "far", "many", "order", "kind", "ties", "k", "at", "pair"]) (sc := defScope s_law_tree) (by decide +kernel)) (fun _ _ _ _ _ => (pg_name (i := 7) nd rfl (Or.inl rfl))) (fun _ _ _ _ _ => pts_nil) (fun _ _ _ _ _ => (pe_call G_law_number (hr.mono (by decide)) rfl M_law_number K_law_number B_law_number .nil passL (pa_cons (pv 0) (pa_cons (pv 2) pa_nil))))) (pa_cons (pe_callB (cr_sortedT (T3 Int Int Int) hu128) (by rfl) nb.b_sorted (by decide +kernel) (pa_cons (pv 6) pa_nil)) pa_nil)))))))))), ?_⟩
    refine ⟨_, rfl, _, rfl, _, _, _, _, _, rfl, (O.pre1 0 rfl), f_deck, wp_call hk (fun r1 er2 hk F3 H4 w6 g5 h7 hl8 => ?_) (fun n hn C H1 hC kp => hn C H1 hC (O.kp1 kp 0 rfl))⟩
    have O9 := O.call1 g5 0 rfl h7
    have S_ := g5.f
    refine ⟨_, _, rfl, rfl, _, rfl, _, rfl, _, _, _, _, _, rfl, (O9.pre1 0 rfl), hl8, wp_call hk (fun r10 er11 hk F12 H13 w15 g14 h16 hl17 p18 w19 hn20 hf21 h22 hl23 => ?_) (fun n hn C H1 hC kp => hn C H1 hC (O9.kp1 kp 0 rfl))⟩
    have O24 := O9.call1 g14 0 rfl h16
    have S_ := g14.f
    have O25 := O9.got O24 rfl hn20 hf21 h22
    have z26 := O9.was hn20
    obtain ⟨F27, O28, S29, h30⟩ := O25.frzE 0 rfl z26
    have hl17 := hl17.mono S29
    have hl23 := hl23.mono S29
    have h31 := R.lst (a := Int) h30 hl23
    refine ⟨_, rfl, _, _, _, _, _, rfl, (O28.pre1 0 rfl), hl17, wp_call hk (fun r32 er33 hk F34 H35 w37 g36 h38 hl39 => ?_) (fun n hn C H1 hC kp => hn C H1 hC (O28.kp1 kp 0 rfl))⟩
    have O40 := O28.call1 g36 0 rfl h38
    have S_ := g36.f
    have h31 := h31.mono S_
    refine ⟨(by show 0 ≤ sizeLine; decide), fun p42 hp43 => ?_⟩
    have hl45 : RL (a := (T3 Int Int Int)) F34 ([]) ([] : List (T3 Int Int Int)) := RL.nil
    have z46 := O40.was hp43
    have O44 := O40.new (o := .lst ([])) hp43
    obtain ⟨c48, hk⟩ := wp_chk hk
    obtain ⟨c49, hk⟩ := wp_chk hk
    obtain ⟨L50, hL51, hLs52, hLd53⟩ := loopN_L hk
    refine ⟨_, rfl, _, _, rfl, ⟨c48.lo, c48.hi, c49.lo, c49.hi⟩, ?_⟩
    refine for_range (lo := (1 : Int)) (n := (((1 : Int) + r1.1) - (1 : Int)).toNat) (fun i σ H => ∃ (F_ : Hp) (st : (List Int) × (List (T3 Int Int Int))) (w_0 : (List V)) (w_1 : (List V)) (t_0 : Option V) (t_1 : Option V) (t_2 : Option V), σ = [some (V.ref a_deck), some (V.int x_most), some (V.int x_far), some (V.int ((1 : Int) + r1.1)), some (V.ref p18), some (V.int r32.1), some (V.ref p42), t_0, t_1, t_2] ∧ Same F34 F_ ∧ Ow _ F_ [(p42, .lst w_1), (a_deck, .lst w_0)] H ∧ RL (a := Int) F_ w_0 st.1 ∧ RL (a := (T3 Int Int Int)) F_ w_1 st.2 ∧ L50 (List.drop i (rangeL (1 : Int) ((1 : Int) + r1.1))) st) ⟨F34, (r32.2, ([] : List (T3 Int Int Int))), w37, [], none, none, none, rfl, Same.refl _, O44, hl39, hl45, hL51⟩ ?_ ?_
    · rintro i54 sg56 H57 hi58 ⟨F68, st60, w61, w62, t65, t66, t67, rfl, S59, O69, hl63, hl64, hL51⟩
      have h31 := h31.mono S59
      rw [rangeL_get hi58] at hL51
      have hk := hLs52 _ _ _ hL51
      obtain ⟨y47, he_⟩ : ∃ z_, z_ = (1 : Int) + (i54 : Int) := ⟨_, rfl⟩
      try rw [← he_] at hk
      rw [← he_]
      refine ⟨_, rfl, _, rfl, _, _, _, _, _, rfl, (O69.pre1 1 rfl), hl63, wp_call hk (fun r70 er71 hk F72 H73 w75 g74 h76 hl77 => ?_) (fun n hn C H1 hC kp => hn C H1 hC (O69.kp1 kp 1 rfl))⟩
      have O78 := O69.call1 g74 1 rfl h76
      have S_ := g74.f
      have h31 := h31.mono S_
      have hl64 := hl64.mono S_
      have S59 := S59.trans S_
      refine ⟨_, rfl, _, _, rfl, rfl, _, rfl, _, _, rfl, rfl, _, rfl, _, _, _, _, _, rfl, (O78.pre1 1 rfl), hl77, wp_call hk (fun r79 er80 hk F81 H82 w84 g83 h85 hl86 => ?_) (fun n hn C H1 hC kp => hn C H1 hC (O78.kp1 kp 1 rfl))⟩
      have O87 := O78.call1 g83 1 rfl h85
      have S_ := g83.f
      have h31 := h31.mono S_
      have hl64 := hl64.mono S_
      have S59 := S59.trans S_
      refine ⟨_, _, rfl, rfl, _, _, rfl, _, rfl, _, rfl, _, _, _, _, _, rfl, (O87.pre1 1 rfl), hl86, wp_call hk (fun r88 er89 hk F90 H91 w93 g92 h94 hl95 => ?_) (fun n hn C H1 hC kp => hn C H1 hC (O87.kp1 kp 1 rfl))⟩
      have O96 := O87.call1 g92 1 rfl h94
      have S_ := g92.f
      have h31 := h31.mono S_
      have hl64 := hl64.mono S_
      have S59 := S59.trans S_
      refine ⟨(by show 5 ≤ sizeLine; decide), fun p97 hp98 => ?_⟩
      have hl104 : RL (a := Int) F90 ([V.int r70.1, V.int (y47 - (1 : Int)), V.int (0 : Int), V.int (if ((y47 - (1 : Int)) - r79.1) > (0 : Int) then ((y47 - (1 : Int)) - r79.1) else (0 : Int)), V.int r88.1]) ([r70.1, (y47 - (1 : Int)), (0 : Int), (if ((y47 - (1 : Int)) - r79.1) > (0 : Int) then ((y47 - (1 : Int)) - r79.1) else (0 : Int)), r88.1]) := RL.cons R.int (RL.cons R.int (RL.cons R.int (RL.cons R.int (RL.cons R.int RL.nil))))
      obtain ⟨F99, O100, S101, h102⟩ := O96.putE hp98 (.lst ([V.int r70.1, V.int (y47 - (1 : Int)), V.int (0 : Int), V.int (if ((y47 - (1 : Int)) - r79.1) > (0 : Int) then ((y47 - (1 : Int)) - r79.1) else (0 : Int)), V.int r88.1]))
      have h31 := h31.mono S101
      have hl64 := hl64.mono S101
      have S59 := S59.trans S101
      have hl95 := hl95.mono S101
      have hl104 := hl104.mono S101
      have h103 := R.lst (a := Int) h102 hl104
      obtain ⟨p105, w106, e107, h108, hl109⟩ := R.lst_ h103
      cases e107
      obtain ⟨y110, e111, hk⟩ := wp_opt hk
      obtain ⟨w112, e113, r114⟩ := hl109.atI e111
      obtain rfl := R.int_ r114
      obtain ⟨p115, w116, e117, h118, hl119⟩ := R.lst_ h31
      cases e117
      obtain ⟨y120, e121, hk⟩ := wp_opt hk
      obtain ⟨w122, e123, r124⟩ := hl119.atI e121
      obtain rfl := R.int_ r124
      obtain ⟨p125, w126, e127, h128, hl129⟩ := R.lst_ h31
      cases e127
      obtain ⟨y130, e131, hk⟩ := wp_opt hk
      obtain ⟨w132, e133, r134⟩ := hl129.atI e131
      obtain rfl := R.int_ r134
      refine ⟨_, rfl, _, _, _, _, rfl, rfl, (SqLF O100.s h108), e113, _, rfl, _, rfl, _, _, _, _, rfl, rfl, (SqLF O100.s h118), e123, _, rfl, _, rfl, _, _, _, _, rfl, rfl, (SqLF O100.s h128), e133, (by show 2 ≤ sizeLine; decide), fun p135 hp136 => ?_⟩
      have hl142 : RL (a := Int) F99 ([V.int y120, V.int y130]) ([y120, y130]) := RL.cons R.int (RL.cons R.int RL.nil)
      obtain ⟨F137, O138, S139, h140⟩ := O100.putE hp136 (.lst ([V.int y120, V.int y130]))
      have h31 := h31.mono S139
      have hl64 := hl64.mono S139
      have S59 := S59.trans S139
      have hl95 := hl95.mono S139
      have h103 := h103.mono S139
      have h108 := S139 _ _ h108
      have hl109 := hl109.mono S139
      have h118 := S139 _ _ h118
      have hl119 := hl119.mono S139
      have h128 := S139 _ _ h128
      have hl129 := hl129.mono S139
      have hl142 := hl142.mono S139
      have h141 := R.lst (a := Int) h140 hl142
      obtain ⟨p143, w144, e145, h146, hl147⟩ := R.lst_ h141
      cases e145
      refine ⟨_, _, _, rfl, (O138.s _ _ h146), (RL.mono hl147 O138.s), fun p148 hp149 => ?_⟩
      have hl155 : RL (a := Int) F137 (sortV w144 ([y120, y130])) (sortT ([y120, y130])) := (RL.sorted hl147)
      obtain ⟨F150, O151, S152, h153⟩ := O138.putE hp149 (.lst (sortV w144 ([y120, y130])))
      have h31 := h31.mono S152
      have hl64 := hl64.mono S152
      have S59 := S59.trans S152
      have hl95 := hl95.mono S152
      have h103 := h103.mono S152
      have h108 := S152 _ _ h108
      have hl109 := hl109.mono S152
      have h118 := S152 _ _ h118
      have hl119 := hl119.mono S152
      have h128 := S152 _ _ h128
      have hl129 := hl129.mono S152
      have h141 := h141.mono S152
      have h146 := S152 _ _ h146
      have hl147 := hl147.mono S152
      have hl155 := hl155.mono S152
      have h154 := R.lst (a := Int) h153 hl155
      obtain ⟨p156, w157, e158, h159, hl160⟩ := R.lst_ h154
      cases e158
      obtain ⟨y161, e162, hk⟩ := wp_opt hk
      obtain ⟨w163, e164, r165⟩ := hl160.atI e162
      obtain rfl := R.int_ r165
      obtain ⟨p166, w167, e168, h169, hl170⟩ := R.lst_ h154
      cases e168
      obtain ⟨y171, e172, hk⟩ := wp_opt hk
      obtain ⟨w173, e174, r175⟩ := hl170.atI e172
      obtain rfl := R.int_ r175
      refine ⟨_, rfl, (.inl ⟨rfl, _, SqL.of (O151.at 0 rfl)⟩), _, rfl, _, _, _, _, rfl, rfl, (SqLF O151.s h159), e164, _, rfl, _, _, _, _, rfl, rfl, (SqLF O151.s h169), e174, _, rfl, _, rfl, _, _, _, _, _, rfl, (O151.pre1 1 rfl), hl95, wp_call hk (fun r176 er177 hk F178 H179 w181 g180 h182 hl183 => ?_) (fun n hn C H1 hC kp => hn C H1 hC (O151.kp1 kp 1 rfl))⟩
      have O184 := O151.call1 g180 1 rfl h182
      have S_ := g180.f
      have h31 := h31.mono S_
      have hl64 := hl64.mono S_
      have S59 := S59.trans S_
      have h103 := h103.mono S_
      have h108 := S_ _ _ h108
      have hl109 := hl109.mono S_
      have h118 := S_ _ _ h118
      have hl119 := hl119.mono S_
      have h128 := S_ _ _ h128
      have hl129 := hl129.mono S_
      have h141 := h141.mono S_
      have h146 := S_ _ _ h146
      have hl147 := hl147.mono S_
      have h154 := h154.mono S_
      have h159 := S_ _ _ h159
      have hl160 := hl160.mono S_
      have h169 := S_ _ _ h169
      have hl170 := hl170.mono S_
      refine ⟨(by show 3 ≤ sizeLine; decide), fun p185 hp186 => ?_⟩
      obtain ⟨F187, O188, S189, h190⟩ := O184.putE hp186 (.tup [V.int y161, V.int y171, V.int r176.1])
      have h31 := h31.mono S189
      have hl64 := hl64.mono S189
      have S59 := S59.trans S189
      have h103 := h103.mono S189
      have h108 := S189 _ _ h108
      have hl109 := hl109.mono S189
      have h118 := S189 _ _ h118
      have hl119 := hl119.mono S189
      have h128 := S189 _ _ h128
      have hl129 := hl129.mono S189
      have h141 := h141.mono S189
      have h146 := S189 _ _ h146
      have hl147 := hl147.mono S189
      have h154 := h154.mono S189
      have h159 := S189 _ _ h159
      have hl160 := hl160.mono S189
      have h169 := S189 _ _ h169
      have hl170 := hl170.mono S189
      have hl183 := hl183.mono S189
      have h191 : R (a := (T3 Int Int Int)) F187 (.ref p185) (T3.mk y161 y171 r176.1) := R.t3 h190 R.int R.int R.int
      obtain ⟨c192, hk⟩ := wp_appL hk
      refine ⟨_, _, _, rfl, rfl, (O188.at 0 rfl), (by rw [hl64.len]; exact c192), ?_⟩
      have O194 := O188.set 0 (.lst (w62 ++ [V.ref p185])) rfl
      have hl195 : RL (a := (T3 Int Int Int)) F187 (w62 ++ [V.ref p185]) (st60.2 ++ [(T3.mk y161 y171 r176.1)]) := RL.snoc hl64 h191
      exact ⟨F187, (r176.2, (st60.2 ++ [(T3.mk y161 y171 r176.1)])), w181, (w62 ++ [V.ref p185]), some (V.int y47), some (V.int y110), some (V.ref p148), rfl, S59, O194, hl183, hl195, hk⟩
    rintro sg196 H197 ⟨F208, st199, w201, w202, t205, t206, t207, rfl, S198, O209, hl203, hl204, hL200⟩
    rw [rangeL_end] at hL200
    have hk := hLd53 _ hL200
    have h31 := h31.mono S198
    obtain ⟨c211, hk⟩ := wp_chk hk
    obtain ⟨c216, L212, hL213, hLs214, hLd215⟩ := compS_L hk
    refine ⟨_, rfl, _, rfl, c211.lo, c211.hi, fun p217 hp218 => ?_⟩
    have z243 := O209.was hp218
    refine lc_range (lo := 0) (n := (((1 : Int) + r1.1)).toNat) (fun i H => ∃ (F_ : Hp) (st : (List Int)) (acc : List Int) (wa : List V) (w_0 : (List V)), Same F208 F_ ∧ Ow _ F_ [(p217, .lst wa), (p42, .lst w202), (a_deck, .lst w_0)] H ∧ RL F_ wa acc ∧ RL (a := Int) F_ w_0 st ∧ wa.length ≤ i ∧ L212 (List.drop i (rangeL 0 ((1 : Int) + r1.1))) acc st) ⟨F208, st199.1, [], [], w201, Same.refl _, O209.new hp218, RL.nil, hl203, Nat.zero_le _, hL213⟩ ?_ ?_
    · rintro i219 H221 hi222 ⟨F227, st228, acc224, wa225, w230, S229, O233, hl232, hl231, la226, hL213⟩
      have h31 := h31.mono S229
      have hl204 := hl204.mono S229
      rw [rangeL_get0 hi222] at hL213
      have hk := hLs214 _ _ _ _ hL213
      obtain ⟨y210, he_⟩ : ∃ z_, z_ = 0 + (i219 : Int) := ⟨_, rfl⟩
      try rw [← he_] at hk
      rw [← he_]
      refine ⟨rfl, ?_⟩
      refine ⟨_, rfl, _, rfl, _, _, _, _, _, rfl, (O233.pre1 2 rfl), hl231, wp_call hk (fun r234 er235 hk F236 H237 w239 g238 h240 hl241 => ?_) (fun n hn => hn.elim)⟩
      have O242 := O233.call1 g238 2 rfl h240
      have S_ := g238.f
      have h31 := h31.mono S_
      have hl204 := hl204.mono S_
      have S229 := S229.trans S_
      have hl232 := hl232.mono S_
      refine ⟨_, (O242.at 0 rfl), (comp_lenR la226 hi222 (by rw [Int.sub_zero]) c216), ?_⟩
      exact ⟨F236, r234.2, acc224 ++ [r234.1], wa225 ++ [V.int r234.1], w239, S229, O242.set 0 (.lst (wa225 ++ [V.int r234.1])) rfl, RL.snoc hl232 R.int, hl241, by rw [List.length_append]; exact Nat.succ_le_succ la226, hk⟩
    rintro H244 ⟨F245, st246, acc247, wa248, w254, S249, O250, hl251, hl255, la252, hL253⟩
    rw [rangeL_end0] at hL253
    have hk := hLd215 _ _ hL253
    have h31 := h31.mono S249
    have hl204 := hl204.mono S249
    obtain ⟨F257, O258, S259, h260⟩ := O250.frzE 0 rfl z243
    have h31 := h31.mono S259
    have hl204 := hl204.mono S259
    have hl255 := hl255.mono S259
    have hl251 := hl251.mono S259
    have h261 := R.lst (a := Int) h260 hl251
    refine ⟨_, rfl, _, _, _, rfl, (O258.at 0 rfl), (RL.mono hl204 O258.s), fun p262 hp263 => ?_⟩
    have hl269 : RL (a := (T3 Int Int Int)) F257 (sortV w202 st199.2) (sortT st199.2) := (RL.sorted hl204)
    obtain ⟨F264, O265, S266, h267⟩ := O258.putE hp263 (.lst (sortV w202 st199.2))
    have h31 := h31.mono S266
    have hl204 := hl204.mono S266
    have hl255 := hl255.mono S266
    have h261 := h261.mono S266
    have hl269 := hl269.mono S266
    have h268 := R.lst (a := (T3 Int Int Int)) h267 hl269
    refine ⟨(by show 2 ≤ sizeLine; decide), fun p270 hp271 => ?_⟩
    obtain ⟨F272, O273, S274, h275⟩ := O265.putE hp271 (.tup [V.ref p217, V.ref p262])
    have h31 := h31.mono S274
    have hl204 := hl204.mono S274
    have hl255 := hl255.mono S274
    have h261 := h261.mono S274
    have h268 := h268.mono S274
    have h276 : R (a := ((List Int) × (List (T3 Int Int Int)))) F272 (.ref p270) (acc247, (sortT st199.2)) := R.t2 h275 h261 h268
    exact hk _ _ w254 O273.g (O273.at 1 rfl) hl255 _ h276
abbrev s_law_copied : Stmt := top 24
theorem sc_law_copied : FnScope ["tree"] ["tree"] (defScope s_law_copied) := ⟨rfl, rfl, rfl, by decide +kernel, rfl, by decide +kernel, by decide +kernel⟩
def m_law_copied (x_tree : ((List Int) × (List (T3 Int Int Int)))) : M (((List Int) × (List (T3 Int Int Int)))) :=
.ok (x_tree.1, x_tree.2)
def sp_law_copied (mg : Str → Option Value) : Sp := fun vs H Q E => ∃ (F : Hp) (v_tree : V) (x_tree : ((List Int) × (List (T3 Int Int Int)))), vs = [v_tree] ∧ Pre F [] H ∧ R (a := ((List Int) × (List (T3 Int Int Int)))) F v_tree x_tree ∧
  wp (m_law_copied x_tree) (fun r => ∀ (F' H' : Hp), Gr [] F H F' H' → ∀ v : V, R (a := ((List Int) × (List (T3 Int Int Int)))) F' v r → Q v H')
  (fun n => ∀ (C : Addr) (H' : Hp), mg (Str.ofString n) = some (.ref C) → Kp [] H H' → E (.ref C) none H')
set_option maxHeartbeats 2000000 in
theorem ok_law_copied (nb : Nb mg) (D : Df K mg "_law_copied" "_law_copied" s_law_copied ["tree"]) : Ca P w K mg base "_law_copied" 1 ["tree"] (sp_law_copied mg) := by
  refine Ca.mk' D sc_law_copied (fun vs H Q E h => ?_) (fun q_ f_ cdv A outer s H vs Q E hr h => ?_)
  · obtain ⟨F, _, _, rfl, _⟩ := h
    rfl
  · obtain ⟨F, v_tree, x_tree, rfl, P0, f_tree, hk⟩ := h
    have nd := sc_law_copied.nd
    have hu64 := hr.units
    have hu128 := hu128_of hr
    have O := P0.start
    refine ⟨_, (pss_one (ps_ret (pe_tup (pa_cons (pe_callTy (listOfK (K := K) rfl) (by rfl) nb.b_list (by decide +kernel) (pa_cons (pe_ix (ixTupK (K := K) rfl) (pv 0) pe_int (fun _ _ => rfl)) pa_nil)) (pa_cons (pe_callTy (listOfK (K := K) rfl) (by rfl) nb.b_list (by decide +kernel) (pa_cons (pe_ix (ixTupK (K := K) rfl) (pv 0) pe_int (fun _ _ => rfl)) pa_nil)) pa_nil))))), ?_⟩
    obtain ⟨p1, v4, v5, e2, h3, r6, r7⟩ := R.t2_ f_tree
    cases e2
    obtain ⟨p8, w9, e10, h11, hl12⟩ := R.lst_ r6
    cases e10
    refine ⟨_, rfl, _, _, _, _, rfl, rfl, (SqTF O.s h3), rfl, _, _, rfl, (.inl (SqLF O.s h11)), fun p13 hp14 => ?_⟩
    have hl20 : RL (a := Int) F w9 x_tree.1 := hl12
    obtain ⟨F15, O16, S17, h18⟩ := O.putE hp14 (.lst w9)
    have f_tree := f_tree.mono S17
    have h3 := S17 _ _ h3
    have r6 := r6.mono S17
    have r7 := r7.mono S17
    have h11 := S17 _ _ h11
    have hl12 := hl12.mono S17
    have hl20 := hl20.mono S17
    have h19 := R.lst (a := Int) h18 hl20
    obtain ⟨p21, w22, e23, h24, hl25⟩ := R.lst_ r7
    cases e23
    refine ⟨_, rfl, _, _, _, _, rfl, rfl, (SqTF O16.s h3), rfl, _, _, rfl, (.inl (SqLF O16.s h24)), fun p26 hp27 => ?_⟩
    have hl33 : RL (a := (T3 Int Int Int)) F15 w22 x_tree.2 := hl25
    obtain ⟨F28, O29, S30, h31⟩ := O16.putE hp27 (.lst w22)
    have f_tree := f_tree.mono S30
    have h3 := S30 _ _ h3
    have r6 := r6.mono S30
    have r7 := r7.mono S30
    have h11 := S30 _ _ h11
    have hl12 := hl12.mono S30
    have h19 := h19.mono S30
    have h24 := S30 _ _ h24
    have hl25 := hl25.mono S30
    have hl33 := hl33.mono S30
    have h32 := R.lst (a := (T3 Int Int Int)) h31 hl33
    refine ⟨(by show 2 ≤ sizeLine; decide), fun p34 hp35 => ?_⟩
    obtain ⟨F36, O37, S38, h39⟩ := O29.putE hp35 (.tup [V.ref p13, V.ref p26])
    have f_tree := f_tree.mono S38
    have h3 := S38 _ _ h3
    have r6 := r6.mono S38
    have r7 := r7.mono S38
    have h11 := S38 _ _ h11
    have hl12 := hl12.mono S38
    have h19 := h19.mono S38
    have h24 := S38 _ _ h24
    have hl25 := hl25.mono S38
    have h32 := h32.mono S38
    have h40 : R (a := ((List Int) × (List (T3 Int Int Int)))) F36 (.ref p34) (x_tree.1, x_tree.2) := R.t2 h39 h19 h32
    exact hk _ _  O37.g  _ h40
abbrev s_law_is_tree : Stmt := top 25
theorem sc_law_is_tree : FnScope ["worths", "ties", "many", "found", "turn", "a", "b", "length", "one", "other"] ["worths", "ties"] (defScope s_law_is_tree) := ⟨rfl, rfl, rfl, by decide +kernel, rfl, by decide +kernel, by decide +kernel⟩
def m_law_is_tree (x_worths : (List Int)) (x_ties : (List (T3 Int Int Int))) : M (Bool) :=
if (x_worths.length : Int) = (0 : Int) then (
.ok false)
else (
if (x_ties.length : Int) ≠ ((x_worths.length : Int) - (1 : Int)) then (
.ok false)
else (
compS (fun (y18 : (T3 Int Int Int)) (st35 : Unit) =>
if y18.a < (0 : Int) then (
.ok (some (y18.a, y18.b), ()))
else (
if (x_worths.length : Int) ≤ y18.b then (
.ok (some (y18.a, y18.b), ()))
else (
if y18.b ≤ y18.a then (
.ok (some (y18.a, y18.b), ()))
else (
.ok (none, ()))))) x_ties () >>= fun q85 =>
if q85.1 ≠ ([] : List (Int × Int)) then (
.ok false)
else (
chk (okR (x_worths.length : Int)) >>= fun _ =>
loopN (fun (y106 : Int) (st118 : (List Int)) =>
loopN (fun (y134 : (T3 Int Int Int)) (st145 : (List Int)) =>
loopN (fun (y193 : (Int × Int)) (st204 : (List Int)) =>
if y193.1 ∈ st204 then (
if y193.2 ∉ st204 then (
appL st204 y193.2 >>= fun _ =>
.ok (st204 ++ [y193.2]))
else (
.ok st204))
else (
.ok st204)) ([(y134.a, y134.b), (y134.b, y134.a)]) st145 >>= fun st229 =>
.ok st229) x_ties st118 >>= fun st240 =>
.ok st240) (rangeL 0 (x_worths.length : Int)) ([(0 : Int)]) >>= fun st254 =>
.ok (decide ((st254.length : Int) = (x_worths.length : Int))))))
def sp_law_is_tree (mg : Str → Option Value) : Sp := fun vs H Q E => ∃ (F : Hp) (v_worths : V) (x_worths : (List Int)) (v_ties : V) (x_ties : (List (T3 Int Int Int))), vs = [v_worths, v_ties] ∧ Pre F [] H ∧ R (a := (List Int)) F v_worths x_worths ∧ R (a := (List (T3 Int Int Int))) F v_ties x_ties ∧
  wp (m_law_is_tree x_worths x_ties) (fun r => ∀ (F' H' : Hp), Gr [] F H F' H' → Q (V.bl r) H')
  (fun n => ∀ (C : Addr) (H' : Hp), mg (Str.ofString n) = some (.ref C) → Kp [] H H' → E (.ref C) none H')
set_option maxHeartbeats 2000000 in
theorem ok_law_is_tree (nb : Nb mg) (D : Df K mg "_law_is_tree" "_law_is_tree" s_law_is_tree ["worths", "ties"]) : Ca P w K mg base "_law_is_tree" 1 ["worths", "ties"] (sp_law_is_tree mg) := by
  refine Ca.mk' D sc_law_is_tree (fun vs H Q E h => ?_) (fun q_ f_ cdv A outer s H vs Q E hr h => ?_)
  · obtain ⟨F, _, _, _, _, rfl, _⟩ := h
    rfl
  · obtain ⟨F, v_worths, x_worths, v_ties, x_ties, rfl, P0, f_worths, f_ties, hk⟩ := h
    have nd := sc_law_is_tree.nd
    have hu64 := hr.units
    have hu128 := hu128_of hr
    have O := P0.start
    refine ⟨_, (pss_cons (ps_set (i := 2) nd rfl (Or.inr rfl) (pe_callB call_lenT (by rfl) nb.b_len PySem.boot_len (pa_cons (pv 0) pa_nil)))
  (pss_cons (ps_if (PW.pt (pw_or (pt_cmpR (op_eqT Int hu64) (pv 2) pe_int (nomark _)) (pw_or1 (pt_cmpR (op_neT Int hu64) (pe_callB call_lenT (by rfl) nb.b_len PySem.boot_len (pa_cons (pv 1) pa_nil)) (pe_op op_sub (pv 2) pe_int) (nomark _))))) (pss_one (ps_ret pe_bl)) pss_nil)
  (pss_cons (ps_if (pt_cmpR (op_neT (List (Int × Int)) hu64) (pe_lc (own := [("a", 5), ("b", 6), ("length", 7)]) (g := gTup K 3 (gCons (gName 5) (gCons (gName 6) (gCons (gName 7) (gNil))))) (tt := _) rfl nd (piListK (K := K) rfl (pv 1)) (blkOk_by (own := [("a", 5), ("b", 6), ("length", 7)]) (N := ["worths", "ties", "many", "found", "turn", "a", "b", "length", "one", "other"]) (sc := defScope s_law_is_tree) (by decide +kernel)) (fun _ _ _ _ _ => (pg_tup rfl (pgs_cons (pg_name (i := 5) nd rfl (Or.inl rfl)) (pgs_cons (pg_name (i := 6) nd rfl (Or.inl rfl)) (pgs_cons (pg_name (i := 7) nd rfl (Or.inl rfl)) pgs_nil))))) (fun _ _ _ _ _ => (pts_one (PW.pt (pw_or (pt_cmpR op_lt (pv 5) pe_int (nomark _)) (pw_or (pt_cmpR op_ge (pv 6) (pv 2) (nomark _)) (pw_or1 (pt_cmpR op_ge (pv 5) (pv 6) (nomark _)))))))) (fun _ _ _ _ _ => (pe_tup (pa_cons (pv 5) (pa_cons (pv 6) pa_nil))))) (pe_lst pa_nil) (nomark _)) (pss_one (ps_ret pe_bl)) pss_nil)
  (pss_cons (ps_set (i := 3) nd rfl (Or.inl rfl) (pe_lst (pa_cons pe_int pa_nil)))
  (pss_cons (ps_for (passes_of rfl) rfl (pi_range1 rfl nb.b_range (pa_cons (pv 2) pa_nil)) (pg_name (i := 4) nd rfl (Or.inl rfl)) (pss_one (ps_for (passes_of rfl) rfl (piListK (K := K) rfl (pv 1)) (pg_tup rfl (pgs_cons (pg_name (i := 5) nd rfl (Or.inl rfl)) (pgs_cons (pg_name (i := 6) nd rfl (Or.inl rfl)) (pgs_cons (pg_name (i := 7) nd rfl (Or.inl rfl)) pgs_nil)))) (pss_one (ps_for (passes_of rfl) rfl (piListK (K := K) rfl (pe_lst (pa_cons (pe_tup (pa_cons (pv 5) (pa_cons (pv 6) pa_nil))) (pa_cons (pe_tup (pa_cons (pv 6) (pa_cons (pv 5) pa_nil))) pa_nil)))) (pg_tup rfl (pgs_cons (pg_name (i := 8) nd rfl (Or.inl rfl)) (pgs_cons (pg_name (i := 9) nd rfl (Or.inl rfl)) pgs_nil))) (pss_one (ps_if (PW.pt (pw_and (pt_cmpR (op_inT Int hu64) (pv 8) (pv 3) rfl) (pw_and1 (pt_cmpR (op_ninT Int hu64) (pv 9) (pv 3) rfl)))) (pss_one (ps_expr (pe_bm PySem.F.plainAttrs_list PySem.F.slot_list_append PySem.F.type_list_append mt_append (pv 3) (pa_cons (pv 9) pa_nil)))) pss_nil)))))))
  (pss_one (ps_ret (pe_cmpR (op_eqT Int hu64) (pe_callB call_lenT (by rfl) nb.b_len PySem.boot_len (pa_cons (pv 3) pa_nil)) (pv 2) (nomark _))))))))), ?_⟩
    obtain ⟨p1, w2, e3, h4, hl5⟩ := R.lst_ f_worths
    cases e3
    refine ⟨_, rfl, _, _, _, rfl, (.inl (O.s _ _ h4)), hl5.len, _, rfl, _, _, R.int, R.int, _, rfl, ?_⟩
    refine iteD (fun q6 => ?_) (fun q6 => ?_)
    · have hk := wp_if hk q6
      refine iteT ?_
      exact hk _ _  O.g 
    · have hk := wp_el hk q6
      obtain ⟨p7, w8, e9, h10, hl11⟩ := R.lst_ f_ties
      cases e9
      refine ⟨_, rfl, _, _, _, rfl, (.inl (O.s _ _ h10)), hl11.len, _, rfl, _, _, rfl, rfl, _, _, R.int, R.int, _, rfl, ?_⟩
      refine iteD (fun q12 => ?_) (fun q12 => ?_)
      · have hk := wp_if hk q12
        exact hk _ _  O.g 
      · have hk := wp_el hk q12
        obtain ⟨p13, w14, e15, h16, hl17⟩ := R.lst_ f_ties
        cases e15
        obtain ⟨c23, L19, hL20, hLs21, hLd22⟩ := compS_L hk
        refine ⟨_, rfl, _, rfl, ⟨_, (SqLF O.s h16)⟩, fun p24 hp25 => ?_⟩
        have z74 := O.was hp25
        refine lc_list (K := K) (xs := w14) (fun i H => ∃ (F_ : Hp) (st : Unit) (acc : List (Int × Int)) (wa : List V), Same F F_ ∧ Ow _ F_ [(p24, .lst wa)] H ∧ RL F_ wa acc ∧ wa.length ≤ i ∧ L19 (List.drop i x_ties) acc st) ⟨F, (), [], [], Same.refl _, O.new hp25, RL.nil, Nat.zero_le _, hL20⟩ (fun i_ H_ _ hp_ => ?_) ?_ ?_
        · obtain ⟨_, _, _, _, hS_, hO_, _⟩ := hp_
          exact SqLF hO_.s (hS_ _ _ h16)
        · rintro i26 x27 H28 hi29 ⟨F34, st35, acc31, wa32, S36, O38, hl37, la33, hL20⟩
          have f_worths := f_worths.mono S36
          have f_ties := f_ties.mono S36
          have h4 := S36 _ _ h4
          have hl5 := hl5.mono S36
          have h10 := S36 _ _ h10
          have hl11 := hl11.mono S36
          have h16 := S36 _ _ h16
          have hl17 := hl17.mono S36
          obtain ⟨y18, e39, r40⟩ := RL.got hl17 hi29
          rw [drop_at e39] at hL20
          have hk := hLs21 _ _ _ _ hL20
          obtain ⟨p41, v44, v45, v46, e42, h43, r47, r48, r49⟩ := R.t3_ r40
          cases e42
          obtain rfl := R.int_ r47
          obtain rfl := R.int_ r48
          obtain rfl := R.int_ r49
          refine ⟨_, _, rfl, (SqTF O38.s h43), rfl, _, _, rfl, _, _, rfl, _, _, rfl, rfl, rfl, _, rfl, _, _, rfl, rfl, _, rfl, ?_⟩
          refine iteD (fun q50 => ?_) (fun q50 => ?_)
          · have hk := wp_if hk q50
            refine iteT ?_
            refine ⟨_, rfl, _, rfl, (by show 2 ≤ sizeLine; decide), fun p51 hp52 => ?_⟩
            obtain ⟨F53, O54, S55, h56⟩ := O38.putE hp52 (.tup [V.int y18.a, V.int y18.b])
            have f_worths := f_worths.mono S55
            have f_ties := f_ties.mono S55
            have h4 := S55 _ _ h4
            have hl5 := hl5.mono S55
            have h10 := S55 _ _ h10
            have hl11 := hl11.mono S55
            have h16 := S55 _ _ h16
            have hl17 := hl17.mono S55
            have S36 := S36.trans S55
            have hl37 := hl37.mono S55
            have r40 := r40.mono S55
            have h43 := S55 _ _ h43
            have h57 : R (a := (Int × Int)) F53 (.ref p51) (y18.a, y18.b) := R.t2 h56 R.int R.int
            refine ⟨_, (O54.at 0 rfl), (comp_len la33 hi29 hl17.len c23), ?_⟩
            exact ⟨F53, (), acc31 ++ [(y18.a, y18.b)], wa32 ++ [V.ref p51], S36, O54.set 0 (.lst (wa32 ++ [V.ref p51])) rfl, RL.snoc hl37 h57, by rw [List.length_append]; exact Nat.succ_le_succ la33, hk⟩
          · have hk := wp_el hk q50
            refine ⟨_, rfl, _, rfl, _, _, rfl, rfl, _, rfl, ?_⟩
            refine iteD (fun q58 => ?_) (fun q58 => ?_)
            · have hk := wp_if hk q58
              refine iteT ?_
              refine ⟨_, rfl, _, rfl, (by show 2 ≤ sizeLine; decide), fun p59 hp60 => ?_⟩
              obtain ⟨F61, O62, S63, h64⟩ := O38.putE hp60 (.tup [V.int y18.a, V.int y18.b])
              have f_worths := f_worths.mono S63
              have f_ties := f_ties.mono S63
              have h4 := S63 _ _ h4
              have hl5 := hl5.mono S63
              have h10 := S63 _ _ h10
              have hl11 := hl11.mono S63
              have h16 := S63 _ _ h16
              have hl17 := hl17.mono S63
              have S36 := S36.trans S63
              have hl37 := hl37.mono S63
              have r40 := r40.mono S63
              have h43 := S63 _ _ h43
              have h65 : R (a := (Int × Int)) F61 (.ref p59) (y18.a, y18.b) := R.t2 h64 R.int R.int
              refine ⟨_, (O62.at 0 rfl), (comp_len la33 hi29 hl17.len c23), ?_⟩
              exact ⟨F61, (), acc31 ++ [(y18.a, y18.b)], wa32 ++ [V.ref p59], S36, O62.set 0 (.lst (wa32 ++ [V.ref p59])) rfl, RL.snoc hl37 h65, by rw [List.length_append]; exact Nat.succ_le_succ la33, hk⟩
            · have hk := wp_el hk q58
              refine ⟨_, rfl, _, rfl, _, _, rfl, rfl, _, rfl, ?_⟩
              refine iteD (fun q66 => ?_) (fun q66 => ?_)
              · have hk := wp_if hk q66
                refine ⟨_, rfl, _, rfl, (by show 2 ≤ sizeLine; decide), fun p67 hp68 => ?_⟩
                obtain ⟨F69, O70, S71, h72⟩ := O38.putE hp68 (.tup [V.int y18.a, V.int y18.b])
                have f_worths := f_worths.mono S71
                have f_ties := f_ties.mono S71
                have h4 := S71 _ _ h4
                have hl5 := hl5.mono S71
                have h10 := S71 _ _ h10
                have hl11 := hl11.mono S71
                have h16 := S71 _ _ h16
                have hl17 := hl17.mono S71
                have S36 := S36.trans S71
                have hl37 := hl37.mono S71
                have r40 := r40.mono S71
                have h43 := S71 _ _ h43
                have h73 : R (a := (Int × Int)) F69 (.ref p67) (y18.a, y18.b) := R.t2 h72 R.int R.int
                refine ⟨_, (O70.at 0 rfl), (comp_len la33 hi29 hl17.len c23), ?_⟩
                exact ⟨F69, (), acc31 ++ [(y18.a, y18.b)], wa32 ++ [V.ref p67], S36, O70.set 0 (.lst (wa32 ++ [V.ref p67])) rfl, RL.snoc hl37 h73, by rw [List.length_append]; exact Nat.succ_le_succ la33, hk⟩
              · have hk := wp_el hk q66
                exact ⟨F34, (), acc31, wa32, S36, O38, hl37, Nat.le_succ_of_le la33, hk⟩
        rintro H75 ⟨F76, st77, acc78, wa79, S80, O81, hl82, la83, hL84⟩
        rw [drop_end hl17.len] at hL84
        have hk := hLd22 _ _ hL84
        have f_worths := f_worths.mono S80
        have f_ties := f_ties.mono S80
        have h4 := S80 _ _ h4
        have hl5 := hl5.mono S80
        have h10 := S80 _ _ h10
        have hl11 := hl11.mono S80
        have h16 := S80 _ _ h16
        have hl17 := hl17.mono S80
        obtain ⟨F86, O87, S88, h89⟩ := O81.frzE 0 rfl z74
        have f_worths := f_worths.mono S88
        have f_ties := f_ties.mono S88
        have h4 := S88 _ _ h4
        have hl5 := hl5.mono S88
        have h10 := S88 _ _ h10
        have hl11 := hl11.mono S88
        have h16 := S88 _ _ h16
        have hl17 := hl17.mono S88
        have hl82 := hl82.mono S88
        have h90 := R.lst (a := (Int × Int)) h89 hl82
        refine ⟨(by show 0 ≤ sizeLine; decide), fun p91 hp92 => ?_⟩
        have hl98 : RL (a := (Int × Int)) F86 ([]) ([] : List (Int × Int)) := RL.nil
        obtain ⟨F93, O94, S95, h96⟩ := O87.putE hp92 (.lst ([]))
        have f_worths := f_worths.mono S95
        have f_ties := f_ties.mono S95
        have h4 := S95 _ _ h4
        have hl5 := hl5.mono S95
        have h10 := S95 _ _ h10
        have hl11 := hl11.mono S95
        have h16 := S95 _ _ h16
        have hl17 := hl17.mono S95
        have h90 := h90.mono S95
        have hl98 := hl98.mono S95
        have h97 := R.lst (a := (Int × Int)) h96 hl98
        refine ⟨_, _, (R.mono h90 O94.s), (R.mono h97 O94.s), _, rfl, ?_⟩
        refine iteD (fun q99 => ?_) (fun q99 => ?_)
        · have hk := wp_if hk q99
          exact hk _ _  O94.g 
        · have hk := wp_el hk q99
          refine ⟨(by show 1 ≤ sizeLine; decide), fun p101 hp102 => ?_⟩
          have hl104 : RL (a := Int) F93 ([V.int (0 : Int)]) ([(0 : Int)]) := RL.cons R.int RL.nil
          have z105 := O94.was hp102
          have O103 := O94.new (o := .lst ([V.int (0 : Int)])) hp102
          obtain ⟨c107, hk⟩ := wp_chk hk
          obtain ⟨L108, hL109, hLs110, hLd111⟩ := loopN_L hk
          refine ⟨_, rfl, _, rfl, c107.lo, c107.hi, ?_⟩
          refine for_range (lo := 0) (n := ((x_worths.length : Int)).toNat) (fun i σ H => ∃ (F_ : Hp) (st : (List Int)) (w_0 : (List V)) (t_0 : Option V) (t_1 : Option V) (t_2 : Option V) (t_3 : Option V) (t_4 : Option V) (t_5 : Option V), σ = [some (V.ref p1), some (V.ref p7), some (V.int (x_worths.length : Int)), some (V.ref p101), t_0, t_1, t_2, t_3, t_4, t_5] ∧ Same F93 F_ ∧ Ow _ F_ [(p101, .lst w_0)] H ∧ RL (a := Int) F_ w_0 st ∧ L108 (List.drop i (rangeL 0 (x_worths.length : Int))) st) ⟨F93, [(0 : Int)], [V.int (0 : Int)], none, none, none, none, none, none, rfl, Same.refl _, O103, hl104, hL109⟩ ?_ ?_
          · rintro i112 sg114 H115 hi116 ⟨F127, st118, w119, t121, t122, t123, t124, t125, t126, rfl, S117, O128, hl120, hL109⟩
            have f_worths := f_worths.mono S117
            have f_ties := f_ties.mono S117
            have h4 := S117 _ _ h4
            have hl5 := hl5.mono S117
            have h10 := S117 _ _ h10
            have hl11 := hl11.mono S117
            have h16 := S117 _ _ h16
            have hl17 := hl17.mono S117
            have h90 := h90.mono S117
            have h97 := h97.mono S117
            rw [rangeL_get0 hi116] at hL109
            have hk := hLs110 _ _ _ hL109
            obtain ⟨y106, he_⟩ : ∃ z_, z_ = 0 + (i112 : Int) := ⟨_, rfl⟩
            try rw [← he_] at hk
            rw [← he_]
            obtain ⟨p129, w130, e131, h132, hl133⟩ := R.lst_ f_ties
            cases e131
            obtain ⟨L135, hL136, hLs137, hLd138⟩ := loopN_L hk
            refine ⟨_, rfl, _, rfl, ⟨_, (SqLF O128.s h132)⟩, ?_⟩
            refine for_list (K := K) (xs := w130) (fun i σ H => ∃ (F_ : Hp) (st : (List Int)) (w_0 : (List V)) (t_0 : Option V) (t_1 : Option V) (t_2 : Option V) (t_3 : Option V) (t_4 : Option V), σ = [some (V.ref p1), some (V.ref p7), some (V.int (x_worths.length : Int)), some (V.ref p101), some (V.int y106), t_0, t_1, t_2, t_3, t_4] ∧ Same F127 F_ ∧ Ow _ F_ [(p101, .lst w_0)] H ∧ RL (a := Int) F_ w_0 st ∧ L135 (List.drop i x_ties) st) ⟨F127, st118, w119, t122, t123, t124, t125, t126, rfl, Same.refl _, O128, hl120, hL136⟩ (fun i_ σ_ H_ _ hp_ => ?_) ?_ ?_
            · obtain ⟨_, _, _, _, _, _, _, _, _, hS_, hO_, _⟩ := hp_
              exact SqLF hO_.s (hS_ _ _ h132)
            · rintro i139 x140 sg141 H142 hi143 ⟨F153, st145, w146, t148, t149, t150, t151, t152, rfl, S144, O154, hl147, hL136⟩
              have f_worths := f_worths.mono S144
              have f_ties := f_ties.mono S144
              have h4 := S144 _ _ h4
              have hl5 := hl5.mono S144
              have h10 := S144 _ _ h10
              have hl11 := hl11.mono S144
              have h16 := S144 _ _ h16
              have hl17 := hl17.mono S144
              have h90 := h90.mono S144
              have h97 := h97.mono S144
              have S117 := S117.trans S144
              have h132 := S144 _ _ h132
              have hl133 := hl133.mono S144
              obtain ⟨y134, e155, r156⟩ := RL.got hl133 hi143
              rw [drop_at e155] at hL136
              have hk := hLs137 _ _ _ hL136
              obtain ⟨p157, v160, v161, v162, e158, h159, r163, r164, r165⟩ := R.t3_ r156
              cases e158
              obtain rfl := R.int_ r163
              obtain rfl := R.int_ r164
              obtain rfl := R.int_ r165
              refine ⟨_, _, rfl, (SqTF O154.s h159), rfl, _, _, rfl, _, _, rfl, _, _, rfl, rfl, _, rfl, _, rfl, (by show 2 ≤ sizeLine; decide), fun p166 hp167 => ?_⟩
              obtain ⟨F168, O169, S170, h171⟩ := O154.putE hp167 (.tup [V.int y134.a, V.int y134.b])
              have f_worths := f_worths.mono S170
              have f_ties := f_ties.mono S170
              have h4 := S170 _ _ h4
              have hl5 := hl5.mono S170
              have h10 := S170 _ _ h10
              have hl11 := hl11.mono S170
              have h16 := S170 _ _ h16
              have hl17 := hl17.mono S170
              have h90 := h90.mono S170
              have h97 := h97.mono S170
              have S117 := S117.trans S170
              have h132 := S170 _ _ h132
              have hl133 := hl133.mono S170
              have hl147 := hl147.mono S170
              have S144 := S144.trans S170
              have r156 := r156.mono S170
              have h159 := S170 _ _ h159
              have h172 : R (a := (Int × Int)) F168 (.ref p166) (y134.a, y134.b) := R.t2 h171 R.int R.int
              refine ⟨_, rfl, _, rfl, (by show 2 ≤ sizeLine; decide), fun p173 hp174 => ?_⟩
              obtain ⟨F175, O176, S177, h178⟩ := O169.putE hp174 (.tup [V.int y134.b, V.int y134.a])
              have f_worths := f_worths.mono S177
              have f_ties := f_ties.mono S177
              have h4 := S177 _ _ h4
              have hl5 := hl5.mono S177
              have h10 := S177 _ _ h10
              have hl11 := hl11.mono S177
              have h16 := S177 _ _ h16
              have hl17 := hl17.mono S177
              have h90 := h90.mono S177
              have h97 := h97.mono S177
              have S117 := S117.trans S177
              have h132 := S177 _ _ h132
              have hl133 := hl133.mono S177
              have hl147 := hl147.mono S177
              have S144 := S144.trans S177
              have r156 := r156.mono S177
              have h159 := S177 _ _ h159
              have h172 := h172.mono S177
              have h179 : R (a := (Int × Int)) F175 (.ref p173) (y134.b, y134.a) := R.t2 h178 R.int R.int
              refine ⟨(by show 2 ≤ sizeLine; decide), fun p180 hp181 => ?_⟩
              have hl187 : RL (a := (Int × Int)) F175 ([V.ref p166, V.ref p173]) ([(y134.a, y134.b), (y134.b, y134.a)]) := RL.cons h172 (RL.cons h179 RL.nil)
              obtain ⟨F182, O183, S184, h185⟩ := O176.putE hp181 (.lst ([V.ref p166, V.ref p173]))
              have f_worths := f_worths.mono S184
              have f_ties := f_ties.mono S184
              have h4 := S184 _ _ h4
              have hl5 := hl5.mono S184
              have h10 := S184 _ _ h10
              have hl11 := hl11.mono S184
              have h16 := S184 _ _ h16
              have hl17 := hl17.mono S184
              have h90 := h90.mono S184
              have h97 := h97.mono S184
              have S117 := S117.trans S184
              have h132 := S184 _ _ h132
              have hl133 := hl133.mono S184
              have hl147 := hl147.mono S184
              have S144 := S144.trans S184
              have r156 := r156.mono S184
              have h159 := S184 _ _ h159
              have h172 := h172.mono S184
              have h179 := h179.mono S184
              have hl187 := hl187.mono S184
              have h186 := R.lst (a := (Int × Int)) h185 hl187
              obtain ⟨p188, w189, e190, h191, hl192⟩ := R.lst_ h186
              cases e190
              obtain ⟨L194, hL195, hLs196, hLd197⟩ := loopN_L hk
              refine ⟨_, rfl, ⟨_, (SqLF O183.s h191)⟩, ?_⟩
              refine for_list (K := K) (xs := w189) (fun i σ H => ∃ (F_ : Hp) (st : (List Int)) (w_0 : (List V)) (t_0 : Option V) (t_1 : Option V), σ = [some (V.ref p1), some (V.ref p7), some (V.int (x_worths.length : Int)), some (V.ref p101), some (V.int y106), some (V.int y134.a), some (V.int y134.b), some (V.int y134.c), t_0, t_1] ∧ Same F182 F_ ∧ Ow _ F_ [(p101, .lst w_0)] H ∧ RL (a := Int) F_ w_0 st ∧ L194 (List.drop i ([(y134.a, y134.b), (y134.b, y134.a)])) st) ⟨F182, st145, w146, t151, t152, rfl, Same.refl _, O183, hl147, hL195⟩ (fun i_ σ_ H_ _ hp_ => ?_) ?_ ?_
              · obtain ⟨_, _, _, _, _, _, hS_, hO_, _⟩ := hp_
                exact SqLF hO_.s (hS_ _ _ h191)
              · rintro i198 x199 sg200 H201 hi202 ⟨F209, st204, w205, t207, t208, rfl, S203, O210, hl206, hL195⟩
                have f_worths := f_worths.mono S203
                have f_ties := f_ties.mono S203
                have h4 := S203 _ _ h4
                have hl5 := hl5.mono S203
                have h10 := S203 _ _ h10
                have hl11 := hl11.mono S203
                have h16 := S203 _ _ h16
                have hl17 := hl17.mono S203
                have h90 := h90.mono S203
                have h97 := h97.mono S203
                have S117 := S117.trans S203
                have h132 := S203 _ _ h132
                have hl133 := hl133.mono S203
                have S144 := S144.trans S203
                have r156 := r156.mono S203
                have h159 := S203 _ _ h159
                have h172 := h172.mono S203
                have h179 := h179.mono S203
                have h186 := h186.mono S203
                have h191 := S203 _ _ h191
                have hl192 := hl192.mono S203
                obtain ⟨y193, e211, r212⟩ := RL.got hl192 hi202
                rw [drop_at e211] at hL195
                have hk := hLs196 _ _ _ hL195
                obtain ⟨p213, v216, v217, e214, h215, r218, r219⟩ := R.t2_ r212
                cases e214
                obtain rfl := R.int_ r218
                obtain rfl := R.int_ r219
                refine ⟨_, _, rfl, (SqTF O210.s h215), rfl, _, _, rfl, _, _, rfl, rfl, _, rfl, _, rfl, _, _, _, _, R.int, rfl, (.inl (O210.at 0 rfl)), (RL.mono (hl206) O210.s), _, rfl, ?_⟩
                refine iteD (fun q220 => ?_) (fun q220 => ?_)
                · have hk := wp_if hk q220
                  refine ⟨_, rfl, _, rfl, _, _, _, _, R.int, rfl, (.inl (O210.at 0 rfl)), (RL.mono (hl206) O210.s), _, rfl, ?_⟩
                  refine iteD (fun q221 => ?_) (fun q221 => ?_)
                  · have hk := wp_if hk q221
                    obtain ⟨c222, hk⟩ := wp_appL hk
                    refine ⟨_, rfl, (.inl ⟨rfl, _, SqL.of (O210.at 0 rfl)⟩), _, rfl, _, _, _, rfl, rfl, (O210.at 0 rfl), (by rw [hl206.len]; exact c222), ?_⟩
                    have O224 := O210.set 0 (.lst (w205 ++ [V.int y193.2])) rfl
                    have hl225 : RL (a := Int) F209 (w205 ++ [V.int y193.2]) (st204 ++ [y193.2]) := RL.snoc hl206 R.int
                    exact ⟨F209, (st204 ++ [y193.2]), (w205 ++ [V.int y193.2]), some (V.int y193.1), some (V.int y193.2), rfl, S203, O224, hl225, hk⟩
                  · have hk := wp_el hk q221
                    exact ⟨F209, st204, w205, some (V.int y193.1), some (V.int y193.2), rfl, S203, O210, hl206, hk⟩
                · have hk := wp_el hk q220
                  refine iteF ?_
                  exact ⟨F209, st204, w205, some (V.int y193.1), some (V.int y193.2), rfl, S203, O210, hl206, hk⟩
              rintro sg226 H227 ⟨F235, st229, w231, t233, t234, rfl, S228, O236, hl232, hL230⟩
              rw [drop_end hl192.len] at hL230
              have hk := hLd197 _ hL230
              have f_worths := f_worths.mono S228
              have f_ties := f_ties.mono S228
              have h4 := S228 _ _ h4
              have hl5 := hl5.mono S228
              have h10 := S228 _ _ h10
              have hl11 := hl11.mono S228
              have h16 := S228 _ _ h16
              have hl17 := hl17.mono S228
              have h90 := h90.mono S228
              have h97 := h97.mono S228
              have S117 := S117.trans S228
              have h132 := S228 _ _ h132
              have hl133 := hl133.mono S228
              have S144 := S144.trans S228
              have r156 := r156.mono S228
              have h159 := S228 _ _ h159
              have h172 := h172.mono S228
              have h179 := h179.mono S228
              have h186 := h186.mono S228
              have h191 := S228 _ _ h191
              have hl192 := hl192.mono S228
              exact ⟨F235, st229, w231, some (V.int y134.a), some (V.int y134.b), some (V.int y134.c), t233, t234, rfl, S144, O236, hl232, hk⟩
            rintro sg237 H238 ⟨F249, st240, w242, t244, t245, t246, t247, t248, rfl, S239, O250, hl243, hL241⟩
            rw [drop_end hl133.len] at hL241
            have hk := hLd138 _ hL241
            have f_worths := f_worths.mono S239
            have f_ties := f_ties.mono S239
            have h4 := S239 _ _ h4
            have hl5 := hl5.mono S239
            have h10 := S239 _ _ h10
            have hl11 := hl11.mono S239
            have h16 := S239 _ _ h16
            have hl17 := hl17.mono S239
            have h90 := h90.mono S239
            have h97 := h97.mono S239
            have S117 := S117.trans S239
            have h132 := S239 _ _ h132
            have hl133 := hl133.mono S239
            exact ⟨F249, st240, w242, some (V.int y106), t244, t245, t246, t247, t248, rfl, S117, O250, hl243, hk⟩
          rintro sg251 H252 ⟨F264, st254, w256, t258, t259, t260, t261, t262, t263, rfl, S253, O265, hl257, hL255⟩
          rw [rangeL_end0] at hL255
          have hk := hLd111 _ hL255
          have f_worths := f_worths.mono S253
          have f_ties := f_ties.mono S253
          have h4 := S253 _ _ h4
          have hl5 := hl5.mono S253
          have h10 := S253 _ _ h10
          have hl11 := hl11.mono S253
          have h16 := S253 _ _ h16
          have hl17 := hl17.mono S253
          have h90 := h90.mono S253
          have h97 := h97.mono S253
          refine ⟨_, rfl, _, _, _, rfl, (.inl (O265.at 0 rfl)), hl257.len, _, rfl, _, _, R.int, R.int, ?_⟩
          exact hk _ _  O265.g 
abbrev s_law_told : Stmt := top 26
theorem sc_law_told : FnScope ["worths", "ties", "caught", "found", "e"] ["worths", "ties"] (defScope s_law_told) := ⟨rfl, rfl, rfl, by decide +kernel, rfl, by decide +kernel, by decide +kernel⟩
def m_law_told (x_worths : (List Int)) (x_ties : (List (T3 Int Int Int))) : M ((Un ((List Int) × (List (T3 Int Int Int))) Str)) :=
tryF ["NoTree"] (
m_tree_of x_worths x_ties >>= fun r1 =>
.ok (fun _ =>
.ok (Un.l (r1.1, r1.2) : (Un ((List Int) × (List (T3 Int Int Int))) Str)))) (fun n_ => if n_ = "NoTree" then (
opt (atI ([("other" : Str), ("NoTree" : Str)]) (if true = true then (1 : Int) else 0)) >>= fun y65 =>
.ok (Un.r y65 : (Un ((List Int) × (List (T3 Int Int Int))) Str)))
else (
bad))
def sp_law_told (mg : Str → Option Value) : Sp := fun vs H Q E => ∃ (F : Hp) (v_worths : V) (x_worths : (List Int)) (v_ties : V) (x_ties : (List (T3 Int Int Int))), vs = [v_worths, v_ties] ∧ Pre F [] H ∧ R (a := (List Int)) F v_worths x_worths ∧ R (a := (List (T3 Int Int Int))) F v_ties x_ties ∧
  wp (m_law_told x_worths x_ties) (fun r => ∀ (F' H' : Hp), Gr [] F H F' H' → ∀ v : V, R (a := (Un ((List Int) × (List (T3 Int Int Int))) Str)) F' v r → Q v H')
  (fun n => ∀ (C : Addr) (H' : Hp), mg (Str.ofString n) = some (.ref C) → Kp [] H H' → E (.ref C) none H')
set_option maxHeartbeats 2000000 in
theorem ok_law_told (nb : Nb mg) (C_tree_of : Ca P w K mg base "tree_of" 2 ["worths", "ties"] (sp_tree_of mg)) (EX : ExAll K mg) (D : Df K mg "_law_told" "_law_told" s_law_told ["worths", "ties"]) : Ca P w K mg base "_law_told" 3 ["worths", "ties"] (sp_law_told mg) := by
  obtain ⟨fa_tree_of, fd_tree_of, G_tree_of, M_tree_of, K_tree_of, B_tree_of⟩ := C_tree_of.ex
  obtain ⟨C_SeatError, C_NoTree, C_NoForm, C_NoLength, C_NoName, C_NoOrder, C_NoPaper, C_NoPlace, C_NoRule, C_NoText, C_NoTie, XX⟩ := EX.ex
  refine Ca.mk' D sc_law_told (fun vs H Q E h => ?_) (fun q_ f_ cdv A outer s H vs Q E hr h => ?_)
  · obtain ⟨F, _, _, _, _, rfl, _⟩ := h
    rfl
  · obtain ⟨F, v_worths, x_worths, v_ties, x_ties, rfl, P0, f_worths, f_ties, hk⟩ := h
    have nd := sc_law_told.nd
    have hu64 := hr.units
    have hu128 := hu128_of hr
    have O := P0.start
    refine ⟨_, (pss_cons (ps_set (i := 2) nd rfl (Or.inl rfl) pe_non)
  (pss_cons (ps_set (i := 3) nd rfl (Or.inl rfl) pe_non)
  (pss_cons (ps_try_keep (i := 4) rfl rfl rfl nd rfl rfl ⟨by rfl, by decide +kernel, .inl XX.g_SeatError⟩ (takes_of rfl rfl rfl rfl) (fun W_ pn_ xe_ tk_ pas_ => (pss_one (ps_set (i := 3) nd rfl (Or.inl rfl) (pe_callW G_tree_of (hr.mono (by decide)) rfl M_tree_of K_tree_of B_tree_of tk_ (pa_cons (pv 0) (pa_cons (pv 1) pa_nil)))))) (fun a_ o_ pn_ => (pss_one (ps_set (i := 2) nd rfl (Or.inl rfl) (pv 4)))))
  (pss_cons (ps_if (pt_cmpR op_isN (pv 2) pe_non (nomark _)) (pss_one (ps_ret (pv 3))) pss_nil)
  (pss_cons (ps_if (pt_val (pe_callB (isutK (K := K) rfl) (by rfl) nb.b_isinstance (by decide +kernel) (pa_cons (pv 2) (pa_cons (pe_tup (pa_cons (C8.pe_gc (v := .ref C_NoForm) (by rfl) ⟨_, XX.g_NoForm, rfl⟩) (pa_cons (C8.pe_gc (v := .ref C_NoLength) (by rfl) ⟨_, XX.g_NoLength, rfl⟩) (pa_cons (C8.pe_gc (v := .ref C_NoName) (by rfl) ⟨_, XX.g_NoName, rfl⟩) (pa_cons (C8.pe_gc (v := .ref C_NoOrder) (by rfl) ⟨_, XX.g_NoOrder, rfl⟩) (pa_cons (C8.pe_gc (v := .ref C_NoPaper) (by rfl) ⟨_, XX.g_NoPaper, rfl⟩) (pa_cons (C8.pe_gc (v := .ref C_NoPlace) (by rfl) ⟨_, XX.g_NoPlace, rfl⟩) (pa_cons (C8.pe_gc (v := .ref C_NoRule) (by rfl) ⟨_, XX.g_NoRule, rfl⟩) (pa_cons (C8.pe_gc (v := .ref C_NoText) (by rfl) ⟨_, XX.g_NoText, rfl⟩) (pa_cons (C8.pe_gc (v := .ref C_NoTie) (by rfl) ⟨_, XX.g_NoTie, rfl⟩) pa_nil)))))))))) pa_nil)))) (pss_one (ps_ret pe_str)) pss_nil)
  (pss_one (ps_ret (pe_ix (ixListK (K := K) rfl) (pe_lst (pa_cons pe_str (pa_cons pe_str pa_nil))) (pe_callTy intB (by rfl) nb.b_int (by decide +kernel) (pa_cons (pe_and (pe_callB (isuK (K := K) rfl) (by rfl) nb.b_isinstance (by decide +kernel) (pa_cons (pv 2) (pa_cons (C8.pe_gc (v := .ref C_NoTree) (by rfl) ⟨_, XX.g_NoTree, rfl⟩) pa_nil))) (pe_one (pe_callB (isuK (K := K) rfl) (by rfl) nb.b_isinstance (by decide +kernel) (pa_cons (pv 2) (pa_cons (pe_bltn (v := .ty "ValueError") (by rfl) nb.b_ValueError (by decide +kernel) rfl) pa_nil))))) pa_nil)) (fun _ _ => rfl))))))))), ?_⟩
    have hk := wp_tryF hk
    refine ⟨_, rfl, _, rfl, _, _, _, _, _, rfl, O.pre0, f_worths, f_ties, wp_call hk (fun r1 er2 hk F3 H4 g5 p6 p7 w8 p13 w14 hn9 hf10 h11 hl12 hn15 hf16 h17 hl18 hne19 h20 => ?_) (fun n_ hn_ C_ H1_ hC_ kp_ => ?_)⟩
    · have O21 := O.call0 g5
      have S_ := g5.f
      have f_worths := f_worths.mono S_
      have f_ties := f_ties.mono S_
      have z23 := O.was hn15
      have O22 := O21.add' (O.fresh hn15) z23 hf16 h17
      have z26 := O.was hn9
      have O25 := O22.add' (nmem2 hne19 (O.fresh hn9)) z26 hf10 h11
      have hk := wp_okE hk
      refine ⟨_, rfl, rfl, _, rfl, ?_⟩
      rw [dNon_t]
      refine iteT ?_
      obtain ⟨F28, O29, S30, h31⟩ := O25.frzE 0 rfl z26
      have f_worths := f_worths.mono S30
      have f_ties := f_ties.mono S30
      have hl18 := hl18.mono S30
      have hl12 := hl12.mono S30
      have h20 := S30 _ _ h20
      have h32 := R.lst (a := Int) h31 hl12
      obtain ⟨F33, O34, S35, h36⟩ := O29.frzE 0 rfl z23
      have f_worths := f_worths.mono S35
      have f_ties := f_ties.mono S35
      have hl18 := hl18.mono S35
      have h20 := S35 _ _ h20
      have h32 := h32.mono S35
      have h37 := R.lst (a := (T3 Int Int Int)) h36 hl18
      have h38 := (R.t2 (x := ((r1.1, r1.2) : ((List Int) × (List (T3 Int Int Int))))) h20 h32 h37)
      refine ⟨_, rfl, ?_⟩
      exact hk _ _  O34.g  _ (R.un_l h38)
    · obtain ⟨hm_, hk⟩ := hn_
      obtain rfl := mem1 hm_
      have hk := wp_if hk rfl
      have eC_ := XX.g_NoTree.symm.trans hC_
      cases eC_
      have O39 := O.exc kp_
      refine ⟨true, PySem.W.exm_ref XX.b_SeatError XX.d_SeatError XX.t_SeatError XX.s_NoTree_SeatError, fun _ a40 ha41 => ?_, fun z => nomatch z⟩
      refine ⟨_, rfl, ?_⟩
      obtain ⟨F42, O43, S44, h45⟩ := O39.putE ha41 (excO (.ref C_NoTree) none a40)
      have f_worths := f_worths.mono S44
      have f_ties := f_ties.mono S44
      refine ⟨_, rfl, rfl, _, rfl, ?_⟩
      rw [dNon_f]
      refine iteF ?_
      refine ⟨_, rfl, (by show 9 ≤ sizeLine; decide), fun p46 hp47 => ?_⟩
      obtain ⟨F48, O49, S50, h51⟩ := O43.putE hp47 (.tup [V.ref C_NoForm, V.ref C_NoLength, V.ref C_NoName, V.ref C_NoOrder, V.ref C_NoPaper, V.ref C_NoPlace, V.ref C_NoRule, V.ref C_NoText, V.ref C_NoTie])
      have f_worths := f_worths.mono S50
      have f_ties := f_ties.mono S50
      have h45 := S50 _ _ h45
      refine ⟨_, _, _, _, _, false, rfl, (O49.s _ _ h51), (.cons (.own _) (.cons (.own _) (.cons (.own _) (.cons (.own _) (.cons (.own _) (.cons (.own _) (.cons (.own _) (.cons (.own _) (.cons (.own _) .nil))))))))), (.exc (O49.s _ _ h45) XX.e_NoTree), (any_no (kit_own XX.d_NoForm XX.t_NoForm XX.s_NoTree_NoForm XX.s_NoForm_NoForm) (any_no (kit_own XX.d_NoLength XX.t_NoLength XX.s_NoTree_NoLength XX.s_NoLength_NoLength) (any_no (kit_own XX.d_NoName XX.t_NoName XX.s_NoTree_NoName XX.s_NoName_NoName) (any_no (kit_own XX.d_NoOrder XX.t_NoOrder XX.s_NoTree_NoOrder XX.s_NoOrder_NoOrder) (any_no (kit_own XX.d_NoPaper XX.t_NoPaper XX.s_NoTree_NoPaper XX.s_NoPaper_NoPaper) (any_no (kit_own XX.d_NoPlace XX.t_NoPlace XX.s_NoTree_NoPlace XX.s_NoPlace_NoPlace) (any_no (kit_own XX.d_NoRule XX.t_NoRule XX.s_NoTree_NoRule XX.s_NoRule_NoRule) (any_no (kit_own XX.d_NoText XX.t_NoText XX.s_NoTree_NoText XX.s_NoText_NoText) (any_no (kit_own XX.d_NoTie XX.t_NoTie XX.s_NoTree_NoTie XX.s_NoTie_NoTie) kitAny_nil))))))))), _, rfl, ?_⟩
      refine iteF ?_
      refine ⟨(by show 2 ≤ sizeLine; decide), fun p52 hp53 => ?_⟩
      have hl59 : RL (a := Str) F48 ([V.str ("other" : Str), V.str ("NoTree" : Str)]) ([("other" : Str), ("NoTree" : Str)]) := RL.cons R.str (RL.cons R.str RL.nil)
      obtain ⟨F54, O55, S56, h57⟩ := O49.putE hp53 (.lst ([V.str ("other" : Str), V.str ("NoTree" : Str)]))
      have f_worths := f_worths.mono S56
      have f_ties := f_ties.mono S56
      have h45 := S56 _ _ h45
      have h51 := S56 _ _ h51
      have hl59 := hl59.mono S56
      have h58 := R.lst (a := Str) h57 hl59
      refine ⟨_, rfl, _, _, _, _, true, rfl, (.own _), (.exc (O55.s _ _ h45) XX.e_NoTree), (kit_own XX.d_NoTree XX.t_NoTree XX.s_NoTree_NoTree XX.s_NoTree_NoTree), _, rfl, ?_⟩
      refine iteT ?_
      obtain ⟨p60, w61, e62, h63, hl64⟩ := R.lst_ h58
      cases e62
      obtain ⟨y65, e66, hk⟩ := wp_opt hk
      obtain ⟨w67, e68, r69⟩ := hl64.atI e66
      obtain rfl := R.str_ r69
      refine ⟨_, rfl, _, _, _, _, true, rfl, (.ty _), (.exc (O55.s _ _ h45) XX.e_NoTree), (kit_blt (by decide +kernel) XX.v_NoTree), _, rfl, _, _, _, _, rfl, rfl, (SqLF O55.s h63), e68, ?_⟩
      exact hk _ _  O55.g  _ (R.un_r R.str)
abbrev s_law_spoilt : Stmt := top 27
theorem sc_law_spoilt : FnScope ["deck", "tree", "many", "far", "way", "at", "here", "there", "odd", "worths", "ties"] ["deck", "tree"] (defScope s_law_spoilt) := ⟨rfl, rfl, rfl, by decide +kernel, rfl, by decide +kernel, by decide +kernel⟩
def m_law_spoilt (x_deck : (List Int)) (x_tree : ((List Int) × (List (T3 Int Int Int)))) : M (((List Int) × (List (T3 Int Int Int))) × (List Int)) :=
m_law_copied x_tree >>= fun r1 =>
m_law_take x_deck (3 : Int) >>= fun r29 =>
opt (atI ([(1 : Int), (3 : Int), ((10 : Int) ^ Int.toNat (20 : Int))]) r29.1) >>= fun y43 =>
m_law_take r29.2 y43 >>= fun r48 =>
m_law_take r48.2 (10 : Int) >>= fun r57 =>
m_law_take r57.2 (if (r1.2.length : Int) > (1 : Int) then (r1.2.length : Int) else (1 : Int)) >>= fun r71 =>
m_law_take r71.2 (r1.1.length : Int) >>= fun r80 =>
m_law_take r80.2 (r1.1.length : Int) >>= fun r89 =>
if r57.1 = (0 : Int) then (
.ok ((([] : List Int), r1.2), r89.2))
else (
if r57.1 = (1 : Int) then (
chk (r1.1.length + ([(0 : Int)]).length < 16777216) >>= fun _ =>
.ok (((r1.1 ++ ([(0 : Int)])), r1.2), r89.2))
else (
if r57.1 = (2 : Int) then (
.ok (((cutL r1.1 none (some (-(1 : Int)))), r1.2), r89.2))
else (
if r57.1 = (3 : Int) then (
chk ((cutL r1.2 none (some r71.1)).length + (cutL r1.2 (some (r71.1 + (1 : Int))) none).length < 16777216) >>= fun _ =>
.ok ((r1.1, ((cutL r1.2 none (some r71.1)) ++ (cutL r1.2 (some (r71.1 + (1 : Int))) none))), r89.2))
else (
if r57.1 = (4 : Int) then (
chk ((cutL r1.2 none (some r71.1)).length + (cutL r1.2 (some r71.1) (some (r71.1 + (1 : Int)))).length < 16777216) >>= fun _ =>
chk (((cutL r1.2 none (some r71.1)) ++ (cutL r1.2 (some r71.1) (some (r71.1 + (1 : Int))))).length + (cutL r1.2 (some r71.1) none).length < 16777216) >>= fun _ =>
.ok ((r1.1, (((cutL r1.2 none (some r71.1)) ++ (cutL r1.2 (some r71.1) (some (r71.1 + (1 : Int))))) ++ (cutL r1.2 (some r71.1) none))), r89.2))
else (
if r57.1 = (5 : Int) then (
if (1 : Int) < (r1.2.length : Int) then (
opt (atI r1.2 (r71.1 - (1 : Int))) >>= fun y333 =>
chk ((cutL r1.2 none (some r71.1)).length + ([y333]).length < 16777216) >>= fun _ =>
chk (((cutL r1.2 none (some r71.1)) ++ ([y333])).length + (cutL r1.2 (some (r71.1 + (1 : Int))) none).length < 16777216) >>= fun _ =>
.ok ((r1.1, (((cutL r1.2 none (some r71.1)) ++ ([y333])) ++ (cutL r1.2 (some (r71.1 + (1 : Int))) none))), r89.2))
else (
if r57.1 = (6 : Int) then (
m_law_take r89.2 (5 : Int) >>= fun r461 =>
opt (atI ([(T3.mk ((-(1 : Int)) - r48.1) r80.1 (1 : Int)), (T3.mk r80.1 ((r1.1.length : Int) + r48.1) (1 : Int)), (T3.mk r80.1 r80.1 (2 : Int)), (T3.mk r80.1 r89.1 (3 : Int)), (T3.mk r89.1 r80.1 (0 : Int))]) r461.1) >>= fun y475 =>
chk ((cutL r1.2 none (some r71.1)).length + ([y475]).length < 16777216) >>= fun _ =>
chk (((cutL r1.2 none (some r71.1)) ++ ([y475])).length + (cutL r1.2 (some r71.1) none).length < 16777216) >>= fun _ =>
.ok ((r1.1, (((cutL r1.2 none (some r71.1)) ++ ([y475])) ++ (cutL r1.2 (some r71.1) none))), r461.2))
else (
if r1.2 = ([] : List (T3 Int Int Int)) then (
m_law_take r89.2 (5 : Int) >>= fun r568 =>
opt (atI ([(T3.mk ((-(1 : Int)) - r48.1) r80.1 (1 : Int)), (T3.mk r80.1 ((r1.1.length : Int) + r48.1) (1 : Int)), (T3.mk r80.1 r80.1 (2 : Int)), (T3.mk r80.1 r89.1 (3 : Int)), (T3.mk r89.1 r80.1 (0 : Int))]) r568.1) >>= fun y582 =>
chk ((cutL r1.2 none (some r71.1)).length + ([y582]).length < 16777216) >>= fun _ =>
chk (((cutL r1.2 none (some r71.1)) ++ ([y582])).length + (cutL r1.2 (some r71.1) none).length < 16777216) >>= fun _ =>
.ok ((r1.1, (((cutL r1.2 none (some r71.1)) ++ ([y582])) ++ (cutL r1.2 (some r71.1) none))), r568.2))
else (
if r57.1 = (7 : Int) then (
opt (atI r1.2 r71.1) >>= fun y672 =>
opt (atI r1.2 r71.1) >>= fun y691 =>
opt (atI r1.2 r71.1) >>= fun y710 =>
chk ((cutL r1.2 none (some r71.1)).length + ([(T3.mk y672.b y691.a y710.c)]).length < 16777216) >>= fun _ =>
chk (((cutL r1.2 none (some r71.1)) ++ ([(T3.mk y672.b y691.a y710.c)])).length + (cutL r1.2 (some (r71.1 + (1 : Int))) none).length < 16777216) >>= fun _ =>
.ok ((r1.1, (((cutL r1.2 none (some r71.1)) ++ ([(T3.mk y672.b y691.a y710.c)])) ++ (cutL r1.2 (some (r71.1 + (1 : Int))) none))), r89.2))
else (
m_law_take r89.2 (5 : Int) >>= fun r810 =>
opt (atI ([(T3.mk ((-(1 : Int)) - r48.1) r80.1 (1 : Int)), (T3.mk r80.1 ((r1.1.length : Int) + r48.1) (1 : Int)), (T3.mk r80.1 r80.1 (2 : Int)), (T3.mk r80.1 r89.1 (3 : Int)), (T3.mk r89.1 r80.1 (0 : Int))]) r810.1) >>= fun y824 =>
chk ((cutL r1.2 none (some r71.1)).length + ([y824]).length < 16777216) >>= fun _ =>
chk (((cutL r1.2 none (some r71.1)) ++ ([y824])).length + (cutL r1.2 (some (r71.1 + (1 : Int))) none).length < 16777216) >>= fun _ =>
.ok ((r1.1, (((cutL r1.2 none (some r71.1)) ++ ([y824])) ++ (cutL r1.2 (some (r71.1 + (1 : Int))) none))), r810.2))))))
else (
if r57.1 = (6 : Int) then (
m_law_take r89.2 (5 : Int) >>= fun r952 =>
opt (atI ([(T3.mk ((-(1 : Int)) - r48.1) r80.1 (1 : Int)), (T3.mk r80.1 ((r1.1.length : Int) + r48.1) (1 : Int)), (T3.mk r80.1 r80.1 (2 : Int)), (T3.mk r80.1 r89.1 (3 : Int)), (T3.mk r89.1 r80.1 (0 : Int))]) r952.1) >>= fun y966 =>
chk ((cutL r1.2 none (some r71.1)).length + ([y966]).length < 16777216) >>= fun _ =>
chk (((cutL r1.2 none (some r71.1)) ++ ([y966])).length + (cutL r1.2 (some r71.1) none).length < 16777216) >>= fun _ =>
.ok ((r1.1, (((cutL r1.2 none (some r71.1)) ++ ([y966])) ++ (cutL r1.2 (some r71.1) none))), r952.2))
else (
if r1.2 = ([] : List (T3 Int Int Int)) then (
m_law_take r89.2 (5 : Int) >>= fun r1059 =>
opt (atI ([(T3.mk ((-(1 : Int)) - r48.1) r80.1 (1 : Int)), (T3.mk r80.1 ((r1.1.length : Int) + r48.1) (1 : Int)), (T3.mk r80.1 r80.1 (2 : Int)), (T3.mk r80.1 r89.1 (3 : Int)), (T3.mk r89.1 r80.1 (0 : Int))]) r1059.1) >>= fun y1073 =>
chk ((cutL r1.2 none (some r71.1)).length + ([y1073]).length < 16777216) >>= fun _ =>
chk (((cutL r1.2 none (some r71.1)) ++ ([y1073])).length + (cutL r1.2 (some r71.1) none).length < 16777216) >>= fun _ =>
.ok ((r1.1, (((cutL r1.2 none (some r71.1)) ++ ([y1073])) ++ (cutL r1.2 (some r71.1) none))), r1059.2))
else (
if r57.1 = (7 : Int) then (
opt (atI r1.2 r71.1) >>= fun y1163 =>
opt (atI r1.2 r71.1) >>= fun y1182 =>
opt (atI r1.2 r71.1) >>= fun y1201 =>
chk ((cutL r1.2 none (some r71.1)).length + ([(T3.mk y1163.b y1182.a y1201.c)]).length < 16777216) >>= fun _ =>
chk (((cutL r1.2 none (some r71.1)) ++ ([(T3.mk y1163.b y1182.a y1201.c)])).length + (cutL r1.2 (some (r71.1 + (1 : Int))) none).length < 16777216) >>= fun _ =>
.ok ((r1.1, (((cutL r1.2 none (some r71.1)) ++ ([(T3.mk y1163.b y1182.a y1201.c)])) ++ (cutL r1.2 (some (r71.1 + (1 : Int))) none))), r89.2))
else (
m_law_take r89.2 (5 : Int) >>= fun r1301 =>
opt (atI ([(T3.mk ((-(1 : Int)) - r48.1) r80.1 (1 : Int)), (T3.mk r80.1 ((r1.1.length : Int) + r48.1) (1 : Int)), (T3.mk r80.1 r80.1 (2 : Int)), (T3.mk r80.1 r89.1 (3 : Int)), (T3.mk r89.1 r80.1 (0 : Int))]) r1301.1) >>= fun y1315 =>
chk ((cutL r1.2 none (some r71.1)).length + ([y1315]).length < 16777216) >>= fun _ =>
chk (((cutL r1.2 none (some r71.1)) ++ ([y1315])).length + (cutL r1.2 (some (r71.1 + (1 : Int))) none).length < 16777216) >>= fun _ =>
.ok ((r1.1, (((cutL r1.2 none (some r71.1)) ++ ([y1315])) ++ (cutL r1.2 (some (r71.1 + (1 : Int))) none))), r1301.2))))))))))
def sp_law_spoilt (mg : Str → Option Value) : Sp := fun vs H Q E => ∃ (F : Hp) (a_deck : Addr) (w_deck : (List V)) (x_deck : (List Int)) (v_tree : V) (x_tree : ((List Int) × (List (T3 Int Int Int)))), vs = [.ref a_deck, v_tree] ∧ Pre F [(a_deck, .lst w_deck)] H ∧ RL (a := Int) F w_deck x_deck ∧ R (a := ((List Int) × (List (T3 Int Int Int)))) F v_tree x_tree ∧
  wp (m_law_spoilt x_deck x_tree) (fun r => ∀ (F' H' : Hp) (w0 : (List V)), Gr [a_deck] F H F' H' → H' a_deck = some (.lst w0) → RL (a := Int) F' w0 r.2 → ∀ v : V, R (a := ((List Int) × (List (T3 Int Int Int)))) F' v r.1 → Q v H')
  (fun n => ∀ (C : Addr) (H' : Hp), mg (Str.ofString n) = some (.ref C) → Kp [a_deck] H H' → E (.ref C) none H')
set_option maxHeartbeats 2000000 in
theorem ok_law_spoilt (nb : Nb mg) (C_law_copied : Ca P w K mg base "_law_copied" 1 ["tree"] (sp_law_copied mg)) (C_law_take : Ca P w K mg base "_law_take" 1 ["deck", "many"] (sp_law_take mg)) (D : Df K mg "_law_spoilt" "_law_spoilt" s_law_spoilt ["deck", "tree"]) : Ca P w K mg base "_law_spoilt" 2 ["deck", "tree"] (sp_law_spoilt mg) := by
  obtain ⟨fa_law_copied, fd_law_copied, G_law_copied, M_law_copied, K_law_copied, B_law_copied⟩ := C_law_copied.ex
  obtain ⟨fa_law_take, fd_law_take, G_law_take, M_law_take, K_law_take, B_law_take⟩ := C_law_take.ex
  refine Ca.mk' D sc_law_spoilt (fun vs H Q E h => ?_) (fun q_ f_ cdv A outer s H vs Q E hr h => ?_)
  · obtain ⟨F, _, _, _, _, _, rfl, _⟩ := h
    rfl
  · obtain ⟨F, a_deck, w_deck, x_deck, v_tree, x_tree, rfl, P0, f_deck, f_tree, hk⟩ := h
    have nd := sc_law_spoilt.nd
    have hu64 := hr.units
    have hu128 := hu128_of hr
    have O := P0.start
    refine ⟨_, (pss_cons (ps_asg (pe_call G_law_copied (hr.mono (by decide)) rfl M_law_copied K_law_copied B_law_copied .nil (passes_call (takes_of rfl rfl rfl rfl) fun _ _ _ _ h => h) (pa_cons (pv 1) pa_nil)) (pg_tup rfl (pgs_cons (pg_name (i := 9) nd rfl (Or.inl rfl)) (pgs_cons (pg_name (i := 10) nd rfl (Or.inl rfl)) pgs_nil))))
  (pss_cons (ps_set (i := 2) nd rfl (Or.inl rfl) (pe_callB call_lenT (by rfl) nb.b_len PySem.boot_len (pa_cons (pv 9) pa_nil)))
  (pss_cons (ps_set (i := 3) nd rfl (Or.inl rfl) (pe_call G_law_take (hr.mono (by decide)) rfl M_law_take K_law_take B_law_take .nil (passes_call (takes_of rfl rfl rfl rfl) fun _ _ _ _ h => h) (pa_cons (pv 0) (pa_cons (pe_ix (ixListK (K := K) rfl) (pe_lst (pa_cons pe_int (pa_cons pe_int (pa_cons (pe_op op_pow pe_int pe_int) pa_nil)))) (pe_call G_law_take (hr.mono (by decide)) rfl M_law_take K_law_take B_law_take .nil (passes_call (takes_of rfl rfl rfl rfl) fun _ _ _ _ h => h) (pa_cons (pv 0) (pa_cons pe_int pa_nil))) (fun _ _ => rfl)) pa_nil))))
  (pss_cons (ps_set (i := 4) nd rfl (Or.inl rfl) (pe_call G_law_take (hr.mono (by decide)) rfl M_law_take K_law_take B_law_take .nil (passes_call (takes_of rfl rfl rfl rfl) fun _ _ _ _ h => h) (pa_cons (pv 0) (pa_cons pe_int pa_nil))))
  (pss_cons (ps_set (i := 5) nd rfl (Or.inl rfl) (pe_call G_law_take (hr.mono (by decide)) rfl M_law_take K_law_take B_law_take .nil (passes_call (takes_of rfl rfl rfl rfl) fun _ _ _ _ h => h) (pa_cons (pv 0) (pa_cons (pe_callB (call_max2 rfl) (by rfl) nb.b_max (by decide +kernel) (pa_cons pe_int (pa_cons (pe_callB call_lenT (by rfl) nb.b_len PySem.boot_len (pa_cons (pv 10) pa_nil)) pa_nil))) pa_nil))))
  (pss_cons (ps_set (i := 6) nd rfl (Or.inl rfl) (pe_call G_law_take (hr.mono (by decide)) rfl M_law_take K_law_take B_law_take .nil (passes_call (takes_of rfl rfl rfl rfl) fun _ _ _ _ h => h) (pa_cons (pv 0) (pa_cons (pv 2) pa_nil))))
  (pss_cons (ps_set (i := 7) nd rfl (Or.inl rfl) (pe_call G_law_take (hr.mono (by decide)) rfl M_law_take K_law_take B_law_take .nil (passes_call (takes_of rfl rfl rfl rfl) fun _ _ _ _ h => h) (pa_cons (pv 0) (pa_cons (pv 2) pa_nil))))
  (pss_cons (ps_if (pt_cmpR (op_eqT Int hu64) (pv 4) pe_int (nomark _)) (pss_one (ps_ret (pe_tup (pa_cons (pe_lst pa_nil) (pa_cons (pv 10) pa_nil))))) pss_nil)
  (pss_cons (ps_if (pt_cmpR (op_eqT Int hu64) (pv 4) pe_int (nomark _)) (pss_one (ps_ret (pe_tup (pa_cons (pe_op op_cat (pv 9) (pe_lst (pa_cons pe_int pa_nil))) (pa_cons (pv 10) pa_nil))))) pss_nil)
  (pss_cons (ps_if (pt_cmpR (op_eqT Int hu64) (pv 4) pe_int (nomark _)) (pss_one (ps_ret (pe_tup (pa_cons (pe_slice (slListK (K := K) rfl) (pv 9) po_none (po_some (pe_un un_neg pe_int))) (pa_cons (pv 10) pa_nil))))) pss_nil)
  (pss_cons (ps_if (pt_cmpR (op_eqT Int hu64) (pv 4) pe_int (nomark _)) (pss_one (ps_ret (pe_tup (pa_cons (pv 9) (pa_cons (pe_op op_cat (pe_slice (slListK (K := K) rfl) (pv 10) po_none (po_some (pv 5))) (pe_slice (slListK (K := K) rfl) (pv 10) (po_some (pe_op op_add (pv 5) pe_int)) po_none)) pa_nil))))) pss_nil)
  (pss_cons (ps_if (pt_cmpR (op_eqT Int hu64) (pv 4) pe_int (nomark _)) (pss_one (ps_ret (pe_tup (pa_cons (pv 9) (pa_cons (pe_op op_cat (pe_op op_cat (pe_slice (slListK (K := K) rfl) (pv 10) po_none (po_some (pv 5))) (pe_slice (slListK (K := K) rfl) (pv 10) (po_some (pv 5)) (po_some (pe_op op_add (pv 5) pe_int)))) (pe_slice (slListK (K := K) rfl) (pv 10) (po_some (pv 5)) po_none)) pa_nil))))) pss_nil)
  (pss_cons (ps_if (PW.pt (pw_and (pt_cmpR (op_eqT Int hu64) (pv 4) pe_int (nomark _)) (pw_and1 (pt_cmpR op_gt (pe_callB call_lenT (by rfl) nb.b_len PySem.boot_len (pa_cons (pv 10) pa_nil)) pe_int (nomark _))))) (pss_one (ps_ret (pe_tup (pa_cons (pv 9) (pa_cons (pe_op op_cat (pe_op op_cat (pe_slice (slListK (K := K) rfl) (pv 10) po_none (po_some (pv 5))) (pe_lst (pa_cons (pe_ix (ixListK (K := K) rfl) (pv 10) (pe_op op_sub (pv 5) pe_int) (fun _ _ => rfl)) pa_nil))) (pe_slice (slListK (K := K) rfl) (pv 10) (po_some (pe_op op_add (pv 5) pe_int)) po_none)) pa_nil))))) pss_nil)
  (pss_cons (ps_set (i := 8) nd rfl (Or.inl rfl) (pe_lst (pa_cons (pe_tup (pa_cons (pe_op op_sub (pe_un un_neg pe_int) (pv 3)) (pa_cons (pv 6) (pa_cons pe_int pa_nil)))) (pa_cons (pe_tup (pa_cons (pv 6) (pa_cons (pe_op op_add (pv 2) (pv 3)) (pa_cons pe_int pa_nil)))) (pa_cons (pe_tup (pa_cons (pv 6) (pa_cons (pv 6) (pa_cons pe_int pa_nil)))) (pa_cons (pe_tup (pa_cons (pv 6) (pa_cons (pv 7) (pa_cons pe_int pa_nil)))) (pa_cons (pe_tup (pa_cons (pv 7) (pa_cons (pv 6) (pa_cons pe_int pa_nil)))) pa_nil)))))))
  (pss_cons (ps_if (PW.pt (pw_or (pt_cmpR (op_eqT Int hu64) (pv 4) pe_int (nomark _)) (pw_or1 (pt_cmpR (op_eqT (List (T3 Int Int Int)) hu64) (pv 10) (pe_lst pa_nil) (nomark _))))) (pss_one (ps_ret (pe_tup (pa_cons (pv 9) (pa_cons (pe_op op_cat (pe_op op_cat (pe_slice (slListK (K := K) rfl) (pv 10) po_none (po_some (pv 5))) (pe_lst (pa_cons (pe_ix (ixListK (K := K) rfl) (pv 8) (pe_call G_law_take (hr.mono (by decide)) rfl M_law_take K_law_take B_law_take .nil (passes_call (takes_of rfl rfl rfl rfl) fun _ _ _ _ h => h) (pa_cons (pv 0) (pa_cons pe_int pa_nil))) (fun _ _ => rfl)) pa_nil))) (pe_slice (slListK (K := K) rfl) (pv 10) (po_some (pv 5)) po_none)) pa_nil))))) pss_nil)
  (pss_cons (ps_if (pt_cmpR (op_eqT Int hu64) (pv 4) pe_int (nomark _)) (pss_one (ps_ret (pe_tup (pa_cons (pv 9) (pa_cons (pe_op op_cat (pe_op op_cat (pe_slice (slListK (K := K) rfl) (pv 10) po_none (po_some (pv 5))) (pe_lst (pa_cons (pe_tup (pa_cons (pe_ix (ixTupK (K := K) rfl) (pe_ix (ixListK (K := K) rfl) (pv 10) (pv 5) (fun _ _ => rfl)) pe_int (fun _ _ => rfl)) (pa_cons (pe_ix (ixTupK (K := K) rfl) (pe_ix (ixListK (K := K) rfl) (pv 10) (pv 5) (fun _ _ => rfl)) pe_int (fun _ _ => rfl)) (pa_cons (pe_ix (ixTupK (K := K) rfl) (pe_ix (ixListK (K := K) rfl) (pv 10) (pv 5) (fun _ _ => rfl)) pe_int (fun _ _ => rfl)) pa_nil)))) pa_nil))) (pe_slice (slListK (K := K) rfl) (pv 10) (po_some (pe_op op_add (pv 5) pe_int)) po_none)) pa_nil))))) pss_nil)
  (pss_one (ps_ret (pe_tup (pa_cons (pv 9) (pa_cons (pe_op op_cat (pe_op op_cat (pe_slice (slListK (K := K) rfl) (pv 10) po_none (po_some (pv 5))) (pe_lst (pa_cons (pe_ix (ixListK (K := K) rfl) (pv 8) (pe_call G_law_take (hr.mono (by decide)) rfl M_law_take K_law_take B_law_take .nil (passes_call (takes_of rfl rfl rfl rfl) fun _ _ _ _ h => h) (pa_cons (pv 0) (pa_cons pe_int pa_nil))) (fun _ _ => rfl)) pa_nil))) (pe_slice (slListK (K := K) rfl) (pv 10) (po_some (pe_op op_add (pv 5) pe_int)) po_none)) pa_nil))))))))))))))))))))), ?_⟩
    refine ⟨_, rfl, _, _, _, rfl, O.pre0, f_tree, wp_call hk (fun r1 er2 hk F3 H4 g5 v6 r7 => ?_) (fun n hn C H1 hC kp => hn C H1 hC (O.kp0 kp))⟩
    have O8 := O.call0 g5
    have S_ := g5.f
    have f_deck := f_deck.mono S_
    have f_tree := f_tree.mono S_
    obtain ⟨p9, v12, v13, e10, h11, r14, r15⟩ := R.t2_ r7
    cases e10
    obtain ⟨p16, w17, e18, h19, hl20⟩ := R.lst_ r14
    cases e18
    refine ⟨_, _, rfl, (SqTF O8.s h11), rfl, _, _, rfl, _, _, rfl, rfl, _, rfl, _, _, _, rfl, (.inl (O8.s _ _ h19)), hl20.len, _, rfl, _, _, rfl, rfl, (by decide), (by show 3 ≤ sizeLine; decide), fun p21 hp22 => ?_⟩
    have hl28 : RL (a := Int) F3 ([V.int (1 : Int), V.int (3 : Int), V.int ((10 : Int) ^ Int.toNat (20 : Int))]) ([(1 : Int), (3 : Int), ((10 : Int) ^ Int.toNat (20 : Int))]) := RL.cons R.int (RL.cons R.int (RL.cons R.int RL.nil))
    obtain ⟨F23, O24, S25, h26⟩ := O8.putE hp22 (.lst ([V.int (1 : Int), V.int (3 : Int), V.int ((10 : Int) ^ Int.toNat (20 : Int))]))
    have f_deck := f_deck.mono S25
    have f_tree := f_tree.mono S25
    have r7 := r7.mono S25
    have h11 := S25 _ _ h11
    have r14 := r14.mono S25
    have r15 := r15.mono S25
    have h19 := S25 _ _ h19
    have hl20 := hl20.mono S25
    have hl28 := hl28.mono S25
    have h27 := R.lst (a := Int) h26 hl28
    refine ⟨_, rfl, _, _, _, _, _, rfl, (O24.pre1 0 rfl), f_deck, wp_call hk (fun r29 er30 hk F31 H32 w34 g33 h35 hl36 => ?_) (fun n hn C H1 hC kp => hn C H1 hC (O24.kp1 kp 0 rfl))⟩
    have O37 := O24.call1 g33 0 rfl h35
    have S_ := g33.f
    have f_tree := f_tree.mono S_
    have r7 := r7.mono S_
    have h11 := S_ _ _ h11
    have r14 := r14.mono S_
    have r15 := r15.mono S_
    have h19 := S_ _ _ h19
    have hl20 := hl20.mono S_
    have h27 := h27.mono S_
    obtain ⟨p38, w39, e40, h41, hl42⟩ := R.lst_ h27
    cases e40
    obtain ⟨y43, e44, hk⟩ := wp_opt hk
    obtain ⟨w45, e46, r47⟩ := hl42.atI e44
    obtain rfl := R.int_ r47
    refine ⟨_, _, _, _, rfl, rfl, (SqLF O37.s h41), e46, _, _, _, _, _, rfl, (O37.pre1 0 rfl), hl36, wp_call hk (fun r48 er49 hk F50 H51 w53 g52 h54 hl55 => ?_) (fun n hn C H1 hC kp => hn C H1 hC (O37.kp1 kp 0 rfl))⟩
    have O56 := O37.call1 g52 0 rfl h54
    have S_ := g52.f
    have f_tree := f_tree.mono S_
    have r7 := r7.mono S_
    have h11 := S_ _ _ h11
    have r14 := r14.mono S_
    have r15 := r15.mono S_
    have h19 := S_ _ _ h19
    have hl20 := hl20.mono S_
    have h27 := h27.mono S_
    have h41 := S_ _ _ h41
    have hl42 := hl42.mono S_
    refine ⟨_, rfl, _, _, _, _, _, rfl, (O56.pre1 0 rfl), hl55, wp_call hk (fun r57 er58 hk F59 H60 w62 g61 h63 hl64 => ?_) (fun n hn C H1 hC kp => hn C H1 hC (O56.kp1 kp 0 rfl))⟩
    have O65 := O56.call1 g61 0 rfl h63
    have S_ := g61.f
    have f_tree := f_tree.mono S_
    have r7 := r7.mono S_
    have h11 := S_ _ _ h11
    have r14 := r14.mono S_
    have r15 := r15.mono S_
    have h19 := S_ _ _ h19
    have hl20 := hl20.mono S_
    have h27 := h27.mono S_
    have h41 := S_ _ _ h41
    have hl42 := hl42.mono S_
    obtain ⟨p66, w67, e68, h69, hl70⟩ := R.lst_ r15
    cases e68
    refine ⟨_, rfl, _, rfl, _, _, _, rfl, (.inl (O65.s _ _ h69)), hl70.len, _, _, rfl, _, _, _, _, _, rfl, (O65.pre1 0 rfl), hl64, wp_call hk (fun r71 er72 hk F73 H74 w76 g75 h77 hl78 => ?_) (fun n hn C H1 hC kp => hn C H1 hC (O65.kp1 kp 0 rfl))⟩
    have O79 := O65.call1 g75 0 rfl h77
    have S_ := g75.f
    have f_tree := f_tree.mono S_
    have r7 := r7.mono S_
    have h11 := S_ _ _ h11
    have r14 := r14.mono S_
    have r15 := r15.mono S_
    have h19 := S_ _ _ h19
    have hl20 := hl20.mono S_
    have h27 := h27.mono S_
    have h41 := S_ _ _ h41
    have hl42 := hl42.mono S_
    have h69 := S_ _ _ h69
    have hl70 := hl70.mono S_
    refine ⟨_, rfl, _, rfl, _, _, _, _, _, rfl, (O79.pre1 0 rfl), hl78, wp_call hk (fun r80 er81 hk F82 H83 w85 g84 h86 hl87 => ?_) (fun n hn C H1 hC kp => hn C H1 hC (O79.kp1 kp 0 rfl))⟩
    have O88 := O79.call1 g84 0 rfl h86
    have S_ := g84.f
    have f_tree := f_tree.mono S_
    have r7 := r7.mono S_
    have h11 := S_ _ _ h11
    have r14 := r14.mono S_
    have r15 := r15.mono S_
    have h19 := S_ _ _ h19
    have hl20 := hl20.mono S_
    have h27 := h27.mono S_
    have h41 := S_ _ _ h41
    have hl42 := hl42.mono S_
    have h69 := S_ _ _ h69
    have hl70 := hl70.mono S_
    refine ⟨_, rfl, _, rfl, _, _, _, _, _, rfl, (O88.pre1 0 rfl), hl87, wp_call hk (fun r89 er90 hk F91 H92 w94 g93 h95 hl96 => ?_) (fun n hn C H1 hC kp => hn C H1 hC (O88.kp1 kp 0 rfl))⟩
    have O97 := O88.call1 g93 0 rfl h95
    have S_ := g93.f
    have f_tree := f_tree.mono S_
    have r7 := r7.mono S_
    have h11 := S_ _ _ h11
    have r14 := r14.mono S_
    have r15 := r15.mono S_
    have h19 := S_ _ _ h19
    have hl20 := hl20.mono S_
    have h27 := h27.mono S_
    have h41 := S_ _ _ h41
    have hl42 := hl42.mono S_
    have h69 := S_ _ _ h69
    have hl70 := hl70.mono S_
    refine ⟨_, rfl, _, _, R.int, R.int, _, rfl, ?_⟩
    refine iteD (fun q98 => ?_) (fun q98 => ?_)
    · have hk := wp_if hk q98
      refine ⟨(by show 0 ≤ sizeLine; decide), fun p99 hp100 => ?_⟩
      have hl106 : RL (a := Int) F91 ([]) ([] : List Int) := RL.nil
      obtain ⟨F101, O102, S103, h104⟩ := O97.putE hp100 (.lst ([]))
      have f_tree := f_tree.mono S103
      have r7 := r7.mono S103
      have h11 := S103 _ _ h11
      have r14 := r14.mono S103
      have r15 := r15.mono S103
      have h19 := S103 _ _ h19
      have hl20 := hl20.mono S103
      have h27 := h27.mono S103
      have h41 := S103 _ _ h41
      have hl42 := hl42.mono S103
      have h69 := S103 _ _ h69
      have hl70 := hl70.mono S103
      have hl96 := hl96.mono S103
      have hl106 := hl106.mono S103
      have h105 := R.lst (a := Int) h104 hl106
      refine ⟨_, rfl, (by show 2 ≤ sizeLine; decide), fun p107 hp108 => ?_⟩
      obtain ⟨F109, O110, S111, h112⟩ := O102.putE hp108 (.tup [V.ref p99, V.ref p66])
      have f_tree := f_tree.mono S111
      have r7 := r7.mono S111
      have h11 := S111 _ _ h11
      have r14 := r14.mono S111
      have r15 := r15.mono S111
      have h19 := S111 _ _ h19
      have hl20 := hl20.mono S111
      have h27 := h27.mono S111
      have h41 := S111 _ _ h41
      have hl42 := hl42.mono S111
      have h69 := S111 _ _ h69
      have hl70 := hl70.mono S111
      have hl96 := hl96.mono S111
      have h105 := h105.mono S111
      have h113 : R (a := ((List Int) × (List (T3 Int Int Int)))) F109 (.ref p107) (([] : List Int), r1.2) := R.t2 h112 h105 r15
      exact hk _ _ w94 O110.g (O110.at 0 rfl) hl96 _ h113
    · have hk := wp_el hk q98
      refine ⟨_, rfl, _, _, R.int, R.int, _, rfl, ?_⟩
      refine iteD (fun q114 => ?_) (fun q114 => ?_)
      · have hk := wp_if hk q114
        refine ⟨_, rfl, (by show 1 ≤ sizeLine; decide), fun p115 hp116 => ?_⟩
        have hl122 : RL (a := Int) F91 ([V.int (0 : Int)]) ([(0 : Int)]) := RL.cons R.int RL.nil
        obtain ⟨F117, O118, S119, h120⟩ := O97.putE hp116 (.lst ([V.int (0 : Int)]))
        have f_tree := f_tree.mono S119
        have r7 := r7.mono S119
        have h11 := S119 _ _ h11
        have r14 := r14.mono S119
        have r15 := r15.mono S119
        have h19 := S119 _ _ h19
        have hl20 := hl20.mono S119
        have h27 := h27.mono S119
        have h41 := S119 _ _ h41
        have hl42 := hl42.mono S119
        have h69 := S119 _ _ h69
        have hl70 := hl70.mono S119
        have hl96 := hl96.mono S119
        have hl122 := hl122.mono S119
        have h121 := R.lst (a := Int) h120 hl122
        obtain ⟨p123, w124, e125, h126, hl127⟩ := R.lst_ r14
        cases e125
        obtain ⟨p128, w129, e130, h131, hl132⟩ := R.lst_ h121
        cases e130
        obtain ⟨c133, hk⟩ := wp_chk hk
        refine ⟨_, _, _, _, rfl, rfl, (O118.s _ _ h126), (O118.s _ _ h131), (by rw [hl127.len, hl132.len]; exact le_line c133), fun p134 hp135 => ?_⟩
        have hl141 : RL (a := Int) F117 (w124 ++ w129) (r1.1 ++ ([(0 : Int)])) := RL.app hl127 hl132
        obtain ⟨F136, O137, S138, h139⟩ := O118.putE hp135 (.lst (w124 ++ w129))
        have f_tree := f_tree.mono S138
        have r7 := r7.mono S138
        have h11 := S138 _ _ h11
        have r14 := r14.mono S138
        have r15 := r15.mono S138
        have h19 := S138 _ _ h19
        have hl20 := hl20.mono S138
        have h27 := h27.mono S138
        have h41 := S138 _ _ h41
        have hl42 := hl42.mono S138
        have h69 := S138 _ _ h69
        have hl70 := hl70.mono S138
        have hl96 := hl96.mono S138
        have h121 := h121.mono S138
        have h126 := S138 _ _ h126
        have hl127 := hl127.mono S138
        have h131 := S138 _ _ h131
        have hl132 := hl132.mono S138
        have hl141 := hl141.mono S138
        have h140 := R.lst (a := Int) h139 hl141
        refine ⟨_, rfl, (by show 2 ≤ sizeLine; decide), fun p142 hp143 => ?_⟩
        obtain ⟨F144, O145, S146, h147⟩ := O137.putE hp143 (.tup [V.ref p134, V.ref p66])
        have f_tree := f_tree.mono S146
        have r7 := r7.mono S146
        have h11 := S146 _ _ h11
        have r14 := r14.mono S146
        have r15 := r15.mono S146
        have h19 := S146 _ _ h19
        have hl20 := hl20.mono S146
        have h27 := h27.mono S146
        have h41 := S146 _ _ h41
        have hl42 := hl42.mono S146
        have h69 := S146 _ _ h69
        have hl70 := hl70.mono S146
        have hl96 := hl96.mono S146
        have h121 := h121.mono S146
        have h126 := S146 _ _ h126
        have hl127 := hl127.mono S146
        have h131 := S146 _ _ h131
        have hl132 := hl132.mono S146
        have h140 := h140.mono S146
        have h148 : R (a := ((List Int) × (List (T3 Int Int Int)))) F144 (.ref p142) ((r1.1 ++ ([(0 : Int)])), r1.2) := R.t2 h147 h140 r15
        exact hk _ _ w94 O145.g (O145.at 0 rfl) hl96 _ h148
      · have hk := wp_el hk q114
        refine ⟨_, rfl, _, _, R.int, R.int, _, rfl, ?_⟩
        refine iteD (fun q149 => ?_) (fun q149 => ?_)
        · have hk := wp_if hk q149
          obtain ⟨p150, w151, e152, h153, hl154⟩ := R.lst_ r14
          cases e152
          refine ⟨_, rfl, _, rfl, _, rfl, _, _, rfl, (SqLF O97.s h153), fun p155 hp156 => ?_⟩
          have hl162 : RL (a := Int) F91 (cutV w151 none (some (-(1 : Int)))) (cutL r1.1 none (some (-(1 : Int)))) := RL.cutL hl154 none (some (-(1 : Int)))
          obtain ⟨F157, O158, S159, h160⟩ := O97.putE hp156 (.lst (cutV w151 none (some (-(1 : Int)))))
          have f_tree := f_tree.mono S159
          have r7 := r7.mono S159
          have h11 := S159 _ _ h11
          have r14 := r14.mono S159
          have r15 := r15.mono S159
          have h19 := S159 _ _ h19
          have hl20 := hl20.mono S159
          have h27 := h27.mono S159
          have h41 := S159 _ _ h41
          have hl42 := hl42.mono S159
          have h69 := S159 _ _ h69
          have hl70 := hl70.mono S159
          have hl96 := hl96.mono S159
          have h153 := S159 _ _ h153
          have hl154 := hl154.mono S159
          have hl162 := hl162.mono S159
          have h161 := R.lst (a := Int) h160 hl162
          refine ⟨_, rfl, (by show 2 ≤ sizeLine; decide), fun p163 hp164 => ?_⟩
          obtain ⟨F165, O166, S167, h168⟩ := O158.putE hp164 (.tup [V.ref p155, V.ref p66])
          have f_tree := f_tree.mono S167
          have r7 := r7.mono S167
          have h11 := S167 _ _ h11
          have r14 := r14.mono S167
          have r15 := r15.mono S167
          have h19 := S167 _ _ h19
          have hl20 := hl20.mono S167
          have h27 := h27.mono S167
          have h41 := S167 _ _ h41
          have hl42 := hl42.mono S167
          have h69 := S167 _ _ h69
          have hl70 := hl70.mono S167
          have hl96 := hl96.mono S167
          have h153 := S167 _ _ h153
          have hl154 := hl154.mono S167
          have h161 := h161.mono S167
          have h169 : R (a := ((List Int) × (List (T3 Int Int Int)))) F165 (.ref p163) ((cutL r1.1 none (some (-(1 : Int)))), r1.2) := R.t2 h168 h161 r15
          exact hk _ _ w94 O166.g (O166.at 0 rfl) hl96 _ h169
        · have hk := wp_el hk q149
          refine ⟨_, rfl, _, _, R.int, R.int, _, rfl, ?_⟩
          refine iteD (fun q170 => ?_) (fun q170 => ?_)
          · have hk := wp_if hk q170
            obtain ⟨p171, w172, e173, h174, hl175⟩ := R.lst_ r15
            cases e173
            refine ⟨_, rfl, _, rfl, _, rfl, _, rfl, _, _, rfl, (SqLF O97.s h174), fun p176 hp177 => ?_⟩
            have hl183 : RL (a := (T3 Int Int Int)) F91 (cutV w172 none (some r71.1)) (cutL r1.2 none (some r71.1)) := RL.cutL hl175 none (some r71.1)
            obtain ⟨F178, O179, S180, h181⟩ := O97.putE hp177 (.lst (cutV w172 none (some r71.1)))
            have f_tree := f_tree.mono S180
            have r7 := r7.mono S180
            have h11 := S180 _ _ h11
            have r14 := r14.mono S180
            have r15 := r15.mono S180
            have h19 := S180 _ _ h19
            have hl20 := hl20.mono S180
            have h27 := h27.mono S180
            have h41 := S180 _ _ h41
            have hl42 := hl42.mono S180
            have h69 := S180 _ _ h69
            have hl70 := hl70.mono S180
            have hl96 := hl96.mono S180
            have h174 := S180 _ _ h174
            have hl175 := hl175.mono S180
            have hl183 := hl183.mono S180
            have h182 := R.lst (a := (T3 Int Int Int)) h181 hl183
            obtain ⟨p184, w185, e186, h187, hl188⟩ := R.lst_ r15
            cases e186
            refine ⟨_, rfl, _, rfl, _, _, rfl, rfl, _, rfl, _, _, rfl, (SqLF O179.s h187), fun p189 hp190 => ?_⟩
            have hl196 : RL (a := (T3 Int Int Int)) F178 (cutV w185 (some (r71.1 + (1 : Int))) none) (cutL r1.2 (some (r71.1 + (1 : Int))) none) := RL.cutL hl188 (some (r71.1 + (1 : Int))) none
            obtain ⟨F191, O192, S193, h194⟩ := O179.putE hp190 (.lst (cutV w185 (some (r71.1 + (1 : Int))) none))
            have f_tree := f_tree.mono S193
            have r7 := r7.mono S193
            have h11 := S193 _ _ h11
            have r14 := r14.mono S193
            have r15 := r15.mono S193
            have h19 := S193 _ _ h19
            have hl20 := hl20.mono S193
            have h27 := h27.mono S193
            have h41 := S193 _ _ h41
            have hl42 := hl42.mono S193
            have h69 := S193 _ _ h69
            have hl70 := hl70.mono S193
            have hl96 := hl96.mono S193
            have h174 := S193 _ _ h174
            have hl175 := hl175.mono S193
            have h182 := h182.mono S193
            have h187 := S193 _ _ h187
            have hl188 := hl188.mono S193
            have hl196 := hl196.mono S193
            have h195 := R.lst (a := (T3 Int Int Int)) h194 hl196
            obtain ⟨p197, w198, e199, h200, hl201⟩ := R.lst_ h182
            cases e199
            obtain ⟨p202, w203, e204, h205, hl206⟩ := R.lst_ h195
            cases e204
            obtain ⟨c207, hk⟩ := wp_chk hk
            refine ⟨_, _, _, _, rfl, rfl, (O192.s _ _ h200), (O192.s _ _ h205), (by rw [hl201.len, hl206.len]; exact le_line c207), fun p208 hp209 => ?_⟩
            have hl215 : RL (a := (T3 Int Int Int)) F191 (w198 ++ w203) ((cutL r1.2 none (some r71.1)) ++ (cutL r1.2 (some (r71.1 + (1 : Int))) none)) := RL.app hl201 hl206
            obtain ⟨F210, O211, S212, h213⟩ := O192.putE hp209 (.lst (w198 ++ w203))
            have f_tree := f_tree.mono S212
            have r7 := r7.mono S212
            have h11 := S212 _ _ h11
            have r14 := r14.mono S212
            have r15 := r15.mono S212
            have h19 := S212 _ _ h19
            have hl20 := hl20.mono S212
            have h27 := h27.mono S212
            have h41 := S212 _ _ h41
            have hl42 := hl42.mono S212
            have h69 := S212 _ _ h69
            have hl70 := hl70.mono S212
            have hl96 := hl96.mono S212
            have h174 := S212 _ _ h174
            have hl175 := hl175.mono S212
            have h182 := h182.mono S212
            have h187 := S212 _ _ h187
            have hl188 := hl188.mono S212
            have h195 := h195.mono S212
            have h200 := S212 _ _ h200
            have hl201 := hl201.mono S212
            have h205 := S212 _ _ h205
            have hl206 := hl206.mono S212
            have hl215 := hl215.mono S212
            have h214 := R.lst (a := (T3 Int Int Int)) h213 hl215
            refine ⟨(by show 2 ≤ sizeLine; decide), fun p216 hp217 => ?_⟩
            obtain ⟨F218, O219, S220, h221⟩ := O211.putE hp217 (.tup [V.ref p16, V.ref p208])
            have f_tree := f_tree.mono S220
            have r7 := r7.mono S220
            have h11 := S220 _ _ h11
            have r14 := r14.mono S220
            have r15 := r15.mono S220
            have h19 := S220 _ _ h19
            have hl20 := hl20.mono S220
            have h27 := h27.mono S220
            have h41 := S220 _ _ h41
            have hl42 := hl42.mono S220
            have h69 := S220 _ _ h69
            have hl70 := hl70.mono S220
            have hl96 := hl96.mono S220
            have h174 := S220 _ _ h174
            have hl175 := hl175.mono S220
            have h182 := h182.mono S220
            have h187 := S220 _ _ h187
            have hl188 := hl188.mono S220
            have h195 := h195.mono S220
            have h200 := S220 _ _ h200
            have hl201 := hl201.mono S220
            have h205 := S220 _ _ h205
            have hl206 := hl206.mono S220
            have h214 := h214.mono S220
            have h222 : R (a := ((List Int) × (List (T3 Int Int Int)))) F218 (.ref p216) (r1.1, ((cutL r1.2 none (some r71.1)) ++ (cutL r1.2 (some (r71.1 + (1 : Int))) none))) := R.t2 h221 r14 h214
            exact hk _ _ w94 O219.g (O219.at 0 rfl) hl96 _ h222
          · have hk := wp_el hk q170
            refine ⟨_, rfl, _, _, R.int, R.int, _, rfl, ?_⟩
            refine iteD (fun q223 => ?_) (fun q223 => ?_)
            · have hk := wp_if hk q223
              obtain ⟨p224, w225, e226, h227, hl228⟩ := R.lst_ r15
              cases e226
              refine ⟨_, rfl, _, rfl, _, rfl, _, rfl, _, _, rfl, (SqLF O97.s h227), fun p229 hp230 => ?_⟩
              have hl236 : RL (a := (T3 Int Int Int)) F91 (cutV w225 none (some r71.1)) (cutL r1.2 none (some r71.1)) := RL.cutL hl228 none (some r71.1)
              obtain ⟨F231, O232, S233, h234⟩ := O97.putE hp230 (.lst (cutV w225 none (some r71.1)))
              have f_tree := f_tree.mono S233
              have r7 := r7.mono S233
              have h11 := S233 _ _ h11
              have r14 := r14.mono S233
              have r15 := r15.mono S233
              have h19 := S233 _ _ h19
              have hl20 := hl20.mono S233
              have h27 := h27.mono S233
              have h41 := S233 _ _ h41
              have hl42 := hl42.mono S233
              have h69 := S233 _ _ h69
              have hl70 := hl70.mono S233
              have hl96 := hl96.mono S233
              have h227 := S233 _ _ h227
              have hl228 := hl228.mono S233
              have hl236 := hl236.mono S233
              have h235 := R.lst (a := (T3 Int Int Int)) h234 hl236
              obtain ⟨p237, w238, e239, h240, hl241⟩ := R.lst_ r15
              cases e239
              refine ⟨_, rfl, _, rfl, _, rfl, _, rfl, _, _, rfl, rfl, _, rfl, _, _, rfl, (SqLF O232.s h240), fun p242 hp243 => ?_⟩
              have hl249 : RL (a := (T3 Int Int Int)) F231 (cutV w238 (some r71.1) (some (r71.1 + (1 : Int)))) (cutL r1.2 (some r71.1) (some (r71.1 + (1 : Int)))) := RL.cutL hl241 (some r71.1) (some (r71.1 + (1 : Int)))
              obtain ⟨F244, O245, S246, h247⟩ := O232.putE hp243 (.lst (cutV w238 (some r71.1) (some (r71.1 + (1 : Int)))))
              have f_tree := f_tree.mono S246
              have r7 := r7.mono S246
              have h11 := S246 _ _ h11
              have r14 := r14.mono S246
              have r15 := r15.mono S246
              have h19 := S246 _ _ h19
              have hl20 := hl20.mono S246
              have h27 := h27.mono S246
              have h41 := S246 _ _ h41
              have hl42 := hl42.mono S246
              have h69 := S246 _ _ h69
              have hl70 := hl70.mono S246
              have hl96 := hl96.mono S246
              have h227 := S246 _ _ h227
              have hl228 := hl228.mono S246
              have h235 := h235.mono S246
              have h240 := S246 _ _ h240
              have hl241 := hl241.mono S246
              have hl249 := hl249.mono S246
              have h248 := R.lst (a := (T3 Int Int Int)) h247 hl249
              obtain ⟨p250, w251, e252, h253, hl254⟩ := R.lst_ h235
              cases e252
              obtain ⟨p255, w256, e257, h258, hl259⟩ := R.lst_ h248
              cases e257
              obtain ⟨c260, hk⟩ := wp_chk hk
              refine ⟨_, _, _, _, rfl, rfl, (O245.s _ _ h253), (O245.s _ _ h258), (by rw [hl254.len, hl259.len]; exact le_line c260), fun p261 hp262 => ?_⟩
              have hl268 : RL (a := (T3 Int Int Int)) F244 (w251 ++ w256) ((cutL r1.2 none (some r71.1)) ++ (cutL r1.2 (some r71.1) (some (r71.1 + (1 : Int))))) := RL.app hl254 hl259
              obtain ⟨F263, O264, S265, h266⟩ := O245.putE hp262 (.lst (w251 ++ w256))
              have f_tree := f_tree.mono S265
              have r7 := r7.mono S265
              have h11 := S265 _ _ h11
              have r14 := r14.mono S265
              have r15 := r15.mono S265
              have h19 := S265 _ _ h19
              have hl20 := hl20.mono S265
              have h27 := h27.mono S265
              have h41 := S265 _ _ h41
              have hl42 := hl42.mono S265
              have h69 := S265 _ _ h69
              have hl70 := hl70.mono S265
              have hl96 := hl96.mono S265
              have h227 := S265 _ _ h227
              have hl228 := hl228.mono S265
              have h235 := h235.mono S265
              have h240 := S265 _ _ h240
              have hl241 := hl241.mono S265
              have h248 := h248.mono S265
              have h253 := S265 _ _ h253
              have hl254 := hl254.mono S265
              have h258 := S265 _ _ h258
              have hl259 := hl259.mono S265
              have hl268 := hl268.mono S265
              have h267 := R.lst (a := (T3 Int Int Int)) h266 hl268
              obtain ⟨p269, w270, e271, h272, hl273⟩ := R.lst_ r15
              cases e271
              refine ⟨_, rfl, _, rfl, _, rfl, _, _, rfl, (SqLF O264.s h272), fun p274 hp275 => ?_⟩
              have hl281 : RL (a := (T3 Int Int Int)) F263 (cutV w270 (some r71.1) none) (cutL r1.2 (some r71.1) none) := RL.cutL hl273 (some r71.1) none
              obtain ⟨F276, O277, S278, h279⟩ := O264.putE hp275 (.lst (cutV w270 (some r71.1) none))
              have f_tree := f_tree.mono S278
              have r7 := r7.mono S278
              have h11 := S278 _ _ h11
              have r14 := r14.mono S278
              have r15 := r15.mono S278
              have h19 := S278 _ _ h19
              have hl20 := hl20.mono S278
              have h27 := h27.mono S278
              have h41 := S278 _ _ h41
              have hl42 := hl42.mono S278
              have h69 := S278 _ _ h69
              have hl70 := hl70.mono S278
              have hl96 := hl96.mono S278
              have h227 := S278 _ _ h227
              have hl228 := hl228.mono S278
              have h235 := h235.mono S278
              have h240 := S278 _ _ h240
              have hl241 := hl241.mono S278
              have h248 := h248.mono S278
              have h253 := S278 _ _ h253
              have hl254 := hl254.mono S278
              have h258 := S278 _ _ h258
              have hl259 := hl259.mono S278
              have h267 := h267.mono S278
              have h272 := S278 _ _ h272
              have hl273 := hl273.mono S278
              have hl281 := hl281.mono S278
              have h280 := R.lst (a := (T3 Int Int Int)) h279 hl281
              obtain ⟨p282, w283, e284, h285, hl286⟩ := R.lst_ h267
              cases e284
              obtain ⟨p287, w288, e289, h290, hl291⟩ := R.lst_ h280
              cases e289
              obtain ⟨c292, hk⟩ := wp_chk hk
              refine ⟨_, _, _, _, rfl, rfl, (O277.s _ _ h285), (O277.s _ _ h290), (by rw [hl286.len, hl291.len]; exact le_line c292), fun p293 hp294 => ?_⟩
              have hl300 : RL (a := (T3 Int Int Int)) F276 (w283 ++ w288) (((cutL r1.2 none (some r71.1)) ++ (cutL r1.2 (some r71.1) (some (r71.1 + (1 : Int))))) ++ (cutL r1.2 (some r71.1) none)) := RL.app hl286 hl291
              obtain ⟨F295, O296, S297, h298⟩ := O277.putE hp294 (.lst (w283 ++ w288))
              have f_tree := f_tree.mono S297
              have r7 := r7.mono S297
              have h11 := S297 _ _ h11
              have r14 := r14.mono S297
              have r15 := r15.mono S297
              have h19 := S297 _ _ h19
              have hl20 := hl20.mono S297
              have h27 := h27.mono S297
              have h41 := S297 _ _ h41
              have hl42 := hl42.mono S297
              have h69 := S297 _ _ h69
              have hl70 := hl70.mono S297
              have hl96 := hl96.mono S297
              have h227 := S297 _ _ h227
              have hl228 := hl228.mono S297
              have h235 := h235.mono S297
              have h240 := S297 _ _ h240
              have hl241 := hl241.mono S297
              have h248 := h248.mono S297
              have h253 := S297 _ _ h253
              have hl254 := hl254.mono S297
              have h258 := S297 _ _ h258
              have hl259 := hl259.mono S297
              have h267 := h267.mono S297
              have h272 := S297 _ _ h272
              have hl273 := hl273.mono S297
              have h280 := h280.mono S297
              have h285 := S297 _ _ h285
              have hl286 := hl286.mono S297
              have h290 := S297 _ _ h290
              have hl291 := hl291.mono S297
              have hl300 := hl300.mono S297
              have h299 := R.lst (a := (T3 Int Int Int)) h298 hl300
              refine ⟨(by show 2 ≤ sizeLine; decide), fun p301 hp302 => ?_⟩
              obtain ⟨F303, O304, S305, h306⟩ := O296.putE hp302 (.tup [V.ref p16, V.ref p293])
              have f_tree := f_tree.mono S305
              have r7 := r7.mono S305
              have h11 := S305 _ _ h11
              have r14 := r14.mono S305
              have r15 := r15.mono S305
              have h19 := S305 _ _ h19
              have hl20 := hl20.mono S305
              have h27 := h27.mono S305
              have h41 := S305 _ _ h41
              have hl42 := hl42.mono S305
              have h69 := S305 _ _ h69
              have hl70 := hl70.mono S305
              have hl96 := hl96.mono S305
              have h227 := S305 _ _ h227
              have hl228 := hl228.mono S305
              have h235 := h235.mono S305
              have h240 := S305 _ _ h240
              have hl241 := hl241.mono S305
              have h248 := h248.mono S305
              have h253 := S305 _ _ h253
              have hl254 := hl254.mono S305
              have h258 := S305 _ _ h258
              have hl259 := hl259.mono S305
              have h267 := h267.mono S305
              have h272 := S305 _ _ h272
              have hl273 := hl273.mono S305
              have h280 := h280.mono S305
              have h285 := S305 _ _ h285
              have hl286 := hl286.mono S305
              have h290 := S305 _ _ h290
              have hl291 := hl291.mono S305
              have h299 := h299.mono S305
              have h307 : R (a := ((List Int) × (List (T3 Int Int Int)))) F303 (.ref p301) (r1.1, (((cutL r1.2 none (some r71.1)) ++ (cutL r1.2 (some r71.1) (some (r71.1 + (1 : Int))))) ++ (cutL r1.2 (some r71.1) none))) := R.t2 h306 r14 h299
              exact hk _ _ w94 O304.g (O304.at 0 rfl) hl96 _ h307
            · have hk := wp_el hk q223
              refine ⟨_, rfl, _, _, R.int, R.int, _, rfl, ?_⟩
              refine iteD (fun q308 => ?_) (fun q308 => ?_)
              · have hk := wp_if hk q308
                obtain ⟨p309, w310, e311, h312, hl313⟩ := R.lst_ r15
                cases e311
                refine ⟨_, rfl, _, _, _, rfl, (.inl (O97.s _ _ h312)), hl313.len, _, _, rfl, rfl, _, rfl, ?_⟩
                refine iteD (fun q314 => ?_) (fun q314 => ?_)
                · have hk := wp_if hk q314
                  obtain ⟨p315, w316, e317, h318, hl319⟩ := R.lst_ r15
                  cases e317
                  refine ⟨_, rfl, _, rfl, _, rfl, _, rfl, _, _, rfl, (SqLF O97.s h318), fun p320 hp321 => ?_⟩
                  have hl327 : RL (a := (T3 Int Int Int)) F91 (cutV w316 none (some r71.1)) (cutL r1.2 none (some r71.1)) := RL.cutL hl319 none (some r71.1)
                  obtain ⟨F322, O323, S324, h325⟩ := O97.putE hp321 (.lst (cutV w316 none (some r71.1)))
                  have f_tree := f_tree.mono S324
                  have r7 := r7.mono S324
                  have h11 := S324 _ _ h11
                  have r14 := r14.mono S324
                  have r15 := r15.mono S324
                  have h19 := S324 _ _ h19
                  have hl20 := hl20.mono S324
                  have h27 := h27.mono S324
                  have h41 := S324 _ _ h41
                  have hl42 := hl42.mono S324
                  have h69 := S324 _ _ h69
                  have hl70 := hl70.mono S324
                  have hl96 := hl96.mono S324
                  have h312 := S324 _ _ h312
                  have hl313 := hl313.mono S324
                  have h318 := S324 _ _ h318
                  have hl319 := hl319.mono S324
                  have hl327 := hl327.mono S324
                  have h326 := R.lst (a := (T3 Int Int Int)) h325 hl327
                  obtain ⟨p328, w329, e330, h331, hl332⟩ := R.lst_ r15
                  cases e330
                  obtain ⟨y333, e334, hk⟩ := wp_opt hk
                  obtain ⟨w335, e336, r337⟩ := hl332.atI e334
                  refine ⟨_, rfl, _, rfl, _, _, rfl, rfl, _, _, _, _, rfl, rfl, (SqLF O323.s h331), e336, (by show 1 ≤ sizeLine; decide), fun p338 hp339 => ?_⟩
                  have hl345 : RL (a := (T3 Int Int Int)) F322 ([w335]) ([y333]) := RL.cons r337 RL.nil
                  obtain ⟨F340, O341, S342, h343⟩ := O323.putE hp339 (.lst ([w335]))
                  have f_tree := f_tree.mono S342
                  have r7 := r7.mono S342
                  have h11 := S342 _ _ h11
                  have r14 := r14.mono S342
                  have r15 := r15.mono S342
                  have h19 := S342 _ _ h19
                  have hl20 := hl20.mono S342
                  have h27 := h27.mono S342
                  have h41 := S342 _ _ h41
                  have hl42 := hl42.mono S342
                  have h69 := S342 _ _ h69
                  have hl70 := hl70.mono S342
                  have hl96 := hl96.mono S342
                  have h312 := S342 _ _ h312
                  have hl313 := hl313.mono S342
                  have h318 := S342 _ _ h318
                  have hl319 := hl319.mono S342
                  have h326 := h326.mono S342
                  have h331 := S342 _ _ h331
                  have hl332 := hl332.mono S342
                  have r337 := r337.mono S342
                  have hl345 := hl345.mono S342
                  have h344 := R.lst (a := (T3 Int Int Int)) h343 hl345
                  obtain ⟨p346, w347, e348, h349, hl350⟩ := R.lst_ h326
                  cases e348
                  obtain ⟨p351, w352, e353, h354, hl355⟩ := R.lst_ h344
                  cases e353
                  obtain ⟨c356, hk⟩ := wp_chk hk
                  refine ⟨_, _, _, _, rfl, rfl, (O341.s _ _ h349), (O341.s _ _ h354), (by rw [hl350.len, hl355.len]; exact le_line c356), fun p357 hp358 => ?_⟩
                  have hl364 : RL (a := (T3 Int Int Int)) F340 (w347 ++ w352) ((cutL r1.2 none (some r71.1)) ++ ([y333])) := RL.app hl350 hl355
                  obtain ⟨F359, O360, S361, h362⟩ := O341.putE hp358 (.lst (w347 ++ w352))
                  have f_tree := f_tree.mono S361
                  have r7 := r7.mono S361
                  have h11 := S361 _ _ h11
                  have r14 := r14.mono S361
                  have r15 := r15.mono S361
                  have h19 := S361 _ _ h19
                  have hl20 := hl20.mono S361
                  have h27 := h27.mono S361
                  have h41 := S361 _ _ h41
                  have hl42 := hl42.mono S361
                  have h69 := S361 _ _ h69
                  have hl70 := hl70.mono S361
                  have hl96 := hl96.mono S361
                  have h312 := S361 _ _ h312
                  have hl313 := hl313.mono S361
                  have h318 := S361 _ _ h318
                  have hl319 := hl319.mono S361
                  have h326 := h326.mono S361
                  have h331 := S361 _ _ h331
                  have hl332 := hl332.mono S361
                  have r337 := r337.mono S361
                  have h344 := h344.mono S361
                  have h349 := S361 _ _ h349
                  have hl350 := hl350.mono S361
                  have h354 := S361 _ _ h354
                  have hl355 := hl355.mono S361
                  have hl364 := hl364.mono S361
                  have h363 := R.lst (a := (T3 Int Int Int)) h362 hl364
                  obtain ⟨p365, w366, e367, h368, hl369⟩ := R.lst_ r15
                  cases e367
                  refine ⟨_, rfl, _, rfl, _, _, rfl, rfl, _, rfl, _, _, rfl, (SqLF O360.s h368), fun p370 hp371 => ?_⟩
                  have hl377 : RL (a := (T3 Int Int Int)) F359 (cutV w366 (some (r71.1 + (1 : Int))) none) (cutL r1.2 (some (r71.1 + (1 : Int))) none) := RL.cutL hl369 (some (r71.1 + (1 : Int))) none
                  obtain ⟨F372, O373, S374, h375⟩ := O360.putE hp371 (.lst (cutV w366 (some (r71.1 + (1 : Int))) none))
                  have f_tree := f_tree.mono S374
                  have r7 := r7.mono S374
                  have h11 := S374 _ _ h11
                  have r14 := r14.mono S374
                  have r15 := r15.mono S374
                  have h19 := S374 _ _ h19
                  have hl20 := hl20.mono S374
                  have h27 := h27.mono S374
                  have h41 := S374 _ _ h41
                  have hl42 := hl42.mono S374
                  have h69 := S374 _ _ h69
                  have hl70 := hl70.mono S374
                  have hl96 := hl96.mono S374
                  have h312 := S374 _ _ h312
                  have hl313 := hl313.mono S374
                  have h318 := S374 _ _ h318
                  have hl319 := hl319.mono S374
                  have h326 := h326.mono S374
                  have h331 := S374 _ _ h331
                  have hl332 := hl332.mono S374
                  have r337 := r337.mono S374
                  have h344 := h344.mono S374
                  have h349 := S374 _ _ h349
                  have hl350 := hl350.mono S374
                  have h354 := S374 _ _ h354
                  have hl355 := hl355.mono S374
                  have h363 := h363.mono S374
                  have h368 := S374 _ _ h368
                  have hl369 := hl369.mono S374
                  have hl377 := hl377.mono S374
                  have h376 := R.lst (a := (T3 Int Int Int)) h375 hl377
                  obtain ⟨p378, w379, e380, h381, hl382⟩ := R.lst_ h363
                  cases e380
                  obtain ⟨p383, w384, e385, h386, hl387⟩ := R.lst_ h376
                  cases e385
                  obtain ⟨c388, hk⟩ := wp_chk hk
                  refine ⟨_, _, _, _, rfl, rfl, (O373.s _ _ h381), (O373.s _ _ h386), (by rw [hl382.len, hl387.len]; exact le_line c388), fun p389 hp390 => ?_⟩
                  have hl396 : RL (a := (T3 Int Int Int)) F372 (w379 ++ w384) (((cutL r1.2 none (some r71.1)) ++ ([y333])) ++ (cutL r1.2 (some (r71.1 + (1 : Int))) none)) := RL.app hl382 hl387
                  obtain ⟨F391, O392, S393, h394⟩ := O373.putE hp390 (.lst (w379 ++ w384))
                  have f_tree := f_tree.mono S393
                  have r7 := r7.mono S393
                  have h11 := S393 _ _ h11
                  have r14 := r14.mono S393
                  have r15 := r15.mono S393
                  have h19 := S393 _ _ h19
                  have hl20 := hl20.mono S393
                  have h27 := h27.mono S393
                  have h41 := S393 _ _ h41
                  have hl42 := hl42.mono S393
                  have h69 := S393 _ _ h69
                  have hl70 := hl70.mono S393
                  have hl96 := hl96.mono S393
                  have h312 := S393 _ _ h312
                  have hl313 := hl313.mono S393
                  have h318 := S393 _ _ h318
                  have hl319 := hl319.mono S393
                  have h326 := h326.mono S393
                  have h331 := S393 _ _ h331
                  have hl332 := hl332.mono S393
                  have r337 := r337.mono S393
                  have h344 := h344.mono S393
                  have h349 := S393 _ _ h349
                  have hl350 := hl350.mono S393
                  have h354 := S393 _ _ h354
                  have hl355 := hl355.mono S393
                  have h363 := h363.mono S393
                  have h368 := S393 _ _ h368
                  have hl369 := hl369.mono S393
                  have h376 := h376.mono S393
                  have h381 := S393 _ _ h381
                  have hl382 := hl382.mono S393
                  have h386 := S393 _ _ h386
                  have hl387 := hl387.mono S393
                  have hl396 := hl396.mono S393
                  have h395 := R.lst (a := (T3 Int Int Int)) h394 hl396
                  refine ⟨(by show 2 ≤ sizeLine; decide), fun p397 hp398 => ?_⟩
                  obtain ⟨F399, O400, S401, h402⟩ := O392.putE hp398 (.tup [V.ref p16, V.ref p389])
                  have f_tree := f_tree.mono S401
                  have r7 := r7.mono S401
                  have h11 := S401 _ _ h11
                  have r14 := r14.mono S401
                  have r15 := r15.mono S401
                  have h19 := S401 _ _ h19
                  have hl20 := hl20.mono S401
                  have h27 := h27.mono S401
                  have h41 := S401 _ _ h41
                  have hl42 := hl42.mono S401
                  have h69 := S401 _ _ h69
                  have hl70 := hl70.mono S401
                  have hl96 := hl96.mono S401
                  have h312 := S401 _ _ h312
                  have hl313 := hl313.mono S401
                  have h318 := S401 _ _ h318
                  have hl319 := hl319.mono S401
                  have h326 := h326.mono S401
                  have h331 := S401 _ _ h331
                  have hl332 := hl332.mono S401
                  have r337 := r337.mono S401
                  have h344 := h344.mono S401
                  have h349 := S401 _ _ h349
                  have hl350 := hl350.mono S401
                  have h354 := S401 _ _ h354
                  have hl355 := hl355.mono S401
                  have h363 := h363.mono S401
                  have h368 := S401 _ _ h368
                  have hl369 := hl369.mono S401
                  have h376 := h376.mono S401
                  have h381 := S401 _ _ h381
                  have hl382 := hl382.mono S401
                  have h386 := S401 _ _ h386
                  have hl387 := hl387.mono S401
                  have h395 := h395.mono S401
                  have h403 : R (a := ((List Int) × (List (T3 Int Int Int)))) F399 (.ref p397) (r1.1, (((cutL r1.2 none (some r71.1)) ++ ([y333])) ++ (cutL r1.2 (some (r71.1 + (1 : Int))) none))) := R.t2 h402 r14 h395
                  exact hk _ _ w94 O400.g (O400.at 0 rfl) hl96 _ h403
                · have hk := wp_el hk q314
                  refine ⟨_, rfl, _, rfl, _, _, rfl, rfl, _, rfl, (by show 3 ≤ sizeLine; decide), fun p404 hp405 => ?_⟩
                  obtain ⟨F406, O407, S408, h409⟩ := O97.putE hp405 (.tup [V.int ((-(1 : Int)) - r48.1), V.int r80.1, V.int (1 : Int)])
                  have f_tree := f_tree.mono S408
                  have r7 := r7.mono S408
                  have h11 := S408 _ _ h11
                  have r14 := r14.mono S408
                  have r15 := r15.mono S408
                  have h19 := S408 _ _ h19
                  have hl20 := hl20.mono S408
                  have h27 := h27.mono S408
                  have h41 := S408 _ _ h41
                  have hl42 := hl42.mono S408
                  have h69 := S408 _ _ h69
                  have hl70 := hl70.mono S408
                  have hl96 := hl96.mono S408
                  have h312 := S408 _ _ h312
                  have hl313 := hl313.mono S408
                  have h410 : R (a := (T3 Int Int Int)) F406 (.ref p404) (T3.mk ((-(1 : Int)) - r48.1) r80.1 (1 : Int)) := R.t3 h409 R.int R.int R.int
                  refine ⟨_, rfl, _, rfl, _, rfl, _, _, rfl, rfl, (by show 3 ≤ sizeLine; decide), fun p411 hp412 => ?_⟩
                  obtain ⟨F413, O414, S415, h416⟩ := O407.putE hp412 (.tup [V.int r80.1, V.int ((r1.1.length : Int) + r48.1), V.int (1 : Int)])
                  have f_tree := f_tree.mono S415
                  have r7 := r7.mono S415
                  have h11 := S415 _ _ h11
                  have r14 := r14.mono S415
                  have r15 := r15.mono S415
                  have h19 := S415 _ _ h19
                  have hl20 := hl20.mono S415
                  have h27 := h27.mono S415
                  have h41 := S415 _ _ h41
                  have hl42 := hl42.mono S415
                  have h69 := S415 _ _ h69
                  have hl70 := hl70.mono S415
                  have hl96 := hl96.mono S415
                  have h312 := S415 _ _ h312
                  have hl313 := hl313.mono S415
                  have h410 := h410.mono S415
                  have h417 : R (a := (T3 Int Int Int)) F413 (.ref p411) (T3.mk r80.1 ((r1.1.length : Int) + r48.1) (1 : Int)) := R.t3 h416 R.int R.int R.int
                  refine ⟨_, rfl, _, rfl, (by show 3 ≤ sizeLine; decide), fun p418 hp419 => ?_⟩
                  obtain ⟨F420, O421, S422, h423⟩ := O414.putE hp419 (.tup [V.int r80.1, V.int r80.1, V.int (2 : Int)])
                  have f_tree := f_tree.mono S422
                  have r7 := r7.mono S422
                  have h11 := S422 _ _ h11
                  have r14 := r14.mono S422
                  have r15 := r15.mono S422
                  have h19 := S422 _ _ h19
                  have hl20 := hl20.mono S422
                  have h27 := h27.mono S422
                  have h41 := S422 _ _ h41
                  have hl42 := hl42.mono S422
                  have h69 := S422 _ _ h69
                  have hl70 := hl70.mono S422
                  have hl96 := hl96.mono S422
                  have h312 := S422 _ _ h312
                  have hl313 := hl313.mono S422
                  have h410 := h410.mono S422
                  have h417 := h417.mono S422
                  have h424 : R (a := (T3 Int Int Int)) F420 (.ref p418) (T3.mk r80.1 r80.1 (2 : Int)) := R.t3 h423 R.int R.int R.int
                  refine ⟨_, rfl, _, rfl, (by show 3 ≤ sizeLine; decide), fun p425 hp426 => ?_⟩
                  obtain ⟨F427, O428, S429, h430⟩ := O421.putE hp426 (.tup [V.int r80.1, V.int r89.1, V.int (3 : Int)])
                  have f_tree := f_tree.mono S429
                  have r7 := r7.mono S429
                  have h11 := S429 _ _ h11
                  have r14 := r14.mono S429
                  have r15 := r15.mono S429
                  have h19 := S429 _ _ h19
                  have hl20 := hl20.mono S429
                  have h27 := h27.mono S429
                  have h41 := S429 _ _ h41
                  have hl42 := hl42.mono S429
                  have h69 := S429 _ _ h69
                  have hl70 := hl70.mono S429
                  have hl96 := hl96.mono S429
                  have h312 := S429 _ _ h312
                  have hl313 := hl313.mono S429
                  have h410 := h410.mono S429
                  have h417 := h417.mono S429
                  have h424 := h424.mono S429
                  have h431 : R (a := (T3 Int Int Int)) F427 (.ref p425) (T3.mk r80.1 r89.1 (3 : Int)) := R.t3 h430 R.int R.int R.int
                  refine ⟨_, rfl, _, rfl, (by show 3 ≤ sizeLine; decide), fun p432 hp433 => ?_⟩
                  obtain ⟨F434, O435, S436, h437⟩ := O428.putE hp433 (.tup [V.int r89.1, V.int r80.1, V.int (0 : Int)])
                  have f_tree := f_tree.mono S436
                  have r7 := r7.mono S436
                  have h11 := S436 _ _ h11
                  have r14 := r14.mono S436
                  have r15 := r15.mono S436
                  have h19 := S436 _ _ h19
                  have hl20 := hl20.mono S436
                  have h27 := h27.mono S436
                  have h41 := S436 _ _ h41
                  have hl42 := hl42.mono S436
                  have h69 := S436 _ _ h69
                  have hl70 := hl70.mono S436
                  have hl96 := hl96.mono S436
                  have h312 := S436 _ _ h312
                  have hl313 := hl313.mono S436
                  have h410 := h410.mono S436
                  have h417 := h417.mono S436
                  have h424 := h424.mono S436
                  have h431 := h431.mono S436
                  have h438 : R (a := (T3 Int Int Int)) F434 (.ref p432) (T3.mk r89.1 r80.1 (0 : Int)) := R.t3 h437 R.int R.int R.int
                  refine ⟨(by show 5 ≤ sizeLine; decide), fun p439 hp440 => ?_⟩
                  have hl446 : RL (a := (T3 Int Int Int)) F434 ([V.ref p404, V.ref p411, V.ref p418, V.ref p425, V.ref p432]) ([(T3.mk ((-(1 : Int)) - r48.1) r80.1 (1 : Int)), (T3.mk r80.1 ((r1.1.length : Int) + r48.1) (1 : Int)), (T3.mk r80.1 r80.1 (2 : Int)), (T3.mk r80.1 r89.1 (3 : Int)), (T3.mk r89.1 r80.1 (0 : Int))]) := RL.cons h410 (RL.cons h417 (RL.cons h424 (RL.cons h431 (RL.cons h438 RL.nil))))
                  obtain ⟨F441, O442, S443, h444⟩ := O435.putE hp440 (.lst ([V.ref p404, V.ref p411, V.ref p418, V.ref p425, V.ref p432]))
                  have f_tree := f_tree.mono S443
                  have r7 := r7.mono S443
                  have h11 := S443 _ _ h11
                  have r14 := r14.mono S443
                  have r15 := r15.mono S443
                  have h19 := S443 _ _ h19
                  have hl20 := hl20.mono S443
                  have h27 := h27.mono S443
                  have h41 := S443 _ _ h41
                  have hl42 := hl42.mono S443
                  have h69 := S443 _ _ h69
                  have hl70 := hl70.mono S443
                  have hl96 := hl96.mono S443
                  have h312 := S443 _ _ h312
                  have hl313 := hl313.mono S443
                  have h410 := h410.mono S443
                  have h417 := h417.mono S443
                  have h424 := h424.mono S443
                  have h431 := h431.mono S443
                  have h438 := h438.mono S443
                  have hl446 := hl446.mono S443
                  have h445 := R.lst (a := (T3 Int Int Int)) h444 hl446
                  refine ⟨_, rfl, _, _, R.int, R.int, _, rfl, ?_⟩
                  refine iteD (fun q447 => ?_) (fun q447 => ?_)
                  · have hk := wp_if hk q447
                    refine iteT ?_
                    obtain ⟨p448, w449, e450, h451, hl452⟩ := R.lst_ r15
                    cases e450
                    refine ⟨_, rfl, _, rfl, _, rfl, _, rfl, _, _, rfl, (SqLF O442.s h451), fun p453 hp454 => ?_⟩
                    have hl460 : RL (a := (T3 Int Int Int)) F441 (cutV w449 none (some r71.1)) (cutL r1.2 none (some r71.1)) := RL.cutL hl452 none (some r71.1)
                    obtain ⟨F455, O456, S457, h458⟩ := O442.putE hp454 (.lst (cutV w449 none (some r71.1)))
                    have f_tree := f_tree.mono S457
                    have r7 := r7.mono S457
                    have h11 := S457 _ _ h11
                    have r14 := r14.mono S457
                    have r15 := r15.mono S457
                    have h19 := S457 _ _ h19
                    have hl20 := hl20.mono S457
                    have h27 := h27.mono S457
                    have h41 := S457 _ _ h41
                    have hl42 := hl42.mono S457
                    have h69 := S457 _ _ h69
                    have hl70 := hl70.mono S457
                    have hl96 := hl96.mono S457
                    have h312 := S457 _ _ h312
                    have hl313 := hl313.mono S457
                    have h410 := h410.mono S457
                    have h417 := h417.mono S457
                    have h424 := h424.mono S457
                    have h431 := h431.mono S457
                    have h438 := h438.mono S457
                    have h445 := h445.mono S457
                    have h451 := S457 _ _ h451
                    have hl452 := hl452.mono S457
                    have hl460 := hl460.mono S457
                    have h459 := R.lst (a := (T3 Int Int Int)) h458 hl460
                    refine ⟨_, rfl, _, rfl, _, _, _, _, _, rfl, (O456.pre1 0 rfl), hl96, wp_call hk (fun r461 er462 hk F463 H464 w466 g465 h467 hl468 => ?_) (fun n hn C H1 hC kp => hn C H1 hC (O456.kp1 kp 0 rfl))⟩
                    have O469 := O456.call1 g465 0 rfl h467
                    have S_ := g465.f
                    have f_tree := f_tree.mono S_
                    have r7 := r7.mono S_
                    have h11 := S_ _ _ h11
                    have r14 := r14.mono S_
                    have r15 := r15.mono S_
                    have h19 := S_ _ _ h19
                    have hl20 := hl20.mono S_
                    have h27 := h27.mono S_
                    have h41 := S_ _ _ h41
                    have hl42 := hl42.mono S_
                    have h69 := S_ _ _ h69
                    have hl70 := hl70.mono S_
                    have h312 := S_ _ _ h312
                    have hl313 := hl313.mono S_
                    have h410 := h410.mono S_
                    have h417 := h417.mono S_
                    have h424 := h424.mono S_
                    have h431 := h431.mono S_
                    have h438 := h438.mono S_
                    have h445 := h445.mono S_
                    have h451 := S_ _ _ h451
                    have hl452 := hl452.mono S_
                    have h459 := h459.mono S_
                    obtain ⟨p470, w471, e472, h473, hl474⟩ := R.lst_ h445
                    cases e472
                    obtain ⟨y475, e476, hk⟩ := wp_opt hk
                    obtain ⟨w477, e478, r479⟩ := hl474.atI e476
                    refine ⟨_, _, _, _, rfl, rfl, (SqLF O469.s h473), e478, (by show 1 ≤ sizeLine; decide), fun p480 hp481 => ?_⟩
                    have hl487 : RL (a := (T3 Int Int Int)) F463 ([w477]) ([y475]) := RL.cons r479 RL.nil
                    obtain ⟨F482, O483, S484, h485⟩ := O469.putE hp481 (.lst ([w477]))
                    have f_tree := f_tree.mono S484
                    have r7 := r7.mono S484
                    have h11 := S484 _ _ h11
                    have r14 := r14.mono S484
                    have r15 := r15.mono S484
                    have h19 := S484 _ _ h19
                    have hl20 := hl20.mono S484
                    have h27 := h27.mono S484
                    have h41 := S484 _ _ h41
                    have hl42 := hl42.mono S484
                    have h69 := S484 _ _ h69
                    have hl70 := hl70.mono S484
                    have h312 := S484 _ _ h312
                    have hl313 := hl313.mono S484
                    have h410 := h410.mono S484
                    have h417 := h417.mono S484
                    have h424 := h424.mono S484
                    have h431 := h431.mono S484
                    have h438 := h438.mono S484
                    have h445 := h445.mono S484
                    have h451 := S484 _ _ h451
                    have hl452 := hl452.mono S484
                    have h459 := h459.mono S484
                    have hl468 := hl468.mono S484
                    have h473 := S484 _ _ h473
                    have hl474 := hl474.mono S484
                    have r479 := r479.mono S484
                    have hl487 := hl487.mono S484
                    have h486 := R.lst (a := (T3 Int Int Int)) h485 hl487
                    obtain ⟨p488, w489, e490, h491, hl492⟩ := R.lst_ h459
                    cases e490
                    obtain ⟨p493, w494, e495, h496, hl497⟩ := R.lst_ h486
                    cases e495
                    obtain ⟨c498, hk⟩ := wp_chk hk
                    refine ⟨_, _, _, _, rfl, rfl, (O483.s _ _ h491), (O483.s _ _ h496), (by rw [hl492.len, hl497.len]; exact le_line c498), fun p499 hp500 => ?_⟩
                    have hl506 : RL (a := (T3 Int Int Int)) F482 (w489 ++ w494) ((cutL r1.2 none (some r71.1)) ++ ([y475])) := RL.app hl492 hl497
                    obtain ⟨F501, O502, S503, h504⟩ := O483.putE hp500 (.lst (w489 ++ w494))
                    have f_tree := f_tree.mono S503
                    have r7 := r7.mono S503
                    have h11 := S503 _ _ h11
                    have r14 := r14.mono S503
                    have r15 := r15.mono S503
                    have h19 := S503 _ _ h19
                    have hl20 := hl20.mono S503
                    have h27 := h27.mono S503
                    have h41 := S503 _ _ h41
                    have hl42 := hl42.mono S503
                    have h69 := S503 _ _ h69
                    have hl70 := hl70.mono S503
                    have h312 := S503 _ _ h312
                    have hl313 := hl313.mono S503
                    have h410 := h410.mono S503
                    have h417 := h417.mono S503
                    have h424 := h424.mono S503
                    have h431 := h431.mono S503
                    have h438 := h438.mono S503
                    have h445 := h445.mono S503
                    have h451 := S503 _ _ h451
                    have hl452 := hl452.mono S503
                    have h459 := h459.mono S503
                    have hl468 := hl468.mono S503
                    have h473 := S503 _ _ h473
                    have hl474 := hl474.mono S503
                    have r479 := r479.mono S503
                    have h486 := h486.mono S503
                    have h491 := S503 _ _ h491
                    have hl492 := hl492.mono S503
                    have h496 := S503 _ _ h496
                    have hl497 := hl497.mono S503
                    have hl506 := hl506.mono S503
                    have h505 := R.lst (a := (T3 Int Int Int)) h504 hl506
                    obtain ⟨p507, w508, e509, h510, hl511⟩ := R.lst_ r15
                    cases e509
                    refine ⟨_, rfl, _, rfl, _, rfl, _, _, rfl, (SqLF O502.s h510), fun p512 hp513 => ?_⟩
                    have hl519 : RL (a := (T3 Int Int Int)) F501 (cutV w508 (some r71.1) none) (cutL r1.2 (some r71.1) none) := RL.cutL hl511 (some r71.1) none
                    obtain ⟨F514, O515, S516, h517⟩ := O502.putE hp513 (.lst (cutV w508 (some r71.1) none))
                    have f_tree := f_tree.mono S516
                    have r7 := r7.mono S516
                    have h11 := S516 _ _ h11
                    have r14 := r14.mono S516
                    have r15 := r15.mono S516
                    have h19 := S516 _ _ h19
                    have hl20 := hl20.mono S516
                    have h27 := h27.mono S516
                    have h41 := S516 _ _ h41
                    have hl42 := hl42.mono S516
                    have h69 := S516 _ _ h69
                    have hl70 := hl70.mono S516
                    have h312 := S516 _ _ h312
                    have hl313 := hl313.mono S516
                    have h410 := h410.mono S516
                    have h417 := h417.mono S516
                    have h424 := h424.mono S516
                    have h431 := h431.mono S516
                    have h438 := h438.mono S516
                    have h445 := h445.mono S516
                    have h451 := S516 _ _ h451
                    have hl452 := hl452.mono S516
                    have h459 := h459.mono S516
                    have hl468 := hl468.mono S516
                    have h473 := S516 _ _ h473
                    have hl474 := hl474.mono S516
                    have r479 := r479.mono S516
                    have h486 := h486.mono S516
                    have h491 := S516 _ _ h491
                    have hl492 := hl492.mono S516
                    have h496 := S516 _ _ h496
                    have hl497 := hl497.mono S516
                    have h505 := h505.mono S516
                    have h510 := S516 _ _ h510
                    have hl511 := hl511.mono S516
                    have hl519 := hl519.mono S516
                    have h518 := R.lst (a := (T3 Int Int Int)) h517 hl519
                    obtain ⟨p520, w521, e522, h523, hl524⟩ := R.lst_ h505
                    cases e522
                    obtain ⟨p525, w526, e527, h528, hl529⟩ := R.lst_ h518
                    cases e527
                    obtain ⟨c530, hk⟩ := wp_chk hk
                    refine ⟨_, _, _, _, rfl, rfl, (O515.s _ _ h523), (O515.s _ _ h528), (by rw [hl524.len, hl529.len]; exact le_line c530), fun p531 hp532 => ?_⟩
                    have hl538 : RL (a := (T3 Int Int Int)) F514 (w521 ++ w526) (((cutL r1.2 none (some r71.1)) ++ ([y475])) ++ (cutL r1.2 (some r71.1) none)) := RL.app hl524 hl529
                    obtain ⟨F533, O534, S535, h536⟩ := O515.putE hp532 (.lst (w521 ++ w526))
                    have f_tree := f_tree.mono S535
                    have r7 := r7.mono S535
                    have h11 := S535 _ _ h11
                    have r14 := r14.mono S535
                    have r15 := r15.mono S535
                    have h19 := S535 _ _ h19
                    have hl20 := hl20.mono S535
                    have h27 := h27.mono S535
                    have h41 := S535 _ _ h41
                    have hl42 := hl42.mono S535
                    have h69 := S535 _ _ h69
                    have hl70 := hl70.mono S535
                    have h312 := S535 _ _ h312
                    have hl313 := hl313.mono S535
                    have h410 := h410.mono S535
                    have h417 := h417.mono S535
                    have h424 := h424.mono S535
                    have h431 := h431.mono S535
                    have h438 := h438.mono S535
                    have h445 := h445.mono S535
                    have h451 := S535 _ _ h451
                    have hl452 := hl452.mono S535
                    have h459 := h459.mono S535
                    have hl468 := hl468.mono S535
                    have h473 := S535 _ _ h473
                    have hl474 := hl474.mono S535
                    have r479 := r479.mono S535
                    have h486 := h486.mono S535
                    have h491 := S535 _ _ h491
                    have hl492 := hl492.mono S535
                    have h496 := S535 _ _ h496
                    have hl497 := hl497.mono S535
                    have h505 := h505.mono S535
                    have h510 := S535 _ _ h510
                    have hl511 := hl511.mono S535
                    have h518 := h518.mono S535
                    have h523 := S535 _ _ h523
                    have hl524 := hl524.mono S535
                    have h528 := S535 _ _ h528
                    have hl529 := hl529.mono S535
                    have hl538 := hl538.mono S535
                    have h537 := R.lst (a := (T3 Int Int Int)) h536 hl538
                    refine ⟨(by show 2 ≤ sizeLine; decide), fun p539 hp540 => ?_⟩
                    obtain ⟨F541, O542, S543, h544⟩ := O534.putE hp540 (.tup [V.ref p16, V.ref p531])
                    have f_tree := f_tree.mono S543
                    have r7 := r7.mono S543
                    have h11 := S543 _ _ h11
                    have r14 := r14.mono S543
                    have r15 := r15.mono S543
                    have h19 := S543 _ _ h19
                    have hl20 := hl20.mono S543
                    have h27 := h27.mono S543
                    have h41 := S543 _ _ h41
                    have hl42 := hl42.mono S543
                    have h69 := S543 _ _ h69
                    have hl70 := hl70.mono S543
                    have h312 := S543 _ _ h312
                    have hl313 := hl313.mono S543
                    have h410 := h410.mono S543
                    have h417 := h417.mono S543
                    have h424 := h424.mono S543
                    have h431 := h431.mono S543
                    have h438 := h438.mono S543
                    have h445 := h445.mono S543
                    have h451 := S543 _ _ h451
                    have hl452 := hl452.mono S543
                    have h459 := h459.mono S543
                    have hl468 := hl468.mono S543
                    have h473 := S543 _ _ h473
                    have hl474 := hl474.mono S543
                    have r479 := r479.mono S543
                    have h486 := h486.mono S543
                    have h491 := S543 _ _ h491
                    have hl492 := hl492.mono S543
                    have h496 := S543 _ _ h496
                    have hl497 := hl497.mono S543
                    have h505 := h505.mono S543
                    have h510 := S543 _ _ h510
                    have hl511 := hl511.mono S543
                    have h518 := h518.mono S543
                    have h523 := S543 _ _ h523
                    have hl524 := hl524.mono S543
                    have h528 := S543 _ _ h528
                    have hl529 := hl529.mono S543
                    have h537 := h537.mono S543
                    have h545 : R (a := ((List Int) × (List (T3 Int Int Int)))) F541 (.ref p539) (r1.1, (((cutL r1.2 none (some r71.1)) ++ ([y475])) ++ (cutL r1.2 (some r71.1) none))) := R.t2 h544 r14 h537
                    exact hk _ _ w466 O542.g (O542.at 0 rfl) hl468 _ h545
                  · have hk := wp_el hk q447
                    refine ⟨_, rfl, (by show 0 ≤ sizeLine; decide), fun p546 hp547 => ?_⟩
                    have hl553 : RL (a := (T3 Int Int Int)) F441 ([]) ([] : List (T3 Int Int Int)) := RL.nil
                    obtain ⟨F548, O549, S550, h551⟩ := O442.putE hp547 (.lst ([]))
                    have f_tree := f_tree.mono S550
                    have r7 := r7.mono S550
                    have h11 := S550 _ _ h11
                    have r14 := r14.mono S550
                    have r15 := r15.mono S550
                    have h19 := S550 _ _ h19
                    have hl20 := hl20.mono S550
                    have h27 := h27.mono S550
                    have h41 := S550 _ _ h41
                    have hl42 := hl42.mono S550
                    have h69 := S550 _ _ h69
                    have hl70 := hl70.mono S550
                    have hl96 := hl96.mono S550
                    have h312 := S550 _ _ h312
                    have hl313 := hl313.mono S550
                    have h410 := h410.mono S550
                    have h417 := h417.mono S550
                    have h424 := h424.mono S550
                    have h431 := h431.mono S550
                    have h438 := h438.mono S550
                    have h445 := h445.mono S550
                    have hl553 := hl553.mono S550
                    have h552 := R.lst (a := (T3 Int Int Int)) h551 hl553
                    refine ⟨_, _, (R.mono r15 O549.s), (R.mono h552 O549.s), _, rfl, ?_⟩
                    refine iteD (fun q554 => ?_) (fun q554 => ?_)
                    · have hk := wp_if hk q554
                      obtain ⟨p555, w556, e557, h558, hl559⟩ := R.lst_ r15
                      cases e557
                      refine ⟨_, rfl, _, rfl, _, rfl, _, rfl, _, _, rfl, (SqLF O549.s h558), fun p560 hp561 => ?_⟩
                      have hl567 : RL (a := (T3 Int Int Int)) F548 (cutV w556 none (some r71.1)) (cutL r1.2 none (some r71.1)) := RL.cutL hl559 none (some r71.1)
                      obtain ⟨F562, O563, S564, h565⟩ := O549.putE hp561 (.lst (cutV w556 none (some r71.1)))
                      have f_tree := f_tree.mono S564
                      have r7 := r7.mono S564
                      have h11 := S564 _ _ h11
                      have r14 := r14.mono S564
                      have r15 := r15.mono S564
                      have h19 := S564 _ _ h19
                      have hl20 := hl20.mono S564
                      have h27 := h27.mono S564
                      have h41 := S564 _ _ h41
                      have hl42 := hl42.mono S564
                      have h69 := S564 _ _ h69
                      have hl70 := hl70.mono S564
                      have hl96 := hl96.mono S564
                      have h312 := S564 _ _ h312
                      have hl313 := hl313.mono S564
                      have h410 := h410.mono S564
                      have h417 := h417.mono S564
                      have h424 := h424.mono S564
                      have h431 := h431.mono S564
                      have h438 := h438.mono S564
                      have h445 := h445.mono S564
                      have h552 := h552.mono S564
                      have h558 := S564 _ _ h558
                      have hl559 := hl559.mono S564
                      have hl567 := hl567.mono S564
                      have h566 := R.lst (a := (T3 Int Int Int)) h565 hl567
                      refine ⟨_, rfl, _, rfl, _, _, _, _, _, rfl, (O563.pre1 0 rfl), hl96, wp_call hk (fun r568 er569 hk F570 H571 w573 g572 h574 hl575 => ?_) (fun n hn C H1 hC kp => hn C H1 hC (O563.kp1 kp 0 rfl))⟩
                      have O576 := O563.call1 g572 0 rfl h574
                      have S_ := g572.f
                      have f_tree := f_tree.mono S_
                      have r7 := r7.mono S_
                      have h11 := S_ _ _ h11
                      have r14 := r14.mono S_
                      have r15 := r15.mono S_
                      have h19 := S_ _ _ h19
                      have hl20 := hl20.mono S_
                      have h27 := h27.mono S_
                      have h41 := S_ _ _ h41
                      have hl42 := hl42.mono S_
                      have h69 := S_ _ _ h69
                      have hl70 := hl70.mono S_
                      have h312 := S_ _ _ h312
                      have hl313 := hl313.mono S_
                      have h410 := h410.mono S_
                      have h417 := h417.mono S_
                      have h424 := h424.mono S_
                      have h431 := h431.mono S_
                      have h438 := h438.mono S_
                      have h445 := h445.mono S_
                      have h552 := h552.mono S_
                      have h558 := S_ _ _ h558
                      have hl559 := hl559.mono S_
                      have h566 := h566.mono S_
                      obtain ⟨p577, w578, e579, h580, hl581⟩ := R.lst_ h445
                      cases e579
                      obtain ⟨y582, e583, hk⟩ := wp_opt hk
                      obtain ⟨w584, e585, r586⟩ := hl581.atI e583
                      refine ⟨_, _, _, _, rfl, rfl, (SqLF O576.s h580), e585, (by show 1 ≤ sizeLine; decide), fun p587 hp588 => ?_⟩
                      have hl594 : RL (a := (T3 Int Int Int)) F570 ([w584]) ([y582]) := RL.cons r586 RL.nil
                      obtain ⟨F589, O590, S591, h592⟩ := O576.putE hp588 (.lst ([w584]))
                      have f_tree := f_tree.mono S591
                      have r7 := r7.mono S591
                      have h11 := S591 _ _ h11
                      have r14 := r14.mono S591
                      have r15 := r15.mono S591
                      have h19 := S591 _ _ h19
                      have hl20 := hl20.mono S591
                      have h27 := h27.mono S591
                      have h41 := S591 _ _ h41
                      have hl42 := hl42.mono S591
                      have h69 := S591 _ _ h69
                      have hl70 := hl70.mono S591
                      have h312 := S591 _ _ h312
                      have hl313 := hl313.mono S591
                      have h410 := h410.mono S591
                      have h417 := h417.mono S591
                      have h424 := h424.mono S591
                      have h431 := h431.mono S591
                      have h438 := h438.mono S591
                      have h445 := h445.mono S591
                      have h552 := h552.mono S591
                      have h558 := S591 _ _ h558
                      have hl559 := hl559.mono S591
                      have h566 := h566.mono S591
                      have hl575 := hl575.mono S591
                      have h580 := S591 _ _ h580
                      have hl581 := hl581.mono S591
                      have r586 := r586.mono S591
                      have hl594 := hl594.mono S591
                      have h593 := R.lst (a := (T3 Int Int Int)) h592 hl594
                      obtain ⟨p595, w596, e597, h598, hl599⟩ := R.lst_ h566
                      cases e597
                      obtain ⟨p600, w601, e602, h603, hl604⟩ := R.lst_ h593
                      cases e602
                      obtain ⟨c605, hk⟩ := wp_chk hk
                      refine ⟨_, _, _, _, rfl, rfl, (O590.s _ _ h598), (O590.s _ _ h603), (by rw [hl599.len, hl604.len]; exact le_line c605), fun p606 hp607 => ?_⟩
                      have hl613 : RL (a := (T3 Int Int Int)) F589 (w596 ++ w601) ((cutL r1.2 none (some r71.1)) ++ ([y582])) := RL.app hl599 hl604
                      obtain ⟨F608, O609, S610, h611⟩ := O590.putE hp607 (.lst (w596 ++ w601))
                      have f_tree := f_tree.mono S610
                      have r7 := r7.mono S610
                      have h11 := S610 _ _ h11
                      have r14 := r14.mono S610
                      have r15 := r15.mono S610
                      have h19 := S610 _ _ h19
                      have hl20 := hl20.mono S610
                      have h27 := h27.mono S610
                      have h41 := S610 _ _ h41
                      have hl42 := hl42.mono S610
                      have h69 := S610 _ _ h69
                      have hl70 := hl70.mono S610
                      have h312 := S610 _ _ h312
                      have hl313 := hl313.mono S610
                      have h410 := h410.mono S610
                      have h417 := h417.mono S610
                      have h424 := h424.mono S610
                      have h431 := h431.mono S610
                      have h438 := h438.mono S610
                      have h445 := h445.mono S610
                      have h552 := h552.mono S610
                      have h558 := S610 _ _ h558
                      have hl559 := hl559.mono S610
                      have h566 := h566.mono S610
                      have hl575 := hl575.mono S610
                      have h580 := S610 _ _ h580
                      have hl581 := hl581.mono S610
                      have r586 := r586.mono S610
                      have h593 := h593.mono S610
                      have h598 := S610 _ _ h598
                      have hl599 := hl599.mono S610
                      have h603 := S610 _ _ h603
                      have hl604 := hl604.mono S610
                      have hl613 := hl613.mono S610
                      have h612 := R.lst (a := (T3 Int Int Int)) h611 hl613
                      obtain ⟨p614, w615, e616, h617, hl618⟩ := R.lst_ r15
                      cases e616
                      refine ⟨_, rfl, _, rfl, _, rfl, _, _, rfl, (SqLF O609.s h617), fun p619 hp620 => ?_⟩
                      have hl626 : RL (a := (T3 Int Int Int)) F608 (cutV w615 (some r71.1) none) (cutL r1.2 (some r71.1) none) := RL.cutL hl618 (some r71.1) none
                      obtain ⟨F621, O622, S623, h624⟩ := O609.putE hp620 (.lst (cutV w615 (some r71.1) none))
                      have f_tree := f_tree.mono S623
                      have r7 := r7.mono S623
                      have h11 := S623 _ _ h11
                      have r14 := r14.mono S623
                      have r15 := r15.mono S623
                      have h19 := S623 _ _ h19
                      have hl20 := hl20.mono S623
                      have h27 := h27.mono S623
                      have h41 := S623 _ _ h41
                      have hl42 := hl42.mono S623
                      have h69 := S623 _ _ h69
                      have hl70 := hl70.mono S623
                      have h312 := S623 _ _ h312
                      have hl313 := hl313.mono S623
                      have h410 := h410.mono S623
                      have h417 := h417.mono S623
                      have h424 := h424.mono S623
                      have h431 := h431.mono S623
                      have h438 := h438.mono S623
                      have h445 := h445.mono S623
                      have h552 := h552.mono S623
                      have h558 := S623 _ _ h558
                      have hl559 := hl559.mono S623
                      have h566 := h566.mono S623
                      have hl575 := hl575.mono S623
                      have h580 := S623 _ _ h580
                      have hl581 := hl581.mono S623
                      have r586 := r586.mono S623
                      have h593 := h593.mono S623
                      have h598 := S623 _ _ h598
                      have hl599 := hl599.mono S623
                      have h603 := S623 _ _ h603
                      have hl604 := hl604.mono S623
                      have h612 := h612.mono S623
                      have h617 := S623 _ _ h617
                      have hl618 := hl618.mono S623
                      have hl626 := hl626.mono S623
                      have h625 := R.lst (a := (T3 Int Int Int)) h624 hl626
                      obtain ⟨p627, w628, e629, h630, hl631⟩ := R.lst_ h612
                      cases e629
                      obtain ⟨p632, w633, e634, h635, hl636⟩ := R.lst_ h625
                      cases e634
                      obtain ⟨c637, hk⟩ := wp_chk hk
                      refine ⟨_, _, _, _, rfl, rfl, (O622.s _ _ h630), (O622.s _ _ h635), (by rw [hl631.len, hl636.len]; exact le_line c637), fun p638 hp639 => ?_⟩
                      have hl645 : RL (a := (T3 Int Int Int)) F621 (w628 ++ w633) (((cutL r1.2 none (some r71.1)) ++ ([y582])) ++ (cutL r1.2 (some r71.1) none)) := RL.app hl631 hl636
                      obtain ⟨F640, O641, S642, h643⟩ := O622.putE hp639 (.lst (w628 ++ w633))
                      have f_tree := f_tree.mono S642
                      have r7 := r7.mono S642
                      have h11 := S642 _ _ h11
                      have r14 := r14.mono S642
                      have r15 := r15.mono S642
                      have h19 := S642 _ _ h19
                      have hl20 := hl20.mono S642
                      have h27 := h27.mono S642
                      have h41 := S642 _ _ h41
                      have hl42 := hl42.mono S642
                      have h69 := S642 _ _ h69
                      have hl70 := hl70.mono S642
                      have h312 := S642 _ _ h312
                      have hl313 := hl313.mono S642
                      have h410 := h410.mono S642
                      have h417 := h417.mono S642
                      have h424 := h424.mono S642
                      have h431 := h431.mono S642
                      have h438 := h438.mono S642
                      have h445 := h445.mono S642
                      have h552 := h552.mono S642
                      have h558 := S642 _ _ h558
                      have hl559 := hl559.mono S642
                      have h566 := h566.mono S642
                      have hl575 := hl575.mono S642
                      have h580 := S642 _ _ h580
                      have hl581 := hl581.mono S642
                      have r586 := r586.mono S642
                      have h593 := h593.mono S642
                      have h598 := S642 _ _ h598
                      have hl599 := hl599.mono S642
                      have h603 := S642 _ _ h603
                      have hl604 := hl604.mono S642
                      have h612 := h612.mono S642
                      have h617 := S642 _ _ h617
                      have hl618 := hl618.mono S642
                      have h625 := h625.mono S642
                      have h630 := S642 _ _ h630
                      have hl631 := hl631.mono S642
                      have h635 := S642 _ _ h635
                      have hl636 := hl636.mono S642
                      have hl645 := hl645.mono S642
                      have h644 := R.lst (a := (T3 Int Int Int)) h643 hl645
                      refine ⟨(by show 2 ≤ sizeLine; decide), fun p646 hp647 => ?_⟩
                      obtain ⟨F648, O649, S650, h651⟩ := O641.putE hp647 (.tup [V.ref p16, V.ref p638])
                      have f_tree := f_tree.mono S650
                      have r7 := r7.mono S650
                      have h11 := S650 _ _ h11
                      have r14 := r14.mono S650
                      have r15 := r15.mono S650
                      have h19 := S650 _ _ h19
                      have hl20 := hl20.mono S650
                      have h27 := h27.mono S650
                      have h41 := S650 _ _ h41
                      have hl42 := hl42.mono S650
                      have h69 := S650 _ _ h69
                      have hl70 := hl70.mono S650
                      have h312 := S650 _ _ h312
                      have hl313 := hl313.mono S650
                      have h410 := h410.mono S650
                      have h417 := h417.mono S650
                      have h424 := h424.mono S650
                      have h431 := h431.mono S650
                      have h438 := h438.mono S650
                      have h445 := h445.mono S650
                      have h552 := h552.mono S650
                      have h558 := S650 _ _ h558
                      have hl559 := hl559.mono S650
                      have h566 := h566.mono S650
                      have hl575 := hl575.mono S650
                      have h580 := S650 _ _ h580
                      have hl581 := hl581.mono S650
                      have r586 := r586.mono S650
                      have h593 := h593.mono S650
                      have h598 := S650 _ _ h598
                      have hl599 := hl599.mono S650
                      have h603 := S650 _ _ h603
                      have hl604 := hl604.mono S650
                      have h612 := h612.mono S650
                      have h617 := S650 _ _ h617
                      have hl618 := hl618.mono S650
                      have h625 := h625.mono S650
                      have h630 := S650 _ _ h630
                      have hl631 := hl631.mono S650
                      have h635 := S650 _ _ h635
                      have hl636 := hl636.mono S650
                      have h644 := h644.mono S650
                      have h652 : R (a := ((List Int) × (List (T3 Int Int Int)))) F648 (.ref p646) (r1.1, (((cutL r1.2 none (some r71.1)) ++ ([y582])) ++ (cutL r1.2 (some r71.1) none))) := R.t2 h651 r14 h644
                      exact hk _ _ w573 O649.g (O649.at 0 rfl) hl575 _ h652
                    · have hk := wp_el hk q554
                      refine ⟨_, rfl, _, _, R.int, R.int, _, rfl, ?_⟩
                      refine iteD (fun q653 => ?_) (fun q653 => ?_)
                      · have hk := wp_if hk q653
                        obtain ⟨p654, w655, e656, h657, hl658⟩ := R.lst_ r15
                        cases e656
                        refine ⟨_, rfl, _, rfl, _, rfl, _, rfl, _, _, rfl, (SqLF O549.s h657), fun p659 hp660 => ?_⟩
                        have hl666 : RL (a := (T3 Int Int Int)) F548 (cutV w655 none (some r71.1)) (cutL r1.2 none (some r71.1)) := RL.cutL hl658 none (some r71.1)
                        obtain ⟨F661, O662, S663, h664⟩ := O549.putE hp660 (.lst (cutV w655 none (some r71.1)))
                        have f_tree := f_tree.mono S663
                        have r7 := r7.mono S663
                        have h11 := S663 _ _ h11
                        have r14 := r14.mono S663
                        have r15 := r15.mono S663
                        have h19 := S663 _ _ h19
                        have hl20 := hl20.mono S663
                        have h27 := h27.mono S663
                        have h41 := S663 _ _ h41
                        have hl42 := hl42.mono S663
                        have h69 := S663 _ _ h69
                        have hl70 := hl70.mono S663
                        have hl96 := hl96.mono S663
                        have h312 := S663 _ _ h312
                        have hl313 := hl313.mono S663
                        have h410 := h410.mono S663
                        have h417 := h417.mono S663
                        have h424 := h424.mono S663
                        have h431 := h431.mono S663
                        have h438 := h438.mono S663
                        have h445 := h445.mono S663
                        have h552 := h552.mono S663
                        have h657 := S663 _ _ h657
                        have hl658 := hl658.mono S663
                        have hl666 := hl666.mono S663
                        have h665 := R.lst (a := (T3 Int Int Int)) h664 hl666
                        obtain ⟨p667, w668, e669, h670, hl671⟩ := R.lst_ r15
                        cases e669
                        obtain ⟨y672, e673, hk⟩ := wp_opt hk
                        obtain ⟨w674, e675, r676⟩ := hl671.atI e673
                        obtain ⟨p677, v680, v681, v682, e678, h679, r683, r684, r685⟩ := R.t3_ r676
                        cases e678
                        obtain rfl := R.int_ r683
                        obtain rfl := R.int_ r684
                        obtain rfl := R.int_ r685
                        obtain ⟨p686, w687, e688, h689, hl690⟩ := R.lst_ r15
                        cases e688
                        obtain ⟨y691, e692, hk⟩ := wp_opt hk
                        obtain ⟨w693, e694, r695⟩ := hl690.atI e692
                        obtain ⟨p696, v699, v700, v701, e697, h698, r702, r703, r704⟩ := R.t3_ r695
                        cases e697
                        obtain rfl := R.int_ r702
                        obtain rfl := R.int_ r703
                        obtain rfl := R.int_ r704
                        obtain ⟨p705, w706, e707, h708, hl709⟩ := R.lst_ r15
                        cases e707
                        obtain ⟨y710, e711, hk⟩ := wp_opt hk
                        obtain ⟨w712, e713, r714⟩ := hl709.atI e711
                        obtain ⟨p715, v718, v719, v720, e716, h717, r721, r722, r723⟩ := R.t3_ r714
                        cases e716
                        obtain rfl := R.int_ r721
                        obtain rfl := R.int_ r722
                        obtain rfl := R.int_ r723
                        refine ⟨_, rfl, _, rfl, _, _, _, _, rfl, rfl, (SqLF O662.s h670), e675, _, _, _, _, rfl, rfl, (SqTF O662.s h679), rfl, _, rfl, _, rfl, _, _, _, _, rfl, rfl, (SqLF O662.s h689), e694, _, _, _, _, rfl, rfl, (SqTF O662.s h698), rfl, _, rfl, _, rfl, _, _, _, _, rfl, rfl, (SqLF O662.s h708), e713, _, _, _, _, rfl, rfl, (SqTF O662.s h717), rfl, (by show 3 ≤ sizeLine; decide), fun p724 hp725 => ?_⟩
                        obtain ⟨F726, O727, S728, h729⟩ := O662.putE hp725 (.tup [V.int y672.b, V.int y691.a, V.int y710.c])
                        have f_tree := f_tree.mono S728
                        have r7 := r7.mono S728
                        have h11 := S728 _ _ h11
                        have r14 := r14.mono S728
                        have r15 := r15.mono S728
                        have h19 := S728 _ _ h19
                        have hl20 := hl20.mono S728
                        have h27 := h27.mono S728
                        have h41 := S728 _ _ h41
                        have hl42 := hl42.mono S728
                        have h69 := S728 _ _ h69
                        have hl70 := hl70.mono S728
                        have hl96 := hl96.mono S728
                        have h312 := S728 _ _ h312
                        have hl313 := hl313.mono S728
                        have h410 := h410.mono S728
                        have h417 := h417.mono S728
                        have h424 := h424.mono S728
                        have h431 := h431.mono S728
                        have h438 := h438.mono S728
                        have h445 := h445.mono S728
                        have h552 := h552.mono S728
                        have h657 := S728 _ _ h657
                        have hl658 := hl658.mono S728
                        have h665 := h665.mono S728
                        have h670 := S728 _ _ h670
                        have hl671 := hl671.mono S728
                        have r676 := r676.mono S728
                        have h679 := S728 _ _ h679
                        have h689 := S728 _ _ h689
                        have hl690 := hl690.mono S728
                        have r695 := r695.mono S728
                        have h698 := S728 _ _ h698
                        have h708 := S728 _ _ h708
                        have hl709 := hl709.mono S728
                        have r714 := r714.mono S728
                        have h717 := S728 _ _ h717
                        have h730 : R (a := (T3 Int Int Int)) F726 (.ref p724) (T3.mk y672.b y691.a y710.c) := R.t3 h729 R.int R.int R.int
                        refine ⟨(by show 1 ≤ sizeLine; decide), fun p731 hp732 => ?_⟩
                        have hl738 : RL (a := (T3 Int Int Int)) F726 ([V.ref p724]) ([(T3.mk y672.b y691.a y710.c)]) := RL.cons h730 RL.nil
                        obtain ⟨F733, O734, S735, h736⟩ := O727.putE hp732 (.lst ([V.ref p724]))
                        have f_tree := f_tree.mono S735
                        have r7 := r7.mono S735
                        have h11 := S735 _ _ h11
                        have r14 := r14.mono S735
                        have r15 := r15.mono S735
                        have h19 := S735 _ _ h19
                        have hl20 := hl20.mono S735
                        have h27 := h27.mono S735
                        have h41 := S735 _ _ h41
                        have hl42 := hl42.mono S735
                        have h69 := S735 _ _ h69
                        have hl70 := hl70.mono S735
                        have hl96 := hl96.mono S735
                        have h312 := S735 _ _ h312
                        have hl313 := hl313.mono S735
                        have h410 := h410.mono S735
                        have h417 := h417.mono S735
                        have h424 := h424.mono S735
                        have h431 := h431.mono S735
                        have h438 := h438.mono S735
                        have h445 := h445.mono S735
                        have h552 := h552.mono S735
                        have h657 := S735 _ _ h657
                        have hl658 := hl658.mono S735
                        have h665 := h665.mono S735
                        have h670 := S735 _ _ h670
                        have hl671 := hl671.mono S735
                        have r676 := r676.mono S735
                        have h679 := S735 _ _ h679
                        have h689 := S735 _ _ h689
                        have hl690 := hl690.mono S735
                        have r695 := r695.mono S735
                        have h698 := S735 _ _ h698
                        have h708 := S735 _ _ h708
                        have hl709 := hl709.mono S735
                        have r714 := r714.mono S735
                        have h717 := S735 _ _ h717
                        have h730 := h730.mono S735
                        have hl738 := hl738.mono S735
                        have h737 := R.lst (a := (T3 Int Int Int)) h736 hl738
                        obtain ⟨p739, w740, e741, h742, hl743⟩ := R.lst_ h665
                        cases e741
                        obtain ⟨p744, w745, e746, h747, hl748⟩ := R.lst_ h737
                        cases e746
                        obtain ⟨c749, hk⟩ := wp_chk hk
                        refine ⟨_, _, _, _, rfl, rfl, (O734.s _ _ h742), (O734.s _ _ h747), (by rw [hl743.len, hl748.len]; exact le_line c749), fun p750 hp751 => ?_⟩
                        have hl757 : RL (a := (T3 Int Int Int)) F733 (w740 ++ w745) ((cutL r1.2 none (some r71.1)) ++ ([(T3.mk y672.b y691.a y710.c)])) := RL.app hl743 hl748
                        obtain ⟨F752, O753, S754, h755⟩ := O734.putE hp751 (.lst (w740 ++ w745))
                        have f_tree := f_tree.mono S754
                        have r7 := r7.mono S754
                        have h11 := S754 _ _ h11
                        have r14 := r14.mono S754
                        have r15 := r15.mono S754
                        have h19 := S754 _ _ h19
                        have hl20 := hl20.mono S754
                        have h27 := h27.mono S754
                        have h41 := S754 _ _ h41
                        have hl42 := hl42.mono S754
                        have h69 := S754 _ _ h69
                        have hl70 := hl70.mono S754
                        have hl96 := hl96.mono S754
                        have h312 := S754 _ _ h312
                        have hl313 := hl313.mono S754
                        have h410 := h410.mono S754
                        have h417 := h417.mono S754
                        have h424 := h424.mono S754
                        have h431 := h431.mono S754
                        have h438 := h438.mono S754
                        have h445 := h445.mono S754
                        have h552 := h552.mono S754
                        have h657 := S754 _ _ h657
                        have hl658 := hl658.mono S754
                        have h665 := h665.mono S754
                        have h670 := S754 _ _ h670
                        have hl671 := hl671.mono S754
                        have r676 := r676.mono S754
                        have h679 := S754 _ _ h679
                        have h689 := S754 _ _ h689
                        have hl690 := hl690.mono S754
                        have r695 := r695.mono S754
                        have h698 := S754 _ _ h698
                        have h708 := S754 _ _ h708
                        have hl709 := hl709.mono S754
                        have r714 := r714.mono S754
                        have h717 := S754 _ _ h717
                        have h730 := h730.mono S754
                        have h737 := h737.mono S754
                        have h742 := S754 _ _ h742
                        have hl743 := hl743.mono S754
                        have h747 := S754 _ _ h747
                        have hl748 := hl748.mono S754
                        have hl757 := hl757.mono S754
                        have h756 := R.lst (a := (T3 Int Int Int)) h755 hl757
                        obtain ⟨p758, w759, e760, h761, hl762⟩ := R.lst_ r15
                        cases e760
                        refine ⟨_, rfl, _, rfl, _, _, rfl, rfl, _, rfl, _, _, rfl, (SqLF O753.s h761), fun p763 hp764 => ?_⟩
                        have hl770 : RL (a := (T3 Int Int Int)) F752 (cutV w759 (some (r71.1 + (1 : Int))) none) (cutL r1.2 (some (r71.1 + (1 : Int))) none) := RL.cutL hl762 (some (r71.1 + (1 : Int))) none
                        obtain ⟨F765, O766, S767, h768⟩ := O753.putE hp764 (.lst (cutV w759 (some (r71.1 + (1 : Int))) none))
                        have f_tree := f_tree.mono S767
                        have r7 := r7.mono S767
                        have h11 := S767 _ _ h11
                        have r14 := r14.mono S767
                        have r15 := r15.mono S767
                        have h19 := S767 _ _ h19
                        have hl20 := hl20.mono S767
                        have h27 := h27.mono S767
                        have h41 := S767 _ _ h41
                        have hl42 := hl42.mono S767
                        have h69 := S767 _ _ h69
                        have hl70 := hl70.mono S767
                        have hl96 := hl96.mono S767
                        have h312 := S767 _ _ h312
                        have hl313 := hl313.mono S767
                        have h410 := h410.mono S767
                        have h417 := h417.mono S767
                        have h424 := h424.mono S767
                        have h431 := h431.mono S767
                        have h438 := h438.mono S767
                        have h445 := h445.mono S767
                        have h552 := h552.mono S767
                        have h657 := S767 _ _ h657
                        have hl658 := hl658.mono S767
                        have h665 := h665.mono S767
                        have h670 := S767 _ _ h670
                        have hl671 := hl671.mono S767
                        have r676 := r676.mono S767
                        have h679 := S767 _ _ h679
                        have h689 := S767 _ _ h689
                        have hl690 := hl690.mono S767
                        have r695 := r695.mono S767
                        have h698 := S767 _ _ h698
                        have h708 := S767 _ _ h708
                        have hl709 := hl709.mono S767
                        have r714 := r714.mono S767
                        have h717 := S767 _ _ h717
                        have h730 := h730.mono S767
                        have h737 := h737.mono S767
                        have h742 := S767 _ _ h742
                        have hl743 := hl743.mono S767
                        have h747 := S767 _ _ h747
                        have hl748 := hl748.mono S767
                        have h756 := h756.mono S767
                        have h761 := S767 _ _ h761
                        have hl762 := hl762.mono S767
                        have hl770 := hl770.mono S767
                        have h769 := R.lst (a := (T3 Int Int Int)) h768 hl770
                        obtain ⟨p771, w772, e773, h774, hl775⟩ := R.lst_ h756
                        cases e773
                        obtain ⟨p776, w777, e778, h779, hl780⟩ := R.lst_ h769
                        cases e778
                        obtain ⟨c781, hk⟩ := wp_chk hk
                        refine ⟨_, _, _, _, rfl, rfl, (O766.s _ _ h774), (O766.s _ _ h779), (by rw [hl775.len, hl780.len]; exact le_line c781), fun p782 hp783 => ?_⟩
                        have hl789 : RL (a := (T3 Int Int Int)) F765 (w772 ++ w777) (((cutL r1.2 none (some r71.1)) ++ ([(T3.mk y672.b y691.a y710.c)])) ++ (cutL r1.2 (some (r71.1 + (1 : Int))) none)) := RL.app hl775 hl780
                        obtain ⟨F784, O785, S786, h787⟩ := O766.putE hp783 (.lst (w772 ++ w777))
                        have f_tree := f_tree.mono S786
                        have r7 := r7.mono S786
                        have h11 := S786 _ _ h11
                        have r14 := r14.mono S786
                        have r15 := r15.mono S786
                        have h19 := S786 _ _ h19
                        have hl20 := hl20.mono S786
                        have h27 := h27.mono S786
                        have h41 := S786 _ _ h41
                        have hl42 := hl42.mono S786
                        have h69 := S786 _ _ h69
                        have hl70 := hl70.mono S786
                        have hl96 := hl96.mono S786
                        have h312 := S786 _ _ h312
                        have hl313 := hl313.mono S786
                        have h410 := h410.mono S786
                        have h417 := h417.mono S786
                        have h424 := h424.mono S786
                        have h431 := h431.mono S786
                        have h438 := h438.mono S786
                        have h445 := h445.mono S786
                        have h552 := h552.mono S786
                        have h657 := S786 _ _ h657
                        have hl658 := hl658.mono S786
                        have h665 := h665.mono S786
                        have h670 := S786 _ _ h670
                        have hl671 := hl671.mono S786
                        have r676 := r676.mono S786
                        have h679 := S786 _ _ h679
                        have h689 := S786 _ _ h689
                        have hl690 := hl690.mono S786
                        have r695 := r695.mono S786
                        have h698 := S786 _ _ h698
                        have h708 := S786 _ _ h708
                        have hl709 := hl709.mono S786
                        have r714 := r714.mono S786
                        have h717 := S786 _ _ h717
                        have h730 := h730.mono S786
                        have h737 := h737.mono S786
                        have h742 := S786 _ _ h742
                        have hl743 := hl743.mono S786
                        have h747 := S786 _ _ h747
                        have hl748 := hl748.mono S786
                        have h756 := h756.mono S786
                        have h761 := S786 _ _ h761
                        have hl762 := hl762.mono S786
                        have h769 := h769.mono S786
                        have h774 := S786 _ _ h774
                        have hl775 := hl775.mono S786
                        have h779 := S786 _ _ h779
                        have hl780 := hl780.mono S786
                        have hl789 := hl789.mono S786
                        have h788 := R.lst (a := (T3 Int Int Int)) h787 hl789
                        refine ⟨(by show 2 ≤ sizeLine; decide), fun p790 hp791 => ?_⟩
                        obtain ⟨F792, O793, S794, h795⟩ := O785.putE hp791 (.tup [V.ref p16, V.ref p782])
                        have f_tree := f_tree.mono S794
                        have r7 := r7.mono S794
                        have h11 := S794 _ _ h11
                        have r14 := r14.mono S794
                        have r15 := r15.mono S794
                        have h19 := S794 _ _ h19
                        have hl20 := hl20.mono S794
                        have h27 := h27.mono S794
                        have h41 := S794 _ _ h41
                        have hl42 := hl42.mono S794
                        have h69 := S794 _ _ h69
                        have hl70 := hl70.mono S794
                        have hl96 := hl96.mono S794
                        have h312 := S794 _ _ h312
                        have hl313 := hl313.mono S794
                        have h410 := h410.mono S794
                        have h417 := h417.mono S794
                        have h424 := h424.mono S794
                        have h431 := h431.mono S794
                        have h438 := h438.mono S794
                        have h445 := h445.mono S794
                        have h552 := h552.mono S794
                        have h657 := S794 _ _ h657
                        have hl658 := hl658.mono S794
                        have h665 := h665.mono S794
                        have h670 := S794 _ _ h670
                        have hl671 := hl671.mono S794
                        have r676 := r676.mono S794
                        have h679 := S794 _ _ h679
                        have h689 := S794 _ _ h689
                        have hl690 := hl690.mono S794
                        have r695 := r695.mono S794
                        have h698 := S794 _ _ h698
                        have h708 := S794 _ _ h708
                        have hl709 := hl709.mono S794
                        have r714 := r714.mono S794
                        have h717 := S794 _ _ h717
                        have h730 := h730.mono S794
                        have h737 := h737.mono S794
                        have h742 := S794 _ _ h742
                        have hl743 := hl743.mono S794
                        have h747 := S794 _ _ h747
                        have hl748 := hl748.mono S794
                        have h756 := h756.mono S794
                        have h761 := S794 _ _ h761
                        have hl762 := hl762.mono S794
                        have h769 := h769.mono S794
                        have h774 := S794 _ _ h774
                        have hl775 := hl775.mono S794
                        have h779 := S794 _ _ h779
                        have hl780 := hl780.mono S794
                        have h788 := h788.mono S794
                        have h796 : R (a := ((List Int) × (List (T3 Int Int Int)))) F792 (.ref p790) (r1.1, (((cutL r1.2 none (some r71.1)) ++ ([(T3.mk y672.b y691.a y710.c)])) ++ (cutL r1.2 (some (r71.1 + (1 : Int))) none))) := R.t2 h795 r14 h788
                        exact hk _ _ w94 O793.g (O793.at 0 rfl) hl96 _ h796
                      · have hk := wp_el hk q653
                        obtain ⟨p797, w798, e799, h800, hl801⟩ := R.lst_ r15
                        cases e799
                        refine ⟨_, rfl, _, rfl, _, rfl, _, rfl, _, _, rfl, (SqLF O549.s h800), fun p802 hp803 => ?_⟩
                        have hl809 : RL (a := (T3 Int Int Int)) F548 (cutV w798 none (some r71.1)) (cutL r1.2 none (some r71.1)) := RL.cutL hl801 none (some r71.1)
                        obtain ⟨F804, O805, S806, h807⟩ := O549.putE hp803 (.lst (cutV w798 none (some r71.1)))
                        have f_tree := f_tree.mono S806
                        have r7 := r7.mono S806
                        have h11 := S806 _ _ h11
                        have r14 := r14.mono S806
                        have r15 := r15.mono S806
                        have h19 := S806 _ _ h19
                        have hl20 := hl20.mono S806
                        have h27 := h27.mono S806
                        have h41 := S806 _ _ h41
                        have hl42 := hl42.mono S806
                        have h69 := S806 _ _ h69
                        have hl70 := hl70.mono S806
                        have hl96 := hl96.mono S806
                        have h312 := S806 _ _ h312
                        have hl313 := hl313.mono S806
                        have h410 := h410.mono S806
                        have h417 := h417.mono S806
                        have h424 := h424.mono S806
                        have h431 := h431.mono S806
                        have h438 := h438.mono S806
                        have h445 := h445.mono S806
                        have h552 := h552.mono S806
                        have h800 := S806 _ _ h800
                        have hl801 := hl801.mono S806
                        have hl809 := hl809.mono S806
                        have h808 := R.lst (a := (T3 Int Int Int)) h807 hl809
                        refine ⟨_, rfl, _, rfl, _, _, _, _, _, rfl, (O805.pre1 0 rfl), hl96, wp_call hk (fun r810 er811 hk F812 H813 w815 g814 h816 hl817 => ?_) (fun n hn C H1 hC kp => hn C H1 hC (O805.kp1 kp 0 rfl))⟩
                        have O818 := O805.call1 g814 0 rfl h816
                        have S_ := g814.f
                        have f_tree := f_tree.mono S_
                        have r7 := r7.mono S_
                        have h11 := S_ _ _ h11
                        have r14 := r14.mono S_
                        have r15 := r15.mono S_
                        have h19 := S_ _ _ h19
                        have hl20 := hl20.mono S_
                        have h27 := h27.mono S_
                        have h41 := S_ _ _ h41
                        have hl42 := hl42.mono S_
                        have h69 := S_ _ _ h69
                        have hl70 := hl70.mono S_
                        have h312 := S_ _ _ h312
                        have hl313 := hl313.mono S_
                        have h410 := h410.mono S_
                        have h417 := h417.mono S_
                        have h424 := h424.mono S_
                        have h431 := h431.mono S_
                        have h438 := h438.mono S_
                        have h445 := h445.mono S_
                        have h552 := h552.mono S_
                        have h800 := S_ _ _ h800
                        have hl801 := hl801.mono S_
                        have h808 := h808.mono S_
                        obtain ⟨p819, w820, e821, h822, hl823⟩ := R.lst_ h445
                        cases e821
                        obtain ⟨y824, e825, hk⟩ := wp_opt hk
                        obtain ⟨w826, e827, r828⟩ := hl823.atI e825
                        refine ⟨_, _, _, _, rfl, rfl, (SqLF O818.s h822), e827, (by show 1 ≤ sizeLine; decide), fun p829 hp830 => ?_⟩
                        have hl836 : RL (a := (T3 Int Int Int)) F812 ([w826]) ([y824]) := RL.cons r828 RL.nil
                        obtain ⟨F831, O832, S833, h834⟩ := O818.putE hp830 (.lst ([w826]))
                        have f_tree := f_tree.mono S833
                        have r7 := r7.mono S833
                        have h11 := S833 _ _ h11
                        have r14 := r14.mono S833
                        have r15 := r15.mono S833
                        have h19 := S833 _ _ h19
                        have hl20 := hl20.mono S833
                        have h27 := h27.mono S833
                        have h41 := S833 _ _ h41
                        have hl42 := hl42.mono S833
                        have h69 := S833 _ _ h69
                        have hl70 := hl70.mono S833
                        have h312 := S833 _ _ h312
                        have hl313 := hl313.mono S833
                        have h410 := h410.mono S833
                        have h417 := h417.mono S833
                        have h424 := h424.mono S833
                        have h431 := h431.mono S833
                        have h438 := h438.mono S833
                        have h445 := h445.mono S833
                        have h552 := h552.mono S833
                        have h800 := S833 _ _ h800
                        have hl801 := hl801.mono S833
                        have h808 := h808.mono S833
                        have hl817 := hl817.mono S833
                        have h822 := S833 _ _ h822
                        have hl823 := hl823.mono S833
                        have r828 := r828.mono S833
                        have hl836 := hl836.mono S833
                        have h835 := R.lst (a := (T3 Int Int Int)) h834 hl836
                        obtain ⟨p837, w838, e839, h840, hl841⟩ := R.lst_ h808
                        cases e839
                        obtain ⟨p842, w843, e844, h845, hl846⟩ := R.lst_ h835
                        cases e844
                        obtain ⟨c847, hk⟩ := wp_chk hk
                        refine ⟨_, _, _, _, rfl, rfl, (O832.s _ _ h840), (O832.s _ _ h845), (by rw [hl841.len, hl846.len]; exact le_line c847), fun p848 hp849 => ?_⟩
                        have hl855 : RL (a := (T3 Int Int Int)) F831 (w838 ++ w843) ((cutL r1.2 none (some r71.1)) ++ ([y824])) := RL.app hl841 hl846
                        obtain ⟨F850, O851, S852, h853⟩ := O832.putE hp849 (.lst (w838 ++ w843))
                        have f_tree := f_tree.mono S852
                        have r7 := r7.mono S852
                        have h11 := S852 _ _ h11
                        have r14 := r14.mono S852
                        have r15 := r15.mono S852
                        have h19 := S852 _ _ h19
                        have hl20 := hl20.mono S852
                        have h27 := h27.mono S852
                        have h41 := S852 _ _ h41
                        have hl42 := hl42.mono S852
                        have h69 := S852 _ _ h69
                        have hl70 := hl70.mono S852
                        have h312 := S852 _ _ h312
                        have hl313 := hl313.mono S852
                        have h410 := h410.mono S852
                        have h417 := h417.mono S852
                        have h424 := h424.mono S852
                        have h431 := h431.mono S852
                        have h438 := h438.mono S852
                        have h445 := h445.mono S852
                        have h552 := h552.mono S852
                        have h800 := S852 _ _ h800
                        have hl801 := hl801.mono S852
                        have h808 := h808.mono S852
                        have hl817 := hl817.mono S852
                        have h822 := S852 _ _ h822
                        have hl823 := hl823.mono S852
                        have r828 := r828.mono S852
                        have h835 := h835.mono S852
                        have h840 := S852 _ _ h840
                        have hl841 := hl841.mono S852
                        have h845 := S852 _ _ h845
                        have hl846 := hl846.mono S852
                        have hl855 := hl855.mono S852
                        have h854 := R.lst (a := (T3 Int Int Int)) h853 hl855
                        obtain ⟨p856, w857, e858, h859, hl860⟩ := R.lst_ r15
                        cases e858
                        refine ⟨_, rfl, _, rfl, _, _, rfl, rfl, _, rfl, _, _, rfl, (SqLF O851.s h859), fun p861 hp862 => ?_⟩
                        have hl868 : RL (a := (T3 Int Int Int)) F850 (cutV w857 (some (r71.1 + (1 : Int))) none) (cutL r1.2 (some (r71.1 + (1 : Int))) none) := RL.cutL hl860 (some (r71.1 + (1 : Int))) none
                        obtain ⟨F863, O864, S865, h866⟩ := O851.putE hp862 (.lst (cutV w857 (some (r71.1 + (1 : Int))) none))
                        have f_tree := f_tree.mono S865
                        have r7 := r7.mono S865
                        have h11 := S865 _ _ h11
                        have r14 := r14.mono S865
                        have r15 := r15.mono S865
                        have h19 := S865 _ _ h19
                        have hl20 := hl20.mono S865
                        have h27 := h27.mono S865
                        have h41 := S865 _ _ h41
                        have hl42 := hl42.mono S865
                        have h69 := S865 _ _ h69
                        have hl70 := hl70.mono S865
                        have h312 := S865 _ _ h312
                        have hl313 := hl313.mono S865
                        have h410 := h410.mono S865
                        have h417 := h417.mono S865
                        have h424 := h424.mono S865
                        have h431 := h431.mono S865
                        have h438 := h438.mono S865
                        have h445 := h445.mono S865
                        have h552 := h552.mono S865
                        have h800 := S865 _ _ h800
                        have hl801 := hl801.mono S865
                        have h808 := h808.mono S865
                        have hl817 := hl817.mono S865
                        have h822 := S865 _ _ h822
                        have hl823 := hl823.mono S865
                        have r828 := r828.mono S865
                        have h835 := h835.mono S865
                        have h840 := S865 _ _ h840
                        have hl841 := hl841.mono S865
                        have h845 := S865 _ _ h845
                        have hl846 := hl846.mono S865
                        have h854 := h854.mono S865
                        have h859 := S865 _ _ h859
                        have hl860 := hl860.mono S865
                        have hl868 := hl868.mono S865
                        have h867 := R.lst (a := (T3 Int Int Int)) h866 hl868
                        obtain ⟨p869, w870, e871, h872, hl873⟩ := R.lst_ h854
                        cases e871
                        obtain ⟨p874, w875, e876, h877, hl878⟩ := R.lst_ h867
                        cases e876
                        obtain ⟨c879, hk⟩ := wp_chk hk
                        refine ⟨_, _, _, _, rfl, rfl, (O864.s _ _ h872), (O864.s _ _ h877), (by rw [hl873.len, hl878.len]; exact le_line c879), fun p880 hp881 => ?_⟩
                        have hl887 : RL (a := (T3 Int Int Int)) F863 (w870 ++ w875) (((cutL r1.2 none (some r71.1)) ++ ([y824])) ++ (cutL r1.2 (some (r71.1 + (1 : Int))) none)) := RL.app hl873 hl878
                        obtain ⟨F882, O883, S884, h885⟩ := O864.putE hp881 (.lst (w870 ++ w875))
                        have f_tree := f_tree.mono S884
                        have r7 := r7.mono S884
                        have h11 := S884 _ _ h11
                        have r14 := r14.mono S884
                        have r15 := r15.mono S884
                        have h19 := S884 _ _ h19
                        have hl20 := hl20.mono S884
                        have h27 := h27.mono S884
                        have h41 := S884 _ _ h41
                        have hl42 := hl42.mono S884
                        have h69 := S884 _ _ h69
                        have hl70 := hl70.mono S884
                        have h312 := S884 _ _ h312
                        have hl313 := hl313.mono S884
                        have h410 := h410.mono S884
                        have h417 := h417.mono S884
                        have h424 := h424.mono S884
                        have h431 := h431.mono S884
                        have h438 := h438.mono S884
                        have h445 := h445.mono S884
                        have h552 := h552.mono S884
                        have h800 := S884 _ _ h800
                        have hl801 := hl801.mono S884
                        have h808 := h808.mono S884
                        have hl817 := hl817.mono S884
                        have h822 := S884 _ _ h822
                        have hl823 := hl823.mono S884
                        have r828 := r828.mono S884
                        have h835 := h835.mono S884
                        have h840 := S884 _ _ h840
                        have hl841 := hl841.mono S884
                        have h845 := S884 _ _ h845
                        have hl846 := hl846.mono S884
                        have h854 := h854.mono S884
                        have h859 := S884 _ _ h859
                        have hl860 := hl860.mono S884
                        have h867 := h867.mono S884
                        have h872 := S884 _ _ h872
                        have hl873 := hl873.mono S884
                        have h877 := S884 _ _ h877
                        have hl878 := hl878.mono S884
                        have hl887 := hl887.mono S884
                        have h886 := R.lst (a := (T3 Int Int Int)) h885 hl887
                        refine ⟨(by show 2 ≤ sizeLine; decide), fun p888 hp889 => ?_⟩
                        obtain ⟨F890, O891, S892, h893⟩ := O883.putE hp889 (.tup [V.ref p16, V.ref p880])
                        have f_tree := f_tree.mono S892
                        have r7 := r7.mono S892
                        have h11 := S892 _ _ h11
                        have r14 := r14.mono S892
                        have r15 := r15.mono S892
                        have h19 := S892 _ _ h19
                        have hl20 := hl20.mono S892
                        have h27 := h27.mono S892
                        have h41 := S892 _ _ h41
                        have hl42 := hl42.mono S892
                        have h69 := S892 _ _ h69
                        have hl70 := hl70.mono S892
                        have h312 := S892 _ _ h312
                        have hl313 := hl313.mono S892
                        have h410 := h410.mono S892
                        have h417 := h417.mono S892
                        have h424 := h424.mono S892
                        have h431 := h431.mono S892
                        have h438 := h438.mono S892
                        have h445 := h445.mono S892
                        have h552 := h552.mono S892
                        have h800 := S892 _ _ h800
                        have hl801 := hl801.mono S892
                        have h808 := h808.mono S892
                        have hl817 := hl817.mono S892
                        have h822 := S892 _ _ h822
                        have hl823 := hl823.mono S892
                        have r828 := r828.mono S892
                        have h835 := h835.mono S892
                        have h840 := S892 _ _ h840
                        have hl841 := hl841.mono S892
                        have h845 := S892 _ _ h845
                        have hl846 := hl846.mono S892
                        have h854 := h854.mono S892
                        have h859 := S892 _ _ h859
                        have hl860 := hl860.mono S892
                        have h867 := h867.mono S892
                        have h872 := S892 _ _ h872
                        have hl873 := hl873.mono S892
                        have h877 := S892 _ _ h877
                        have hl878 := hl878.mono S892
                        have h886 := h886.mono S892
                        have h894 : R (a := ((List Int) × (List (T3 Int Int Int)))) F890 (.ref p888) (r1.1, (((cutL r1.2 none (some r71.1)) ++ ([y824])) ++ (cutL r1.2 (some (r71.1 + (1 : Int))) none))) := R.t2 h893 r14 h886
                        exact hk _ _ w815 O891.g (O891.at 0 rfl) hl817 _ h894
              · have hk := wp_el hk q308
                refine iteF ?_
                refine ⟨_, rfl, _, rfl, _, _, rfl, rfl, _, rfl, (by show 3 ≤ sizeLine; decide), fun p895 hp896 => ?_⟩
                obtain ⟨F897, O898, S899, h900⟩ := O97.putE hp896 (.tup [V.int ((-(1 : Int)) - r48.1), V.int r80.1, V.int (1 : Int)])
                have f_tree := f_tree.mono S899
                have r7 := r7.mono S899
                have h11 := S899 _ _ h11
                have r14 := r14.mono S899
                have r15 := r15.mono S899
                have h19 := S899 _ _ h19
                have hl20 := hl20.mono S899
                have h27 := h27.mono S899
                have h41 := S899 _ _ h41
                have hl42 := hl42.mono S899
                have h69 := S899 _ _ h69
                have hl70 := hl70.mono S899
                have hl96 := hl96.mono S899
                have h901 : R (a := (T3 Int Int Int)) F897 (.ref p895) (T3.mk ((-(1 : Int)) - r48.1) r80.1 (1 : Int)) := R.t3 h900 R.int R.int R.int
                refine ⟨_, rfl, _, rfl, _, rfl, _, _, rfl, rfl, (by show 3 ≤ sizeLine; decide), fun p902 hp903 => ?_⟩
                obtain ⟨F904, O905, S906, h907⟩ := O898.putE hp903 (.tup [V.int r80.1, V.int ((r1.1.length : Int) + r48.1), V.int (1 : Int)])
                have f_tree := f_tree.mono S906
                have r7 := r7.mono S906
                have h11 := S906 _ _ h11
                have r14 := r14.mono S906
                have r15 := r15.mono S906
                have h19 := S906 _ _ h19
                have hl20 := hl20.mono S906
                have h27 := h27.mono S906
                have h41 := S906 _ _ h41
                have hl42 := hl42.mono S906
                have h69 := S906 _ _ h69
                have hl70 := hl70.mono S906
                have hl96 := hl96.mono S906
                have h901 := h901.mono S906
                have h908 : R (a := (T3 Int Int Int)) F904 (.ref p902) (T3.mk r80.1 ((r1.1.length : Int) + r48.1) (1 : Int)) := R.t3 h907 R.int R.int R.int
                refine ⟨_, rfl, _, rfl, (by show 3 ≤ sizeLine; decide), fun p909 hp910 => ?_⟩
                obtain ⟨F911, O912, S913, h914⟩ := O905.putE hp910 (.tup [V.int r80.1, V.int r80.1, V.int (2 : Int)])
                have f_tree := f_tree.mono S913
                have r7 := r7.mono S913
                have h11 := S913 _ _ h11
                have r14 := r14.mono S913
                have r15 := r15.mono S913
                have h19 := S913 _ _ h19
                have hl20 := hl20.mono S913
                have h27 := h27.mono S913
                have h41 := S913 _ _ h41
                have hl42 := hl42.mono S913
                have h69 := S913 _ _ h69
                have hl70 := hl70.mono S913
                have hl96 := hl96.mono S913
                have h901 := h901.mono S913
                have h908 := h908.mono S913
                have h915 : R (a := (T3 Int Int Int)) F911 (.ref p909) (T3.mk r80.1 r80.1 (2 : Int)) := R.t3 h914 R.int R.int R.int
                refine ⟨_, rfl, _, rfl, (by show 3 ≤ sizeLine; decide), fun p916 hp917 => ?_⟩
                obtain ⟨F918, O919, S920, h921⟩ := O912.putE hp917 (.tup [V.int r80.1, V.int r89.1, V.int (3 : Int)])
                have f_tree := f_tree.mono S920
                have r7 := r7.mono S920
                have h11 := S920 _ _ h11
                have r14 := r14.mono S920
                have r15 := r15.mono S920
                have h19 := S920 _ _ h19
                have hl20 := hl20.mono S920
                have h27 := h27.mono S920
                have h41 := S920 _ _ h41
                have hl42 := hl42.mono S920
                have h69 := S920 _ _ h69
                have hl70 := hl70.mono S920
                have hl96 := hl96.mono S920
                have h901 := h901.mono S920
                have h908 := h908.mono S920
                have h915 := h915.mono S920
                have h922 : R (a := (T3 Int Int Int)) F918 (.ref p916) (T3.mk r80.1 r89.1 (3 : Int)) := R.t3 h921 R.int R.int R.int
                refine ⟨_, rfl, _, rfl, (by show 3 ≤ sizeLine; decide), fun p923 hp924 => ?_⟩
                obtain ⟨F925, O926, S927, h928⟩ := O919.putE hp924 (.tup [V.int r89.1, V.int r80.1, V.int (0 : Int)])
                have f_tree := f_tree.mono S927
                have r7 := r7.mono S927
                have h11 := S927 _ _ h11
                have r14 := r14.mono S927
                have r15 := r15.mono S927
                have h19 := S927 _ _ h19
                have hl20 := hl20.mono S927
                have h27 := h27.mono S927
                have h41 := S927 _ _ h41
                have hl42 := hl42.mono S927
                have h69 := S927 _ _ h69
                have hl70 := hl70.mono S927
                have hl96 := hl96.mono S927
                have h901 := h901.mono S927
                have h908 := h908.mono S927
                have h915 := h915.mono S927
                have h922 := h922.mono S927
                have h929 : R (a := (T3 Int Int Int)) F925 (.ref p923) (T3.mk r89.1 r80.1 (0 : Int)) := R.t3 h928 R.int R.int R.int
                refine ⟨(by show 5 ≤ sizeLine; decide), fun p930 hp931 => ?_⟩
                have hl937 : RL (a := (T3 Int Int Int)) F925 ([V.ref p895, V.ref p902, V.ref p909, V.ref p916, V.ref p923]) ([(T3.mk ((-(1 : Int)) - r48.1) r80.1 (1 : Int)), (T3.mk r80.1 ((r1.1.length : Int) + r48.1) (1 : Int)), (T3.mk r80.1 r80.1 (2 : Int)), (T3.mk r80.1 r89.1 (3 : Int)), (T3.mk r89.1 r80.1 (0 : Int))]) := RL.cons h901 (RL.cons h908 (RL.cons h915 (RL.cons h922 (RL.cons h929 RL.nil))))
                obtain ⟨F932, O933, S934, h935⟩ := O926.putE hp931 (.lst ([V.ref p895, V.ref p902, V.ref p909, V.ref p916, V.ref p923]))
                have f_tree := f_tree.mono S934
                have r7 := r7.mono S934
                have h11 := S934 _ _ h11
                have r14 := r14.mono S934
                have r15 := r15.mono S934
                have h19 := S934 _ _ h19
                have hl20 := hl20.mono S934
                have h27 := h27.mono S934
                have h41 := S934 _ _ h41
                have hl42 := hl42.mono S934
                have h69 := S934 _ _ h69
                have hl70 := hl70.mono S934
                have hl96 := hl96.mono S934
                have h901 := h901.mono S934
                have h908 := h908.mono S934
                have h915 := h915.mono S934
                have h922 := h922.mono S934
                have h929 := h929.mono S934
                have hl937 := hl937.mono S934
                have h936 := R.lst (a := (T3 Int Int Int)) h935 hl937
                refine ⟨_, rfl, _, _, R.int, R.int, _, rfl, ?_⟩
                refine iteD (fun q938 => ?_) (fun q938 => ?_)
                · have hk := wp_if hk q938
                  refine iteT ?_
                  obtain ⟨p939, w940, e941, h942, hl943⟩ := R.lst_ r15
                  cases e941
                  refine ⟨_, rfl, _, rfl, _, rfl, _, rfl, _, _, rfl, (SqLF O933.s h942), fun p944 hp945 => ?_⟩
                  have hl951 : RL (a := (T3 Int Int Int)) F932 (cutV w940 none (some r71.1)) (cutL r1.2 none (some r71.1)) := RL.cutL hl943 none (some r71.1)
                  obtain ⟨F946, O947, S948, h949⟩ := O933.putE hp945 (.lst (cutV w940 none (some r71.1)))
                  have f_tree := f_tree.mono S948
                  have r7 := r7.mono S948
                  have h11 := S948 _ _ h11
                  have r14 := r14.mono S948
                  have r15 := r15.mono S948
                  have h19 := S948 _ _ h19
                  have hl20 := hl20.mono S948
                  have h27 := h27.mono S948
                  have h41 := S948 _ _ h41
                  have hl42 := hl42.mono S948
                  have h69 := S948 _ _ h69
                  have hl70 := hl70.mono S948
                  have hl96 := hl96.mono S948
                  have h901 := h901.mono S948
                  have h908 := h908.mono S948
                  have h915 := h915.mono S948
                  have h922 := h922.mono S948
                  have h929 := h929.mono S948
                  have h936 := h936.mono S948
                  have h942 := S948 _ _ h942
                  have hl943 := hl943.mono S948
                  have hl951 := hl951.mono S948
                  have h950 := R.lst (a := (T3 Int Int Int)) h949 hl951
                  refine ⟨_, rfl, _, rfl, _, _, _, _, _, rfl, (O947.pre1 0 rfl), hl96, wp_call hk (fun r952 er953 hk F954 H955 w957 g956 h958 hl959 => ?_) (fun n hn C H1 hC kp => hn C H1 hC (O947.kp1 kp 0 rfl))⟩
                  have O960 := O947.call1 g956 0 rfl h958
                  have S_ := g956.f
                  have f_tree := f_tree.mono S_
                  have r7 := r7.mono S_
                  have h11 := S_ _ _ h11
                  have r14 := r14.mono S_
                  have r15 := r15.mono S_
                  have h19 := S_ _ _ h19
                  have hl20 := hl20.mono S_
                  have h27 := h27.mono S_
                  have h41 := S_ _ _ h41
                  have hl42 := hl42.mono S_
                  have h69 := S_ _ _ h69
                  have hl70 := hl70.mono S_
                  have h901 := h901.mono S_
                  have h908 := h908.mono S_
                  have h915 := h915.mono S_
                  have h922 := h922.mono S_
                  have h929 := h929.mono S_
                  have h936 := h936.mono S_
                  have h942 := S_ _ _ h942
                  have hl943 := hl943.mono S_
                  have h950 := h950.mono S_
                  obtain ⟨p961, w962, e963, h964, hl965⟩ := R.lst_ h936
                  cases e963
                  obtain ⟨y966, e967, hk⟩ := wp_opt hk
                  obtain ⟨w968, e969, r970⟩ := hl965.atI e967
                  refine ⟨_, _, _, _, rfl, rfl, (SqLF O960.s h964), e969, (by show 1 ≤ sizeLine; decide), fun p971 hp972 => ?_⟩
                  have hl978 : RL (a := (T3 Int Int Int)) F954 ([w968]) ([y966]) := RL.cons r970 RL.nil
                  obtain ⟨F973, O974, S975, h976⟩ := O960.putE hp972 (.lst ([w968]))
                  have f_tree := f_tree.mono S975
                  have r7 := r7.mono S975
                  have h11 := S975 _ _ h11
                  have r14 := r14.mono S975
                  have r15 := r15.mono S975
                  have h19 := S975 _ _ h19
                  have hl20 := hl20.mono S975
                  have h27 := h27.mono S975
                  have h41 := S975 _ _ h41
                  have hl42 := hl42.mono S975
                  have h69 := S975 _ _ h69
                  have hl70 := hl70.mono S975
                  have h901 := h901.mono S975
                  have h908 := h908.mono S975
                  have h915 := h915.mono S975
                  have h922 := h922.mono S975
                  have h929 := h929.mono S975
                  have h936 := h936.mono S975
                  have h942 := S975 _ _ h942
                  have hl943 := hl943.mono S975
                  have h950 := h950.mono S975
                  have hl959 := hl959.mono S975
                  have h964 := S975 _ _ h964
                  have hl965 := hl965.mono S975
                  have r970 := r970.mono S975
                  have hl978 := hl978.mono S975
                  have h977 := R.lst (a := (T3 Int Int Int)) h976 hl978
                  obtain ⟨p979, w980, e981, h982, hl983⟩ := R.lst_ h950
                  cases e981
                  obtain ⟨p984, w985, e986, h987, hl988⟩ := R.lst_ h977
                  cases e986
                  obtain ⟨c989, hk⟩ := wp_chk hk
                  refine ⟨_, _, _, _, rfl, rfl, (O974.s _ _ h982), (O974.s _ _ h987), (by rw [hl983.len, hl988.len]; exact le_line c989), fun p990 hp991 => ?_⟩
                  have hl997 : RL (a := (T3 Int Int Int)) F973 (w980 ++ w985) ((cutL r1.2 none (some r71.1)) ++ ([y966])) := RL.app hl983 hl988
                  obtain ⟨F992, O993, S994, h995⟩ := O974.putE hp991 (.lst (w980 ++ w985))
                  have f_tree := f_tree.mono S994
                  have r7 := r7.mono S994
                  have h11 := S994 _ _ h11
                  have r14 := r14.mono S994
                  have r15 := r15.mono S994
                  have h19 := S994 _ _ h19
                  have hl20 := hl20.mono S994
                  have h27 := h27.mono S994
                  have h41 := S994 _ _ h41
                  have hl42 := hl42.mono S994
                  have h69 := S994 _ _ h69
                  have hl70 := hl70.mono S994
                  have h901 := h901.mono S994
                  have h908 := h908.mono S994
                  have h915 := h915.mono S994
                  have h922 := h922.mono S994
                  have h929 := h929.mono S994
                  have h936 := h936.mono S994
                  have h942 := S994 _ _ h942
                  have hl943 := hl943.mono S994
                  have h950 := h950.mono S994
                  have hl959 := hl959.mono S994
                  have h964 := S994 _ _ h964
                  have hl965 := hl965.mono S994
                  have r970 := r970.mono S994
                  have h977 := h977.mono S994
                  have h982 := S994 _ _ h982
                  have hl983 := hl983.mono S994
                  have h987 := S994 _ _ h987
                  have hl988 := hl988.mono S994
                  have hl997 := hl997.mono S994
                  have h996 := R.lst (a := (T3 Int Int Int)) h995 hl997
                  obtain ⟨p998, w999, e1000, h1001, hl1002⟩ := R.lst_ r15
                  cases e1000
                  refine ⟨_, rfl, _, rfl, _, rfl, _, _, rfl, (SqLF O993.s h1001), fun p1003 hp1004 => ?_⟩
                  have hl1010 : RL (a := (T3 Int Int Int)) F992 (cutV w999 (some r71.1) none) (cutL r1.2 (some r71.1) none) := RL.cutL hl1002 (some r71.1) none
                  obtain ⟨F1005, O1006, S1007, h1008⟩ := O993.putE hp1004 (.lst (cutV w999 (some r71.1) none))
                  have f_tree := f_tree.mono S1007
                  have r7 := r7.mono S1007
                  have h11 := S1007 _ _ h11
                  have r14 := r14.mono S1007
                  have r15 := r15.mono S1007
                  have h19 := S1007 _ _ h19
                  have hl20 := hl20.mono S1007
                  have h27 := h27.mono S1007
                  have h41 := S1007 _ _ h41
                  have hl42 := hl42.mono S1007
                  have h69 := S1007 _ _ h69
                  have hl70 := hl70.mono S1007
                  have h901 := h901.mono S1007
                  have h908 := h908.mono S1007
                  have h915 := h915.mono S1007
                  have h922 := h922.mono S1007
                  have h929 := h929.mono S1007
                  have h936 := h936.mono S1007
                  have h942 := S1007 _ _ h942
                  have hl943 := hl943.mono S1007
                  have h950 := h950.mono S1007
                  have hl959 := hl959.mono S1007
                  have h964 := S1007 _ _ h964
                  have hl965 := hl965.mono S1007
                  have r970 := r970.mono S1007
                  have h977 := h977.mono S1007
                  have h982 := S1007 _ _ h982
                  have hl983 := hl983.mono S1007
                  have h987 := S1007 _ _ h987
                  have hl988 := hl988.mono S1007
                  have h996 := h996.mono S1007
                  have h1001 := S1007 _ _ h1001
                  have hl1002 := hl1002.mono S1007
                  have hl1010 := hl1010.mono S1007
                  have h1009 := R.lst (a := (T3 Int Int Int)) h1008 hl1010
                  obtain ⟨p1011, w1012, e1013, h1014, hl1015⟩ := R.lst_ h996
                  cases e1013
                  obtain ⟨p1016, w1017, e1018, h1019, hl1020⟩ := R.lst_ h1009
                  cases e1018
                  obtain ⟨c1021, hk⟩ := wp_chk hk
                  refine ⟨_, _, _, _, rfl, rfl, (O1006.s _ _ h1014), (O1006.s _ _ h1019), (by rw [hl1015.len, hl1020.len]; exact le_line c1021), fun p1022 hp1023 => ?_⟩
                  have hl1029 : RL (a := (T3 Int Int Int)) F1005 (w1012 ++ w1017) (((cutL r1.2 none (some r71.1)) ++ ([y966])) ++ (cutL r1.2 (some r71.1) none)) := RL.app hl1015 hl1020
                  obtain ⟨F1024, O1025, S1026, h1027⟩ := O1006.putE hp1023 (.lst (w1012 ++ w1017))
                  have f_tree := f_tree.mono S1026
                  have r7 := r7.mono S1026
                  have h11 := S1026 _ _ h11
                  have r14 := r14.mono S1026
                  have r15 := r15.mono S1026
                  have h19 := S1026 _ _ h19
                  have hl20 := hl20.mono S1026
                  have h27 := h27.mono S1026
                  have h41 := S1026 _ _ h41
                  have hl42 := hl42.mono S1026
                  have h69 := S1026 _ _ h69
                  have hl70 := hl70.mono S1026
                  have h901 := h901.mono S1026
                  have h908 := h908.mono S1026
                  have h915 := h915.mono S1026
                  have h922 := h922.mono S1026
                  have h929 := h929.mono S1026
                  have h936 := h936.mono S1026
                  have h942 := S1026 _ _ h942
                  have hl943 := hl943.mono S1026
                  have h950 := h950.mono S1026
                  have hl959 := hl959.mono S1026
                  have h964 := S1026 _ _ h964
                  have hl965 := hl965.mono S1026
                  have r970 := r970.mono S1026
                  have h977 := h977.mono S1026
                  have h982 := S1026 _ _ h982
                  have hl983 := hl983.mono S1026
                  have h987 := S1026 _ _ h987
                  have hl988 := hl988.mono S1026
                  have h996 := h996.mono S1026
                  have h1001 := S1026 _ _ h1001
                  have hl1002 := hl1002.mono S1026
                  have h1009 := h1009.mono S1026
                  have h1014 := S1026 _ _ h1014
                  have hl1015 := hl1015.mono S1026
                  have h1019 := S1026 _ _ h1019
                  have hl1020 := hl1020.mono S1026
                  have hl1029 := hl1029.mono S1026
                  have h1028 := R.lst (a := (T3 Int Int Int)) h1027 hl1029
                  refine ⟨(by show 2 ≤ sizeLine; decide), fun p1030 hp1031 => ?_⟩
                  obtain ⟨F1032, O1033, S1034, h1035⟩ := O1025.putE hp1031 (.tup [V.ref p16, V.ref p1022])
                  have f_tree := f_tree.mono S1034
                  have r7 := r7.mono S1034
                  have h11 := S1034 _ _ h11
                  have r14 := r14.mono S1034
                  have r15 := r15.mono S1034
                  have h19 := S1034 _ _ h19
                  have hl20 := hl20.mono S1034
                  have h27 := h27.mono S1034
                  have h41 := S1034 _ _ h41
                  have hl42 := hl42.mono S1034
                  have h69 := S1034 _ _ h69
                  have hl70 := hl70.mono S1034
                  have h901 := h901.mono S1034
                  have h908 := h908.mono S1034
                  have h915 := h915.mono S1034
                  have h922 := h922.mono S1034
                  have h929 := h929.mono S1034
                  have h936 := h936.mono S1034
                  have h942 := S1034 _ _ h942
                  have hl943 := hl943.mono S1034
                  have h950 := h950.mono S1034
                  have hl959 := hl959.mono S1034
                  have h964 := S1034 _ _ h964
                  have hl965 := hl965.mono S1034
                  have r970 := r970.mono S1034
                  have h977 := h977.mono S1034
                  have h982 := S1034 _ _ h982
                  have hl983 := hl983.mono S1034
                  have h987 := S1034 _ _ h987
                  have hl988 := hl988.mono S1034
                  have h996 := h996.mono S1034
                  have h1001 := S1034 _ _ h1001
                  have hl1002 := hl1002.mono S1034
                  have h1009 := h1009.mono S1034
                  have h1014 := S1034 _ _ h1014
                  have hl1015 := hl1015.mono S1034
                  have h1019 := S1034 _ _ h1019
                  have hl1020 := hl1020.mono S1034
                  have h1028 := h1028.mono S1034
                  have h1036 : R (a := ((List Int) × (List (T3 Int Int Int)))) F1032 (.ref p1030) (r1.1, (((cutL r1.2 none (some r71.1)) ++ ([y966])) ++ (cutL r1.2 (some r71.1) none))) := R.t2 h1035 r14 h1028
                  exact hk _ _ w957 O1033.g (O1033.at 0 rfl) hl959 _ h1036
                · have hk := wp_el hk q938
                  refine ⟨_, rfl, (by show 0 ≤ sizeLine; decide), fun p1037 hp1038 => ?_⟩
                  have hl1044 : RL (a := (T3 Int Int Int)) F932 ([]) ([] : List (T3 Int Int Int)) := RL.nil
                  obtain ⟨F1039, O1040, S1041, h1042⟩ := O933.putE hp1038 (.lst ([]))
                  have f_tree := f_tree.mono S1041
                  have r7 := r7.mono S1041
                  have h11 := S1041 _ _ h11
                  have r14 := r14.mono S1041
                  have r15 := r15.mono S1041
                  have h19 := S1041 _ _ h19
                  have hl20 := hl20.mono S1041
                  have h27 := h27.mono S1041
                  have h41 := S1041 _ _ h41
                  have hl42 := hl42.mono S1041
                  have h69 := S1041 _ _ h69
                  have hl70 := hl70.mono S1041
                  have hl96 := hl96.mono S1041
                  have h901 := h901.mono S1041
                  have h908 := h908.mono S1041
                  have h915 := h915.mono S1041
                  have h922 := h922.mono S1041
                  have h929 := h929.mono S1041
                  have h936 := h936.mono S1041
                  have hl1044 := hl1044.mono S1041
                  have h1043 := R.lst (a := (T3 Int Int Int)) h1042 hl1044
                  refine ⟨_, _, (R.mono r15 O1040.s), (R.mono h1043 O1040.s), _, rfl, ?_⟩
                  refine iteD (fun q1045 => ?_) (fun q1045 => ?_)
                  · have hk := wp_if hk q1045
                    obtain ⟨p1046, w1047, e1048, h1049, hl1050⟩ := R.lst_ r15
                    cases e1048
                    refine ⟨_, rfl, _, rfl, _, rfl, _, rfl, _, _, rfl, (SqLF O1040.s h1049), fun p1051 hp1052 => ?_⟩
                    have hl1058 : RL (a := (T3 Int Int Int)) F1039 (cutV w1047 none (some r71.1)) (cutL r1.2 none (some r71.1)) := RL.cutL hl1050 none (some r71.1)
                    obtain ⟨F1053, O1054, S1055, h1056⟩ := O1040.putE hp1052 (.lst (cutV w1047 none (some r71.1)))
                    have f_tree := f_tree.mono S1055
                    have r7 := r7.mono S1055
                    have h11 := S1055 _ _ h11
                    have r14 := r14.mono S1055
                    have r15 := r15.mono S1055
                    have h19 := S1055 _ _ h19
                    have hl20 := hl20.mono S1055
                    have h27 := h27.mono S1055
                    have h41 := S1055 _ _ h41
                    have hl42 := hl42.mono S1055
                    have h69 := S1055 _ _ h69
                    have hl70 := hl70.mono S1055
                    have hl96 := hl96.mono S1055
                    have h901 := h901.mono S1055
                    have h908 := h908.mono S1055
                    have h915 := h915.mono S1055
                    have h922 := h922.mono S1055
                    have h929 := h929.mono S1055
                    have h936 := h936.mono S1055
                    have h1043 := h1043.mono S1055
                    have h1049 := S1055 _ _ h1049
                    have hl1050 := hl1050.mono S1055
                    have hl1058 := hl1058.mono S1055
                    have h1057 := R.lst (a := (T3 Int Int Int)) h1056 hl1058
                    refine ⟨_, rfl, _, rfl, _, _, _, _, _, rfl, (O1054.pre1 0 rfl), hl96, wp_call hk (fun r1059 er1060 hk F1061 H1062 w1064 g1063 h1065 hl1066 => ?_) (fun n hn C H1 hC kp => hn C H1 hC (O1054.kp1 kp 0 rfl))⟩
                    have O1067 := O1054.call1 g1063 0 rfl h1065
                    have S_ := g1063.f
                    have f_tree := f_tree.mono S_
                    have r7 := r7.mono S_
                    have h11 := S_ _ _ h11
                    have r14 := r14.mono S_
                    have r15 := r15.mono S_
                    have h19 := S_ _ _ h19
                    have hl20 := hl20.mono S_
                    have h27 := h27.mono S_
                    have h41 := S_ _ _ h41
                    have hl42 := hl42.mono S_
                    have h69 := S_ _ _ h69
                    have hl70 := hl70.mono S_
                    have h901 := h901.mono S_
                    have h908 := h908.mono S_
                    have h915 := h915.mono S_
                    have h922 := h922.mono S_
                    have h929 := h929.mono S_
                    have h936 := h936.mono S_
                    have h1043 := h1043.mono S_
                    have h1049 := S_ _ _ h1049
                    have hl1050 := hl1050.mono S_
                    have h1057 := h1057.mono S_
                    obtain ⟨p1068, w1069, e1070, h1071, hl1072⟩ := R.lst_ h936
                    cases e1070
                    obtain ⟨y1073, e1074, hk⟩ := wp_opt hk
                    obtain ⟨w1075, e1076, r1077⟩ := hl1072.atI e1074
                    refine ⟨_, _, _, _, rfl, rfl, (SqLF O1067.s h1071), e1076, (by show 1 ≤ sizeLine; decide), fun p1078 hp1079 => ?_⟩
                    have hl1085 : RL (a := (T3 Int Int Int)) F1061 ([w1075]) ([y1073]) := RL.cons r1077 RL.nil
                    obtain ⟨F1080, O1081, S1082, h1083⟩ := O1067.putE hp1079 (.lst ([w1075]))
                    have f_tree := f_tree.mono S1082
                    have r7 := r7.mono S1082
                    have h11 := S1082 _ _ h11
                    have r14 := r14.mono S1082
                    have r15 := r15.mono S1082
                    have h19 := S1082 _ _ h19
                    have hl20 := hl20.mono S1082
                    have h27 := h27.mono S1082
                    have h41 := S1082 _ _ h41
                    have hl42 := hl42.mono S1082
                    have h69 := S1082 _ _ h69
                    have hl70 := hl70.mono S1082
                    have h901 := h901.mono S1082
                    have h908 := h908.mono S1082
                    have h915 := h915.mono S1082
                    have h922 := h922.mono S1082
                    have h929 := h929.mono S1082
                    have h936 := h936.mono S1082
                    have h1043 := h1043.mono S1082
                    have h1049 := S1082 _ _ h1049
                    have hl1050 := hl1050.mono S1082
                    have h1057 := h1057.mono S1082
                    have hl1066 := hl1066.mono S1082
                    have h1071 := S1082 _ _ h1071
                    have hl1072 := hl1072.mono S1082
                    have r1077 := r1077.mono S1082
                    have hl1085 := hl1085.mono S1082
                    have h1084 := R.lst (a := (T3 Int Int Int)) h1083 hl1085
                    obtain ⟨p1086, w1087, e1088, h1089, hl1090⟩ := R.lst_ h1057
                    cases e1088
                    obtain ⟨p1091, w1092, e1093, h1094, hl1095⟩ := R.lst_ h1084
                    cases e1093
                    obtain ⟨c1096, hk⟩ := wp_chk hk
                    refine ⟨_, _, _, _, rfl, rfl, (O1081.s _ _ h1089), (O1081.s _ _ h1094), (by rw [hl1090.len, hl1095.len]; exact le_line c1096), fun p1097 hp1098 => ?_⟩
                    have hl1104 : RL (a := (T3 Int Int Int)) F1080 (w1087 ++ w1092) ((cutL r1.2 none (some r71.1)) ++ ([y1073])) := RL.app hl1090 hl1095
                    obtain ⟨F1099, O1100, S1101, h1102⟩ := O1081.putE hp1098 (.lst (w1087 ++ w1092))
                    have f_tree := f_tree.mono S1101
                    have r7 := r7.mono S1101
                    have h11 := S1101 _ _ h11
                    have r14 := r14.mono S1101
                    have r15 := r15.mono S1101
                    have h19 := S1101 _ _ h19
                    have hl20 := hl20.mono S1101
                    have h27 := h27.mono S1101
                    have h41 := S1101 _ _ h41
                    have hl42 := hl42.mono S1101
                    have h69 := S1101 _ _ h69
                    have hl70 := hl70.mono S1101
                    have h901 := h901.mono S1101
                    have h908 := h908.mono S1101
                    have h915 := h915.mono S1101
                    have h922 := h922.mono S1101
                    have h929 := h929.mono S1101
                    have h936 := h936.mono S1101
                    have h1043 := h1043.mono S1101
                    have h1049 := S1101 _ _ h1049
                    have hl1050 := hl1050.mono S1101
                    have h1057 := h1057.mono S1101
                    have hl1066 := hl1066.mono S1101
                    have h1071 := S1101 _ _ h1071
                    have hl1072 := hl1072.mono S1101
                    have r1077 := r1077.mono S1101
                    have h1084 := h1084.mono S1101
                    have h1089 := S1101 _ _ h1089
                    have hl1090 := hl1090.mono S1101
                    have h1094 := S1101 _ _ h1094
                    have hl1095 := hl1095.mono S1101
                    have hl1104 := hl1104.mono S1101
                    have h1103 := R.lst (a := (T3 Int Int Int)) h1102 hl1104
                    obtain ⟨p1105, w1106, e1107, h1108, hl1109⟩ := R.lst_ r15
                    cases e1107
                    refine ⟨_, rfl, _, rfl, _, rfl, _, _, rfl, (SqLF O1100.s h1108), fun p1110 hp1111 => ?_⟩
                    have hl1117 : RL (a := (T3 Int Int Int)) F1099 (cutV w1106 (some r71.1) none) (cutL r1.2 (some r71.1) none) := RL.cutL hl1109 (some r71.1) none
                    obtain ⟨F1112, O1113, S1114, h1115⟩ := O1100.putE hp1111 (.lst (cutV w1106 (some r71.1) none))
                    have f_tree := f_tree.mono S1114
                    have r7 := r7.mono S1114
                    have h11 := S1114 _ _ h11
                    have r14 := r14.mono S1114
                    have r15 := r15.mono S1114
                    have h19 := S1114 _ _ h19
                    have hl20 := hl20.mono S1114
                    have h27 := h27.mono S1114
                    have h41 := S1114 _ _ h41
                    have hl42 := hl42.mono S1114
                    have h69 := S1114 _ _ h69
                    have hl70 := hl70.mono S1114
                    have h901 := h901.mono S1114
                    have h908 := h908.mono S1114
                    have h915 := h915.mono S1114
                    have h922 := h922.mono S1114
                    have h929 := h929.mono S1114
                    have h936 := h936.mono S1114
                    have h1043 := h1043.mono S1114
                    have h1049 := S1114 _ _ h1049
                    have hl1050 := hl1050.mono S1114
                    have h1057 := h1057.mono S1114
                    have hl1066 := hl1066.mono S1114
                    have h1071 := S1114 _ _ h1071
                    have hl1072 := hl1072.mono S1114
                    have r1077 := r1077.mono S1114
                    have h1084 := h1084.mono S1114
                    have h1089 := S1114 _ _ h1089
                    have hl1090 := hl1090.mono S1114
                    have h1094 := S1114 _ _ h1094
                    have hl1095 := hl1095.mono S1114
                    have h1103 := h1103.mono S1114
                    have h1108 := S1114 _ _ h1108
                    have hl1109 := hl1109.mono S1114
                    have hl1117 := hl1117.mono S1114
                    have h1116 := R.lst (a := (T3 Int Int Int)) h1115 hl1117
                    obtain ⟨p1118, w1119, e1120, h1121, hl1122⟩ := R.lst_ h1103
                    cases e1120
                    obtain ⟨p1123, w1124, e1125, h1126, hl1127⟩ := R.lst_ h1116
                    cases e1125
                    obtain ⟨c1128, hk⟩ := wp_chk hk
                    refine ⟨_, _, _, _, rfl, rfl, (O1113.s _ _ h1121), (O1113.s _ _ h1126), (by rw [hl1122.len, hl1127.len]; exact le_line c1128), fun p1129 hp1130 => ?_⟩
                    have hl1136 : RL (a := (T3 Int Int Int)) F1112 (w1119 ++ w1124) (((cutL r1.2 none (some r71.1)) ++ ([y1073])) ++ (cutL r1.2 (some r71.1) none)) := RL.app hl1122 hl1127
                    obtain ⟨F1131, O1132, S1133, h1134⟩ := O1113.putE hp1130 (.lst (w1119 ++ w1124))
                    have f_tree := f_tree.mono S1133
                    have r7 := r7.mono S1133
                    have h11 := S1133 _ _ h11
                    have r14 := r14.mono S1133
                    have r15 := r15.mono S1133
                    have h19 := S1133 _ _ h19
                    have hl20 := hl20.mono S1133
                    have h27 := h27.mono S1133
                    have h41 := S1133 _ _ h41
                    have hl42 := hl42.mono S1133
                    have h69 := S1133 _ _ h69
                    have hl70 := hl70.mono S1133
                    have h901 := h901.mono S1133
                    have h908 := h908.mono S1133
                    have h915 := h915.mono S1133
                    have h922 := h922.mono S1133
                    have h929 := h929.mono S1133
                    have h936 := h936.mono S1133
                    have h1043 := h1043.mono S1133
                    have h1049 := S1133 _ _ h1049
                    have hl1050 := hl1050.mono S1133
                    have h1057 := h1057.mono S1133
                    have hl1066 := hl1066.mono S1133
                    have h1071 := S1133 _ _ h1071
                    have hl1072 := hl1072.mono S1133
                    have r1077 := r1077.mono S1133
                    have h1084 := h1084.mono S1133
                    have h1089 := S1133 _ _ h1089
                    have hl1090 := hl1090.mono S1133
                    have h1094 := S1133 _ _ h1094
                    have hl1095 := hl1095.mono S1133
                    have h1103 := h1103.mono S1133
                    have h1108 := S1133 _ _ h1108
                    have hl1109 := hl1109.mono S1133
                    have h1116 := h1116.mono S1133
                    have h1121 := S1133 _ _ h1121
                    have hl1122 := hl1122.mono S1133
                    have h1126 := S1133 _ _ h1126
                    have hl1127 := hl1127.mono S1133
                    have hl1136 := hl1136.mono S1133
                    have h1135 := R.lst (a := (T3 Int Int Int)) h1134 hl1136
                    refine ⟨(by show 2 ≤ sizeLine; decide), fun p1137 hp1138 => ?_⟩
                    obtain ⟨F1139, O1140, S1141, h1142⟩ := O1132.putE hp1138 (.tup [V.ref p16, V.ref p1129])
                    have f_tree := f_tree.mono S1141
                    have r7 := r7.mono S1141
                    have h11 := S1141 _ _ h11
                    have r14 := r14.mono S1141
                    have r15 := r15.mono S1141
                    have h19 := S1141 _ _ h19
                    have hl20 := hl20.mono S1141
                    have h27 := h27.mono S1141
                    have h41 := S1141 _ _ h41
                    have hl42 := hl42.mono S1141
                    have h69 := S1141 _ _ h69
                    have hl70 := hl70.mono S1141
                    have h901 := h901.mono S1141
                    have h908 := h908.mono S1141
                    have h915 := h915.mono S1141
                    have h922 := h922.mono S1141
                    have h929 := h929.mono S1141
                    have h936 := h936.mono S1141
                    have h1043 := h1043.mono S1141
                    have h1049 := S1141 _ _ h1049
                    have hl1050 := hl1050.mono S1141
                    have h1057 := h1057.mono S1141
                    have hl1066 := hl1066.mono S1141
                    have h1071 := S1141 _ _ h1071
                    have hl1072 := hl1072.mono S1141
                    have r1077 := r1077.mono S1141
                    have h1084 := h1084.mono S1141
                    have h1089 := S1141 _ _ h1089
                    have hl1090 := hl1090.mono S1141
                    have h1094 := S1141 _ _ h1094
                    have hl1095 := hl1095.mono S1141
                    have h1103 := h1103.mono S1141
                    have h1108 := S1141 _ _ h1108
                    have hl1109 := hl1109.mono S1141
                    have h1116 := h1116.mono S1141
                    have h1121 := S1141 _ _ h1121
                    have hl1122 := hl1122.mono S1141
                    have h1126 := S1141 _ _ h1126
                    have hl1127 := hl1127.mono S1141
                    have h1135 := h1135.mono S1141
                    have h1143 : R (a := ((List Int) × (List (T3 Int Int Int)))) F1139 (.ref p1137) (r1.1, (((cutL r1.2 none (some r71.1)) ++ ([y1073])) ++ (cutL r1.2 (some r71.1) none))) := R.t2 h1142 r14 h1135
                    exact hk _ _ w1064 O1140.g (O1140.at 0 rfl) hl1066 _ h1143
                  · have hk := wp_el hk q1045
                    refine ⟨_, rfl, _, _, R.int, R.int, _, rfl, ?_⟩
                    refine iteD (fun q1144 => ?_) (fun q1144 => ?_)
                    · have hk := wp_if hk q1144
                      obtain ⟨p1145, w1146, e1147, h1148, hl1149⟩ := R.lst_ r15
                      cases e1147
                      refine ⟨_, rfl, _, rfl, _, rfl, _, rfl, _, _, rfl, (SqLF O1040.s h1148), fun p1150 hp1151 => ?_⟩
                      have hl1157 : RL (a := (T3 Int Int Int)) F1039 (cutV w1146 none (some r71.1)) (cutL r1.2 none (some r71.1)) := RL.cutL hl1149 none (some r71.1)
                      obtain ⟨F1152, O1153, S1154, h1155⟩ := O1040.putE hp1151 (.lst (cutV w1146 none (some r71.1)))
                      have f_tree := f_tree.mono S1154
                      have r7 := r7.mono S1154
                      have h11 := S1154 _ _ h11
                      have r14 := r14.mono S1154
                      have r15 := r15.mono S1154
                      have h19 := S1154 _ _ h19
                      have hl20 := hl20.mono S1154
                      have h27 := h27.mono S1154
                      have h41 := S1154 _ _ h41
                      have hl42 := hl42.mono S1154
                      have h69 := S1154 _ _ h69
                      have hl70 := hl70.mono S1154
                      have hl96 := hl96.mono S1154
                      have h901 := h901.mono S1154
                      have h908 := h908.mono S1154
                      have h915 := h915.mono S1154
                      have h922 := h922.mono S1154
                      have h929 := h929.mono S1154
                      have h936 := h936.mono S1154
                      have h1043 := h1043.mono S1154
                      have h1148 := S1154 _ _ h1148
                      have hl1149 := hl1149.mono S1154
                      have hl1157 := hl1157.mono S1154
                      have h1156 := R.lst (a := (T3 Int Int Int)) h1155 hl1157
                      obtain ⟨p1158, w1159, e1160, h1161, hl1162⟩ := R.lst_ r15
                      cases e1160
                      obtain ⟨y1163, e1164, hk⟩ := wp_opt hk
                      obtain ⟨w1165, e1166, r1167⟩ := hl1162.atI e1164
                      obtain ⟨p1168, v1171, v1172, v1173, e1169, h1170, r1174, r1175, r1176⟩ := R.t3_ r1167
                      cases e1169
                      obtain rfl := R.int_ r1174
                      obtain rfl := R.int_ r1175
                      obtain rfl := R.int_ r1176
                      obtain ⟨p1177, w1178, e1179, h1180, hl1181⟩ := R.lst_ r15
                      cases e1179
                      obtain ⟨y1182, e1183, hk⟩ := wp_opt hk
                      obtain ⟨w1184, e1185, r1186⟩ := hl1181.atI e1183
                      obtain ⟨p1187, v1190, v1191, v1192, e1188, h1189, r1193, r1194, r1195⟩ := R.t3_ r1186
                      cases e1188
                      obtain rfl := R.int_ r1193
                      obtain rfl := R.int_ r1194
                      obtain rfl := R.int_ r1195
                      obtain ⟨p1196, w1197, e1198, h1199, hl1200⟩ := R.lst_ r15
                      cases e1198
                      obtain ⟨y1201, e1202, hk⟩ := wp_opt hk
                      obtain ⟨w1203, e1204, r1205⟩ := hl1200.atI e1202
                      obtain ⟨p1206, v1209, v1210, v1211, e1207, h1208, r1212, r1213, r1214⟩ := R.t3_ r1205
                      cases e1207
                      obtain rfl := R.int_ r1212
                      obtain rfl := R.int_ r1213
                      obtain rfl := R.int_ r1214
                      refine ⟨_, rfl, _, rfl, _, _, _, _, rfl, rfl, (SqLF O1153.s h1161), e1166, _, _, _, _, rfl, rfl, (SqTF O1153.s h1170), rfl, _, rfl, _, rfl, _, _, _, _, rfl, rfl, (SqLF O1153.s h1180), e1185, _, _, _, _, rfl, rfl, (SqTF O1153.s h1189), rfl, _, rfl, _, rfl, _, _, _, _, rfl, rfl, (SqLF O1153.s h1199), e1204, _, _, _, _, rfl, rfl, (SqTF O1153.s h1208), rfl, (by show 3 ≤ sizeLine; decide), fun p1215 hp1216 => ?_⟩
                      obtain ⟨F1217, O1218, S1219, h1220⟩ := O1153.putE hp1216 (.tup [V.int y1163.b, V.int y1182.a, V.int y1201.c])
                      have f_tree := f_tree.mono S1219
                      have r7 := r7.mono S1219
                      have h11 := S1219 _ _ h11
                      have r14 := r14.mono S1219
                      have r15 := r15.mono S1219
                      have h19 := S1219 _ _ h19
                      have hl20 := hl20.mono S1219
                      have h27 := h27.mono S1219
                      have h41 := S1219 _ _ h41
                      have hl42 := hl42.mono S1219
                      have h69 := S1219 _ _ h69
                      have hl70 := hl70.mono S1219
                      have hl96 := hl96.mono S1219
                      have h901 := h901.mono S1219
                      have h908 := h908.mono S1219
                      have h915 := h915.mono S1219
                      have h922 := h922.mono S1219
                      have h929 := h929.mono S1219
                      have h936 := h936.mono S1219
                      have h1043 := h1043.mono S1219
                      have h1148 := S1219 _ _ h1148
                      have hl1149 := hl1149.mono S1219
                      have h1156 := h1156.mono S1219
                      have h1161 := S1219 _ _ h1161
                      have hl1162 := hl1162.mono S1219
                      have r1167 := r1167.mono S1219
                      have h1170 := S1219 _ _ h1170
                      have h1180 := S1219 _ _ h1180
                      have hl1181 := hl1181.mono S1219
                      have r1186 := r1186.mono S1219
                      have h1189 := S1219 _ _ h1189
                      have h1199 := S1219 _ _ h1199
                      have hl1200 := hl1200.mono S1219
                      have r1205 := r1205.mono S1219
                      have h1208 := S1219 _ _ h1208
                      have h1221 : R (a := (T3 Int Int Int)) F1217 (.ref p1215) (T3.mk y1163.b y1182.a y1201.c) := R.t3 h1220 R.int R.int R.int
                      refine ⟨(by show 1 ≤ sizeLine; decide), fun p1222 hp1223 => ?_⟩
                      have hl1229 : RL (a := (T3 Int Int Int)) F1217 ([V.ref p1215]) ([(T3.mk y1163.b y1182.a y1201.c)]) := RL.cons h1221 RL.nil
                      obtain ⟨F1224, O1225, S1226, h1227⟩ := O1218.putE hp1223 (.lst ([V.ref p1215]))
                      have f_tree := f_tree.mono S1226
                      have r7 := r7.mono S1226
                      have h11 := S1226 _ _ h11
                      have r14 := r14.mono S1226
                      have r15 := r15.mono S1226
                      have h19 := S1226 _ _ h19
                      have hl20 := hl20.mono S1226
                      have h27 := h27.mono S1226
                      have h41 := S1226 _ _ h41
                      have hl42 := hl42.mono S1226
                      have h69 := S1226 _ _ h69
                      have hl70 := hl70.mono S1226
                      have hl96 := hl96.mono S1226
                      have h901 := h901.mono S1226
                      have h908 := h908.mono S1226
                      have h915 := h915.mono S1226
                      have h922 := h922.mono S1226
                      have h929 := h929.mono S1226
                      have h936 := h936.mono S1226
                      have h1043 := h1043.mono S1226
                      have h1148 := S1226 _ _ h1148
                      have hl1149 := hl1149.mono S1226
                      have h1156 := h1156.mono S1226
                      have h1161 := S1226 _ _ h1161
                      have hl1162 := hl1162.mono S1226
                      have r1167 := r1167.mono S1226
                      have h1170 := S1226 _ _ h1170
                      have h1180 := S1226 _ _ h1180
                      have hl1181 := hl1181.mono S1226
                      have r1186 := r1186.mono S1226
                      have h1189 := S1226 _ _ h1189
                      have h1199 := S1226 _ _ h1199
                      have hl1200 := hl1200.mono S1226
                      have r1205 := r1205.mono S1226
                      have h1208 := S1226 _ _ h1208
                      have h1221 := h1221.mono S1226
                      have hl1229 := hl1229.mono S1226
                      have h1228 := R.lst (a := (T3 Int Int Int)) h1227 hl1229
                      obtain ⟨p1230, w1231, e1232, h1233, hl1234⟩ := R.lst_ h1156
                      cases e1232
                      obtain ⟨p1235, w1236, e1237, h1238, hl1239⟩ := R.lst_ h1228
                      cases e1237
                      obtain ⟨c1240, hk⟩ := wp_chk hk
                      refine ⟨_, _, _, _, rfl, rfl, (O1225.s _ _ h1233), (O1225.s _ _ h1238), (by rw [hl1234.len, hl1239.len]; exact le_line c1240), fun p1241 hp1242 => ?_⟩
                      have hl1248 : RL (a := (T3 Int Int Int)) F1224 (w1231 ++ w1236) ((cutL r1.2 none (some r71.1)) ++ ([(T3.mk y1163.b y1182.a y1201.c)])) := RL.app hl1234 hl1239
                      obtain ⟨F1243, O1244, S1245, h1246⟩ := O1225.putE hp1242 (.lst (w1231 ++ w1236))
                      have f_tree := f_tree.mono S1245
                      have r7 := r7.mono S1245
                      have h11 := S1245 _ _ h11
                      have r14 := r14.mono S1245
                      have r15 := r15.mono S1245
                      have h19 := S1245 _ _ h19
                      have hl20 := hl20.mono S1245
                      have h27 := h27.mono S1245
                      have h41 := S1245 _ _ h41
                      have hl42 := hl42.mono S1245
                      have h69 := S1245 _ _ h69
                      have hl70 := hl70.mono S1245
                      have hl96 := hl96.mono S1245
                      have h901 := h901.mono S1245
                      have h908 := h908.mono S1245
                      have h915 := h915.mono S1245
                      have h922 := h922.mono S1245
                      have h929 := h929.mono S1245
                      have h936 := h936.mono S1245
                      have h1043 := h1043.mono S1245
                      have h1148 := S1245 _ _ h1148
                      have hl1149 := hl1149.mono S1245
                      have h1156 := h1156.mono S1245
                      have h1161 := S1245 _ _ h1161
                      have hl1162 := hl1162.mono S1245
                      have r1167 := r1167.mono S1245
                      have h1170 := S1245 _ _ h1170
                      have h1180 := S1245 _ _ h1180
                      have hl1181 := hl1181.mono S1245
                      have r1186 := r1186.mono S1245
                      have h1189 := S1245 _ _ h1189
                      have h1199 := S1245 _ _ h1199
                      have hl1200 := hl1200.mono S1245
                      have r1205 := r1205.mono S1245
                      have h1208 := S1245 _ _ h1208
                      have h1221 := h1221.mono S1245
                      have h1228 := h1228.mono S1245
                      have h1233 := S1245 _ _ h1233
                      have hl1234 := hl1234.mono S1245
                      have h1238 := S1245 _ _ h1238
                      have hl1239 := hl1239.mono S1245
                      have hl1248 := hl1248.mono S1245
                      have h1247 := R.lst (a := (T3 Int Int Int)) h1246 hl1248
                      obtain ⟨p1249, w1250, e1251, h1252, hl1253⟩ := R.lst_ r15
                      cases e1251
                      refine ⟨_, rfl, _, rfl, _, _, rfl, rfl, _, rfl, _, _, rfl, (SqLF O1244.s h1252), fun p1254 hp1255 => ?_⟩
                      have hl1261 : RL (a := (T3 Int Int Int)) F1243 (cutV w1250 (some (r71.1 + (1 : Int))) none) (cutL r1.2 (some (r71.1 + (1 : Int))) none) := RL.cutL hl1253 (some (r71.1 + (1 : Int))) none
                      obtain ⟨F1256, O1257, S1258, h1259⟩ := O1244.putE hp1255 (.lst (cutV w1250 (some (r71.1 + (1 : Int))) none))
                      have f_tree := f_tree.mono S1258
                      have r7 := r7.mono S1258
                      have h11 := S1258 _ _ h11
                      have r14 := r14.mono S1258
                      have r15 := r15.mono S1258
                      have h19 := S1258 _ _ h19
                      have hl20 := hl20.mono S1258
                      have h27 := h27.mono S1258
                      have h41 := S1258 _ _ h41
                      have hl42 := hl42.mono S1258
                      have h69 := S1258 _ _ h69
                      have hl70 := hl70.mono S1258
                      have hl96 := hl96.mono S1258
                      have h901 := h901.mono S1258
                      have h908 := h908.mono S1258
                      have h915 := h915.mono S1258
                      have h922 := h922.mono S1258
                      have h929 := h929.mono S1258
                      have h936 := h936.mono S1258
                      have h1043 := h1043.mono S1258
                      have h1148 := S1258 _ _ h1148
                      have hl1149 := hl1149.mono S1258
                      have h1156 := h1156.mono S1258
                      have h1161 := S1258 _ _ h1161
                      have hl1162 := hl1162.mono S1258
                      have r1167 := r1167.mono S1258
                      have h1170 := S1258 _ _ h1170
                      have h1180 := S1258 _ _ h1180
                      have hl1181 := hl1181.mono S1258
                      have r1186 := r1186.mono S1258
                      have h1189 := S1258 _ _ h1189
                      have h1199 := S1258 _ _ h1199
                      have hl1200 := hl1200.mono S1258
                      have r1205 := r1205.mono S1258
                      have h1208 := S1258 _ _ h1208
                      have h1221 := h1221.mono S1258
                      have h1228 := h1228.mono S1258
                      have h1233 := S1258 _ _ h1233
                      have hl1234 := hl1234.mono S1258
                      have h1238 := S1258 _ _ h1238
                      have hl1239 := hl1239.mono S1258
                      have h1247 := h1247.mono S1258
                      have h1252 := S1258 _ _ h1252
                      have hl1253 := hl1253.mono S1258
                      have hl1261 := hl1261.mono S1258
                      have h1260 := R.lst (a := (T3 Int Int Int)) h1259 hl1261
                      obtain ⟨p1262, w1263, e1264, h1265, hl1266⟩ := R.lst_ h1247
                      cases e1264
                      obtain ⟨p1267, w1268, e1269, h1270, hl1271⟩ := R.lst_ h1260
                      cases e1269
                      obtain ⟨c1272, hk⟩ := wp_chk hk
                      refine ⟨_, _, _, _, rfl, rfl, (O1257.s _ _ h1265), (O1257.s _ _ h1270), (by rw [hl1266.len, hl1271.len]; exact le_line c1272), fun p1273 hp1274 => ?_⟩
                      have hl1280 : RL (a := (T3 Int Int Int)) F1256 (w1263 ++ w1268) (((cutL r1.2 none (some r71.1)) ++ ([(T3.mk y1163.b y1182.a y1201.c)])) ++ (cutL r1.2 (some (r71.1 + (1 : Int))) none)) := RL.app hl1266 hl1271
                      obtain ⟨F1275, O1276, S1277, h1278⟩ := O1257.putE hp1274 (.lst (w1263 ++ w1268))
                      have f_tree := f_tree.mono S1277
                      have r7 := r7.mono S1277
                      have h11 := S1277 _ _ h11
                      have r14 := r14.mono S1277
                      have r15 := r15.mono S1277
                      have h19 := S1277 _ _ h19
                      have hl20 := hl20.mono S1277
                      have h27 := h27.mono S1277
                      have h41 := S1277 _ _ h41
                      have hl42 := hl42.mono S1277
                      have h69 := S1277 _ _ h69
                      have hl70 := hl70.mono S1277
                      have hl96 := hl96.mono S1277
                      have h901 := h901.mono S1277
                      have h908 := h908.mono S1277
                      have h915 := h915.mono S1277
                      have h922 := h922.mono S1277
                      have h929 := h929.mono S1277
                      have h936 := h936.mono S1277
                      have h1043 := h1043.mono S1277
                      have h1148 := S1277 _ _ h1148
                      have hl1149 := hl1149.mono S1277
                      have h1156 := h1156.mono S1277
                      have h1161 := S1277 _ _ h1161
                      have hl1162 := hl1162.mono S1277
                      have r1167 := r1167.mono S1277
                      have h1170 := S1277 _ _ h1170
                      have h1180 := S1277 _ _ h1180
                      have hl1181 := hl1181.mono S1277
                      have r1186 := r1186.mono S1277
                      have h1189 := S1277 _ _ h1189
                      have h1199 := S1277 _ _ h1199
                      have hl1200 := hl1200.mono S1277
                      have r1205 := r1205.mono S1277
                      have h1208 := S1277 _ _ h1208
                      have h1221 := h1221.mono S1277
                      have h1228 := h1228.mono S1277
                      have h1233 := S1277 _ _ h1233
                      have hl1234 := hl1234.mono S1277
                      have h1238 := S1277 _ _ h1238
                      have hl1239 := hl1239.mono S1277
                      have h1247 := h1247.mono S1277
                      have h1252 := S1277 _ _ h1252
                      have hl1253 := hl1253.mono S1277
                      have h1260 := h1260.mono S1277
                      have h1265 := S1277 _ _ h1265
                      have hl1266 := hl1266.mono S1277
                      have h1270 := S1277 _ _ h1270
                      have hl1271 := hl1271.mono S1277
                      have hl1280 := hl1280.mono S1277
                      have h1279 := R.lst (a := (T3 Int Int Int)) h1278 hl1280
                      refine ⟨(by show 2 ≤ sizeLine; decide), fun p1281 hp1282 => ?_⟩
                      obtain ⟨F1283, O1284, S1285, h1286⟩ := O1276.putE hp1282 (.tup [V.ref p16, V.ref p1273])
                      have f_tree := f_tree.mono S1285
                      have r7 := r7.mono S1285
                      have h11 := S1285 _ _ h11
                      have r14 := r14.mono S1285
                      have r15 := r15.mono S1285
                      have h19 := S1285 _ _ h19
                      have hl20 := hl20.mono S1285
                      have h27 := h27.mono S1285
                      have h41 := S1285 _ _ h41
                      have hl42 := hl42.mono S1285
                      have h69 := S1285 _ _ h69
                      have hl70 := hl70.mono S1285
                      have hl96 := hl96.mono S1285
                      have h901 := h901.mono S1285
                      have h908 := h908.mono S1285
                      have h915 := h915.mono S1285
                      have h922 := h922.mono S1285
                      have h929 := h929.mono S1285
                      have h936 := h936.mono S1285
                      have h1043 := h1043.mono S1285
                      have h1148 := S1285 _ _ h1148
                      have hl1149 := hl1149.mono S1285
                      have h1156 := h1156.mono S1285
                      have h1161 := S1285 _ _ h1161
                      have hl1162 := hl1162.mono S1285
                      have r1167 := r1167.mono S1285
                      have h1170 := S1285 _ _ h1170
                      have h1180 := S1285 _ _ h1180
                      have hl1181 := hl1181.mono S1285
                      have r1186 := r1186.mono S1285
                      have h1189 := S1285 _ _ h1189
                      have h1199 := S1285 _ _ h1199
                      have hl1200 := hl1200.mono S1285
                      have r1205 := r1205.mono S1285
                      have h1208 := S1285 _ _ h1208
                      have h1221 := h1221.mono S1285
                      have h1228 := h1228.mono S1285
                      have h1233 := S1285 _ _ h1233
                      have hl1234 := hl1234.mono S1285
                      have h1238 := S1285 _ _ h1238
                      have hl1239 := hl1239.mono S1285
                      have h1247 := h1247.mono S1285
                      have h1252 := S1285 _ _ h1252
                      have hl1253 := hl1253.mono S1285
                      have h1260 := h1260.mono S1285
                      have h1265 := S1285 _ _ h1265
                      have hl1266 := hl1266.mono S1285
                      have h1270 := S1285 _ _ h1270
                      have hl1271 := hl1271.mono S1285
                      have h1279 := h1279.mono S1285
                      have h1287 : R (a := ((List Int) × (List (T3 Int Int Int)))) F1283 (.ref p1281) (r1.1, (((cutL r1.2 none (some r71.1)) ++ ([(T3.mk y1163.b y1182.a y1201.c)])) ++ (cutL r1.2 (some (r71.1 + (1 : Int))) none))) := R.t2 h1286 r14 h1279
                      exact hk _ _ w94 O1284.g (O1284.at 0 rfl) hl96 _ h1287
                    · have hk := wp_el hk q1144
                      obtain ⟨p1288, w1289, e1290, h1291, hl1292⟩ := R.lst_ r15
                      cases e1290
                      refine ⟨_, rfl, _, rfl, _, rfl, _, rfl, _, _, rfl, (SqLF O1040.s h1291), fun p1293 hp1294 => ?_⟩
                      have hl1300 : RL (a := (T3 Int Int Int)) F1039 (cutV w1289 none (some r71.1)) (cutL r1.2 none (some r71.1)) := RL.cutL hl1292 none (some r71.1)
                      obtain ⟨F1295, O1296, S1297, h1298⟩ := O1040.putE hp1294 (.lst (cutV w1289 none (some r71.1)))
                      have f_tree := f_tree.mono S1297
                      have r7 := r7.mono S1297
                      have h11 := S1297 _ _ h11
                      have r14 := r14.mono S1297
                      have r15 := r15.mono S1297
                      have h19 := S1297 _ _ h19
                      have hl20 := hl20.mono S1297
                      have h27 := h27.mono S1297
                      have h41 := S1297 _ _ h41
                      have hl42 := hl42.mono S1297
                      have h69 := S1297 _ _ h69
                      have hl70 := hl70.mono S1297
                      have hl96 := hl96.mono S1297
                      have h901 := h901.mono S1297
                      have h908 := h908.mono S1297
                      have h915 := h915.mono S1297
                      have h922 := h922.mono S1297
                      have h929 := h929.mono S1297
                      have h936 := h936.mono S1297
                      have h1043 := h1043.mono S1297
                      have h1291 := S1297 _ _ h1291
                      have hl1292 := hl1292.mono S1297
                      have hl1300 := hl1300.mono S1297
                      have h1299 := R.lst (a := (T3 Int Int Int)) h1298 hl1300
                      refine ⟨_, rfl, _, rfl, _, _, _, _, _, rfl, (O1296.pre1 0 rfl), hl96, wp_call hk (fun r1301 er1302 hk F1303 H1304 w1306 g1305 h1307 hl1308 => ?_) (fun n hn C H1 hC kp => hn C H1 hC (O1296.kp1 kp 0 rfl))⟩
                      have O1309 := O1296.call1 g1305 0 rfl h1307
                      have S_ := g1305.f
                      have f_tree := f_tree.mono S_
                      have r7 := r7.mono S_
                      have h11 := S_ _ _ h11
                      have r14 := r14.mono S_
                      have r15 := r15.mono S_
                      have h19 := S_ _ _ h19
                      have hl20 := hl20.mono S_
                      have h27 := h27.mono S_
                      have h41 := S_ _ _ h41
                      have hl42 := hl42.mono S_
                      have h69 := S_ _ _ h69
                      have hl70 := hl70.mono S_
                      have h901 := h901.mono S_
                      have h908 := h908.mono S_
                      have h915 := h915.mono S_
                      have h922 := h922.mono S_
                      have h929 := h929.mono S_
                      have h936 := h936.mono S_
                      have h1043 := h1043.mono S_
                      have h1291 := S_ _ _ h1291
                      have hl1292 := hl1292.mono S_
                      have h1299 := h1299.mono S_
                      obtain ⟨p1310, w1311, e1312, h1313, hl1314⟩ := R.lst_ h936
                      cases e1312
                      obtain ⟨y1315, e1316, hk⟩ := wp_opt hk
                      obtain ⟨w1317, e1318, r1319⟩ := hl1314.atI e1316
                      refine ⟨_, _, _, _, rfl, rfl, (SqLF O1309.s h1313), e1318, (by show 1 ≤ sizeLine; decide), fun p1320 hp1321 => ?_⟩
                      have hl1327 : RL (a := (T3 Int Int Int)) F1303 ([w1317]) ([y1315]) := RL.cons r1319 RL.nil
                      obtain ⟨F1322, O1323, S1324, h1325⟩ := O1309.putE hp1321 (.lst ([w1317]))
                      have f_tree := f_tree.mono S1324
                      have r7 := r7.mono S1324
                      have h11 := S1324 _ _ h11
                      have r14 := r14.mono S1324
                      have r15 := r15.mono S1324
                      have h19 := S1324 _ _ h19
                      have hl20 := hl20.mono S1324
                      have h27 := h27.mono S1324
                      have h41 := S1324 _ _ h41
                      have hl42 := hl42.mono S1324
                      have h69 := S1324 _ _ h69
                      have hl70 := hl70.mono S1324
                      have h901 := h901.mono S1324
                      have h908 := h908.mono S1324
                      have h915 := h915.mono S1324
                      have h922 := h922.mono S1324
                      have h929 := h929.mono S1324
                      have h936 := h936.mono S1324
                      have h1043 := h1043.mono S1324
                      have h1291 := S1324 _ _ h1291
                      have hl1292 := hl1292.mono S1324
                      have h1299 := h1299.mono S1324
                      have hl1308 := hl1308.mono S1324
                      have h1313 := S1324 _ _ h1313
                      have hl1314 := hl1314.mono S1324
                      have r1319 := r1319.mono S1324
                      have hl1327 := hl1327.mono S1324
                      have h1326 := R.lst (a := (T3 Int Int Int)) h1325 hl1327
                      obtain ⟨p1328, w1329, e1330, h1331, hl1332⟩ := R.lst_ h1299
                      cases e1330
                      obtain ⟨p1333, w1334, e1335, h1336, hl1337⟩ := R.lst_ h1326
                      cases e1335
                      obtain ⟨c1338, hk⟩ := wp_chk hk
                      refine ⟨_, _, _, _, rfl, rfl, (O1323.s _ _ h1331), (O1323.s _ _ h1336), (by rw [hl1332.len, hl1337.len]; exact le_line c1338), fun p1339 hp1340 => ?_⟩
                      have hl1346 : RL (a := (T3 Int Int Int)) F1322 (w1329 ++ w1334) ((cutL r1.2 none (some r71.1)) ++ ([y1315])) := RL.app hl1332 hl1337
                      obtain ⟨F1341, O1342, S1343, h1344⟩ := O1323.putE hp1340 (.lst (w1329 ++ w1334))
                      have f_tree := f_tree.mono S1343
                      have r7 := r7.mono S1343
                      have h11 := S1343 _ _ h11
                      have r14 := r14.mono S1343
                      have r15 := r15.mono S1343
                      have h19 := S1343 _ _ h19
                      have hl20 := hl20.mono S1343
                      have h27 := h27.mono S1343
                      have h41 := S1343 _ _ h41
                      have hl42 := hl42.mono S1343
                      have h69 := S1343 _ _ h69
                      have hl70 := hl70.mono S1343
                      have h901 := h901.mono S1343
                      have h908 := h908.mono S1343
                      have h915 := h915.mono S1343
                      have h922 := h922.mono S1343
                      have h929 := h929.mono S1343
                      have h936 := h936.mono S1343
                      have h1043 := h1043.mono S1343
                      have h1291 := S1343 _ _ h1291
                      have hl1292 := hl1292.mono S1343
                      have h1299 := h1299.mono S1343
                      have hl1308 := hl1308.mono S1343
                      have h1313 := S1343 _ _ h1313
                      have hl1314 := hl1314.mono S1343
                      have r1319 := r1319.mono S1343
                      have h1326 := h1326.mono S1343
                      have h1331 := S1343 _ _ h1331
                      have hl1332 := hl1332.mono S1343
                      have h1336 := S1343 _ _ h1336
                      have hl1337 := hl1337.mono S1343
                      have hl1346 := hl1346.mono S1343
                      have h1345 := R.lst (a := (T3 Int Int Int)) h1344 hl1346
                      obtain ⟨p1347, w1348, e1349, h1350, hl1351⟩ := R.lst_ r15
                      cases e1349
                      refine ⟨_, rfl, _, rfl, _, _, rfl, rfl, _, rfl, _, _, rfl, (SqLF O1342.s h1350), fun p1352 hp1353 => ?_⟩
                      have hl1359 : RL (a := (T3 Int Int Int)) F1341 (cutV w1348 (some (r71.1 + (1 : Int))) none) (cutL r1.2 (some (r71.1 + (1 : Int))) none) := RL.cutL hl1351 (some (r71.1 + (1 : Int))) none
                      obtain ⟨F1354, O1355, S1356, h1357⟩ := O1342.putE hp1353 (.lst (cutV w1348 (some (r71.1 + (1 : Int))) none))
                      have f_tree := f_tree.mono S1356
                      have r7 := r7.mono S1356
                      have h11 := S1356 _ _ h11
                      have r14 := r14.mono S1356
                      have r15 := r15.mono S1356
                      have h19 := S1356 _ _ h19
                      have hl20 := hl20.mono S1356
                      have h27 := h27.mono S1356
                      have h41 := S1356 _ _ h41
                      have hl42 := hl42.mono S1356
                      have h69 := S1356 _ _ h69
                      have hl70 := hl70.mono S1356
                      have h901 := h901.mono S1356
                      have h908 := h908.mono S1356
                      have h915 := h915.mono S1356
                      have h922 := h922.mono S1356
                      have h929 := h929.mono S1356
                      have h936 := h936.mono S1356
                      have h1043 := h1043.mono S1356
                      have h1291 := S1356 _ _ h1291
                      have hl1292 := hl1292.mono S1356
                      have h1299 := h1299.mono S1356
                      have hl1308 := hl1308.mono S1356
                      have h1313 := S1356 _ _ h1313
                      have hl1314 := hl1314.mono S1356
                      have r1319 := r1319.mono S1356
                      have h1326 := h1326.mono S1356
                      have h1331 := S1356 _ _ h1331
                      have hl1332 := hl1332.mono S1356
                      have h1336 := S1356 _ _ h1336
                      have hl1337 := hl1337.mono S1356
                      have h1345 := h1345.mono S1356
                      have h1350 := S1356 _ _ h1350
                      have hl1351 := hl1351.mono S1356
                      have hl1359 := hl1359.mono S1356
                      have h1358 := R.lst (a := (T3 Int Int Int)) h1357 hl1359
                      obtain ⟨p1360, w1361, e1362, h1363, hl1364⟩ := R.lst_ h1345
                      cases e1362
                      obtain ⟨p1365, w1366, e1367, h1368, hl1369⟩ := R.lst_ h1358
                      cases e1367
                      obtain ⟨c1370, hk⟩ := wp_chk hk
                      refine ⟨_, _, _, _, rfl, rfl, (O1355.s _ _ h1363), (O1355.s _ _ h1368), (by rw [hl1364.len, hl1369.len]; exact le_line c1370), fun p1371 hp1372 => ?_⟩
                      have hl1378 : RL (a := (T3 Int Int Int)) F1354 (w1361 ++ w1366) (((cutL r1.2 none (some r71.1)) ++ ([y1315])) ++ (cutL r1.2 (some (r71.1 + (1 : Int))) none)) := RL.app hl1364 hl1369
                      obtain ⟨F1373, O1374, S1375, h1376⟩ := O1355.putE hp1372 (.lst (w1361 ++ w1366))
                      have f_tree := f_tree.mono S1375
                      have r7 := r7.mono S1375
                      have h11 := S1375 _ _ h11
                      have r14 := r14.mono S1375
                      have r15 := r15.mono S1375
                      have h19 := S1375 _ _ h19
                      have hl20 := hl20.mono S1375
                      have h27 := h27.mono S1375
                      have h41 := S1375 _ _ h41
                      have hl42 := hl42.mono S1375
                      have h69 := S1375 _ _ h69
                      have hl70 := hl70.mono S1375
                      have h901 := h901.mono S1375
                      have h908 := h908.mono S1375
                      have h915 := h915.mono S1375
                      have h922 := h922.mono S1375
                      have h929 := h929.mono S1375
                      have h936 := h936.mono S1375
                      have h1043 := h1043.mono S1375
                      have h1291 := S1375 _ _ h1291
                      have hl1292 := hl1292.mono S1375
                      have h1299 := h1299.mono S1375
                      have hl1308 := hl1308.mono S1375
                      have h1313 := S1375 _ _ h1313
                      have hl1314 := hl1314.mono S1375
                      have r1319 := r1319.mono S1375
                      have h1326 := h1326.mono S1375
                      have h1331 := S1375 _ _ h1331
                      have hl1332 := hl1332.mono S1375
                      have h1336 := S1375 _ _ h1336
                      have hl1337 := hl1337.mono S1375
                      have h1345 := h1345.mono S1375
                      have h1350 := S1375 _ _ h1350
                      have hl1351 := hl1351.mono S1375
                      have h1358 := h1358.mono S1375
                      have h1363 := S1375 _ _ h1363
                      have hl1364 := hl1364.mono S1375
                      have h1368 := S1375 _ _ h1368
                      have hl1369 := hl1369.mono S1375
                      have hl1378 := hl1378.mono S1375
                      have h1377 := R.lst (a := (T3 Int Int Int)) h1376 hl1378
                      refine ⟨(by show 2 ≤ sizeLine; decide), fun p1379 hp1380 => ?_⟩
                      obtain ⟨F1381, O1382, S1383, h1384⟩ := O1374.putE hp1380 (.tup [V.ref p16, V.ref p1371])
                      have f_tree := f_tree.mono S1383
                      have r7 := r7.mono S1383
                      have h11 := S1383 _ _ h11
                      have r14 := r14.mono S1383
                      have r15 := r15.mono S1383
                      have h19 := S1383 _ _ h19
                      have hl20 := hl20.mono S1383
                      have h27 := h27.mono S1383
                      have h41 := S1383 _ _ h41
                      have hl42 := hl42.mono S1383
                      have h69 := S1383 _ _ h69
                      have hl70 := hl70.mono S1383
                      have h901 := h901.mono S1383
                      have h908 := h908.mono S1383
                      have h915 := h915.mono S1383
                      have h922 := h922.mono S1383
                      have h929 := h929.mono S1383
                      have h936 := h936.mono S1383
                      have h1043 := h1043.mono S1383
                      have h1291 := S1383 _ _ h1291
                      have hl1292 := hl1292.mono S1383
                      have h1299 := h1299.mono S1383
                      have hl1308 := hl1308.mono S1383
                      have h1313 := S1383 _ _ h1313
                      have hl1314 := hl1314.mono S1383
                      have r1319 := r1319.mono S1383
                      have h1326 := h1326.mono S1383
                      have h1331 := S1383 _ _ h1331
                      have hl1332 := hl1332.mono S1383
                      have h1336 := S1383 _ _ h1336
                      have hl1337 := hl1337.mono S1383
                      have h1345 := h1345.mono S1383
                      have h1350 := S1383 _ _ h1350
                      have hl1351 := hl1351.mono S1383
                      have h1358 := h1358.mono S1383
                      have h1363 := S1383 _ _ h1363
                      have hl1364 := hl1364.mono S1383
                      have h1368 := S1383 _ _ h1368
                      have hl1369 := hl1369.mono S1383
                      have h1377 := h1377.mono S1383
                      have h1385 : R (a := ((List Int) × (List (T3 Int Int Int)))) F1381 (.ref p1379) (r1.1, (((cutL r1.2 none (some r71.1)) ++ ([y1315])) ++ (cutL r1.2 (some (r71.1 + (1 : Int))) none))) := R.t2 h1384 r14 h1377
                      exact hk _ _ w1306 O1382.g (O1382.at 0 rfl) hl1308 _ h1385
abbrev s_law : Stmt := top 28
theorem sc_law : FnScope ["script", "cell", "deck", "most", "due", "handed", "worths", "ties"] ["script"] (defScope s_law) := ⟨rfl, rfl, rfl, by decide +kernel, rfl, by decide +kernel, by decide +kernel⟩
def m_law (x_script : (List Int)) : M (Bool) :=
chk (([((10 : Int) ^ Int.toNat (18 : Int))]).length + (cutL x_script none (some (30 : Int))).length < 16777216) >>= fun _ =>
loopM (fun (y41 : Int) (st52 : Unit) =>
m_law_deck y41 >>= fun r65 =>
chk (0 < (8 : Int)) >>= fun _ =>
opt (atI ([(10 : Int), (39 : Int)]) (if (decide ((y41 % (8 : Int)) = (3 : Int))) = true then (1 : Int) else 0)) >>= fun y93 =>
m_law_far r65 >>= fun r98 =>
m_law_tree r98.2 y93 r98.1 >>= fun r107 =>
m_law_spoilt r107.2 r107.1 >>= fun r118 =>
m_law_is_tree r118.1.1 r118.1.2 >>= fun r136 =>
if r136 = true then (
m_law_told r118.1.1 r118.1.2 >>= fun r195 =>
chk (min (dep r195) (dep (Un.l (r118.1.1, (sortT r118.1.2)) : (Un ((List Int) × (List (T3 Int Int Int))) Str))) ≤ 60) >>= fun _ =>
if r195 ≠ (Un.l (r118.1.1, (sortT r118.1.2)) : (Un ((List Int) × (List (T3 Int Int Int))) Str)) then (
.ok (.rt false))
else (
if (HL2.mk r118.1.1 r118.1.2) ≠ (HL2.mk r118.1.1 r118.1.2) then (
.ok (.rt false))
else (
.ok (.nx ()))))
else (
m_law_told r118.1.1 r118.1.2 >>= fun r245 =>
chk (min (dep r245) (dep (Un.r ("NoTree" : Str) : (Un ((List Int) × (List (T3 Int Int Int))) Str))) ≤ 60) >>= fun _ =>
if r245 ≠ (Un.r ("NoTree" : Str) : (Un ((List Int) × (List (T3 Int Int Int))) Str)) then (
.ok (.rt false))
else (
if (HL2.mk r118.1.1 r118.1.2) ≠ (HL2.mk r118.1.1 r118.1.2) then (
.ok (.rt false))
else (
.ok (.nx ()))))) (([((10 : Int) ^ Int.toNat (18 : Int))]) ++ (cutL x_script none (some (30 : Int)))) () >>= fun f277 => match f277 with
| .rt z_ => .ok z_
| .nx st266 =>
.ok true
def sp_law (K : PySem.W.Frag) : Sp := fun vs H Q E => ∃ (F : Hp) (a_script : Addr) (x_script : (List Int)), vs = [.ref a_script] ∧ Pre F [] H ∧ SqL K F a_script (x_script.map V.int) ∧
  wp (m_law x_script) (fun r => ∀ (F' H' : Hp), Gr [] F H F' H' → Q (V.bl r) H') (fun _ => False)
set_option maxHeartbeats 2000000 in
theorem ok_law (nb : Nb mg) (C_law_deck : Ca P w K mg base "_law_deck" 2 ["cell"] (sp_law_deck mg)) (C_law_far : Ca P w K mg base "_law_far" 2 ["deck"] (sp_law_far mg)) (C_law_is_tree : Ca P w K mg base "_law_is_tree" 1 ["worths", "ties"] (sp_law_is_tree mg)) (C_law_spoilt : Ca P w K mg base "_law_spoilt" 2 ["deck", "tree"] (sp_law_spoilt mg)) (C_law_told : Ca P w K mg base "_law_told" 3 ["worths", "ties"] (sp_law_told mg)) (C_law_tree : Ca P w K mg base "_law_tree" 3 ["deck", "most", "far"] (sp_law_tree mg)) {f : Addr} {fd : FuncData} (F_ : Fun K "law" "law" s_law f fd) : FnOk P w K mg base (L2.CX P w) 4 f fd ["script"] (sp_law K) := by
  obtain ⟨fa_law_deck, fd_law_deck, G_law_deck, M_law_deck, K_law_deck, B_law_deck⟩ := C_law_deck.ex
  obtain ⟨fa_law_far, fd_law_far, G_law_far, M_law_far, K_law_far, B_law_far⟩ := C_law_far.ex
  obtain ⟨fa_law_is_tree, fd_law_is_tree, G_law_is_tree, M_law_is_tree, K_law_is_tree, B_law_is_tree⟩ := C_law_is_tree.ex
  obtain ⟨fa_law_spoilt, fd_law_spoilt, G_law_spoilt, M_law_spoilt, K_law_spoilt, B_law_spoilt⟩ := C_law_spoilt.ex
  obtain ⟨fa_law_told, fd_law_told, G_law_told, M_law_told, K_law_told, B_law_told⟩ := C_law_told.ex
  obtain ⟨fa_law_tree, fd_law_tree, G_law_tree, M_law_tree, K_law_tree, B_law_tree⟩ := C_law_tree.ex
  refine F_.okX sc_law (fun vs H Q E h => ?_) (fun cdv A outer s H vs Q E hr h => ?_)
  · obtain ⟨F, _, _, rfl, _⟩ := h
    rfl
  · obtain ⟨F, a_script, x_script, rfl, P0, f_script, hk⟩ := h
    have nd := sc_law.nd
    have hu64 := hr.units
    have hu128 := hu128_of hr
    have O := P0.start
    refine ⟨_, (pss_cons (ps_for (passes_of rfl) rfl (piListK (K := K) rfl (pe_op op_cat (pe_lst (pa_cons (pe_op op_pow pe_int pe_int) pa_nil)) (pe_slice (slListK (K := K) rfl) (pv 0) po_none (po_some pe_int)))) (pg_name (i := 1) nd rfl (Or.inl rfl)) (pss_cons (ps_set (i := 2) nd rfl (Or.inl rfl) (pe_call G_law_deck (hr.mono (by decide)) rfl M_law_deck K_law_deck B_law_deck .nil (passes_call (takes_of rfl rfl rfl rfl) fun _ _ _ _ h => h) (pa_cons (pv 1) pa_nil)))
  (pss_cons (ps_set (i := 3) nd rfl (Or.inl rfl) (pe_ix (ixListK (K := K) rfl) (pe_lst (pa_cons pe_int (pa_cons pe_int pa_nil))) (pe_callTy intB (by rfl) nb.b_int (by decide +kernel) (pa_cons (pe_cmpR (op_eqT Int hu64) (pe_op op_mod (pv 1) pe_int) pe_int (nomark _)) pa_nil)) (fun _ _ => rfl)))
  (pss_cons (ps_asg (pe_call G_law_spoilt (hr.mono (by decide)) rfl M_law_spoilt K_law_spoilt B_law_spoilt .nil (passes_call (takes_of rfl rfl rfl rfl) fun _ _ _ _ h => h) (pa_cons (pv 2) (pa_cons (pe_call G_law_tree (hr.mono (by decide)) rfl M_law_tree K_law_tree B_law_tree .nil (passes_call (takes_of rfl rfl rfl rfl) fun _ _ _ _ h => h) (pa_cons (pv 2) (pa_cons (pv 3) (pa_cons (pe_call G_law_far (hr.mono (by decide)) rfl M_law_far K_law_far B_law_far .nil (passes_call (takes_of rfl rfl rfl rfl) fun _ _ _ _ h => h) (pa_cons (pv 2) pa_nil)) pa_nil)))) pa_nil))) (pg_tup rfl (pgs_cons (pg_name (i := 6) nd rfl (Or.inl rfl)) (pgs_cons (pg_name (i := 7) nd rfl (Or.inl rfl)) pgs_nil))))
  (pss_cons (ps_set (i := 4) nd rfl (Or.inl rfl) pe_str)
  (pss_cons (ps_if (pt_val (pe_call G_law_is_tree (hr.mono (by decide)) rfl M_law_is_tree K_law_is_tree B_law_is_tree .nil (passes_call (takes_of rfl rfl rfl rfl) fun _ _ _ _ h => h) (pa_cons (pv 6) (pa_cons (pv 7) pa_nil)))) (pss_one (ps_set (i := 4) nd rfl (Or.inl rfl) (pe_tup (pa_cons (pv 6) (pa_cons (pe_callB (cr_sortedT (T3 Int Int Int) hu128) (by rfl) nb.b_sorted (by decide +kernel) (pa_cons (pv 7) pa_nil)) pa_nil))))) pss_nil)
  (pss_cons (ps_set (i := 5) nd rfl (Or.inl rfl) (pe_lst (pa_cons (pe_callTy (listOfK (K := K) rfl) (by rfl) nb.b_list (by decide +kernel) (pa_cons (pv 6) pa_nil)) (pa_cons (pe_callTy (listOfK (K := K) rfl) (by rfl) nb.b_list (by decide +kernel) (pa_cons (pv 7) pa_nil)) pa_nil))))
  (pss_one (ps_if (PW.pt (pw_or (pt_cmpR (op_neX (Un ((List Int) × (List (T3 Int Int Int))) Str) hu64) (pe_call G_law_told (hr.mono (by decide)) rfl M_law_told K_law_told B_law_told .nil (passes_call (takes_of rfl rfl rfl rfl) fun _ _ _ _ h => h) (pa_cons (pe_ix (ixListK (K := K) rfl) (pv 5) pe_int (fun _ _ => rfl)) (pa_cons (pe_ix (ixListK (K := K) rfl) (pv 5) pe_int (fun _ _ => rfl)) pa_nil))) (pv 4) (nomark _)) (pw_or1 (pt_cmpR (op_neT (HL2 (List Int) (List (T3 Int Int Int))) hu64) (pv 5) (pe_lst (pa_cons (pv 6) (pa_cons (pv 7) pa_nil))) (nomark _))))) (pss_one (ps_ret pe_bl)) pss_nil)))))))))
  (pss_one (ps_ret pe_bl))), ?_⟩
    refine ⟨_, _, rfl, rfl, (by decide), (by show 1 ≤ sizeLine; decide), fun p1 hp2 => ?_⟩
    have hl8 : RL (a := Int) F ([V.int ((10 : Int) ^ Int.toNat (18 : Int))]) ([((10 : Int) ^ Int.toNat (18 : Int))]) := RL.cons R.int RL.nil
    obtain ⟨F3, O4, S5, h6⟩ := O.putE hp2 (.lst ([V.int ((10 : Int) ^ Int.toNat (18 : Int))]))
    have f_script := S5.seq f_script
    have hl8 := hl8.mono S5
    have h7 := R.lst (a := Int) h6 hl8
    refine ⟨_, rfl, _, rfl, _, _, rfl, (O4.s.seq f_script), fun p9 hp10 => ?_⟩
    have hl16 : RL (a := Int) F3 (cutV (List.map V.int x_script) none (some (30 : Int))) (cutL x_script none (some (30 : Int))) := RL.cutL RL.of_ints none (some (30 : Int))
    obtain ⟨F11, O12, S13, h14⟩ := O4.putE hp10 (.lst (cutV (List.map V.int x_script) none (some (30 : Int))))
    have f_script := S13.seq f_script
    have h7 := h7.mono S13
    have hl16 := hl16.mono S13
    have h15 := R.lst (a := Int) h14 hl16
    obtain ⟨p17, w18, e19, h20, hl21⟩ := R.lst_ h7
    cases e19
    obtain ⟨p22, w23, e24, h25, hl26⟩ := R.lst_ h15
    cases e24
    obtain ⟨c27, hk⟩ := wp_chk hk
    refine ⟨_, _, _, _, rfl, rfl, (O12.s _ _ h20), (O12.s _ _ h25), (by rw [hl21.len, hl26.len]; exact le_line c27), fun p28 hp29 => ?_⟩
    have hl35 : RL (a := Int) F11 (w18 ++ w23) (([((10 : Int) ^ Int.toNat (18 : Int))]) ++ (cutL x_script none (some (30 : Int)))) := RL.app hl21 hl26
    obtain ⟨F30, O31, S32, h33⟩ := O12.putE hp29 (.lst (w18 ++ w23))
    have f_script := S32.seq f_script
    have h7 := h7.mono S32
    have h15 := h15.mono S32
    have h20 := S32 _ _ h20
    have hl21 := hl21.mono S32
    have h25 := S32 _ _ h25
    have hl26 := hl26.mono S32
    have hl35 := hl35.mono S32
    have h34 := R.lst (a := Int) h33 hl35
    obtain ⟨p36, w37, e38, h39, hl40⟩ := R.lst_ h34
    cases e38
    obtain ⟨L42, hL43, hLs44, hLd45⟩ := loopM_L hk
    refine ⟨_, rfl, ⟨_, (SqLF O31.s h39)⟩, ?_⟩
    refine for_list (K := K) (xs := w37) (fun i σ H => ∃ (F_ : Hp) (st : Unit) (t_0 : Option V) (t_1 : Option V) (t_2 : Option V) (t_3 : Option V) (t_4 : Option V) (t_5 : Option V) (t_6 : Option V), σ = [some (V.ref a_script), t_0, t_1, t_2, t_3, t_4, t_5, t_6] ∧ Same F30 F_ ∧ Ow _ F_ [] H ∧ L42 (List.drop i (([((10 : Int) ^ Int.toNat (18 : Int))]) ++ (cutL x_script none (some (30 : Int))))) st) ⟨F30, (), none, none, none, none, none, none, none, rfl, Same.refl _, O31, hL43⟩ (fun i_ σ_ H_ _ hp_ => ?_) ?_ ?_
    · obtain ⟨_, _, _, _, _, _, _, _, _, _, hS_, hO_, _⟩ := hp_
      exact SqLF hO_.s (hS_ _ _ h39)
    · rintro i46 x47 sg48 H49 hi50 ⟨F60, st52, t53, t54, t55, t56, t57, t58, t59, rfl, S51, O61, hL43⟩
      have f_script := S51.seq f_script
      have h7 := h7.mono S51
      have h15 := h15.mono S51
      have h20 := S51 _ _ h20
      have hl21 := hl21.mono S51
      have h25 := S51 _ _ h25
      have hl26 := hl26.mono S51
      have h34 := h34.mono S51
      have h39 := S51 _ _ h39
      have hl40 := hl40.mono S51
      obtain ⟨y41, e62, r63⟩ := RL.got hl40 hi50
      rw [drop_at e62] at hL43
      have hk := hLs44 _ _ _ hL43
      obtain rfl := R.int_ r63
      refine ⟨_, rfl, _, _, rfl, O61.pre0, wp_call hk (fun r65 er66 hk F67 H68 g69 p70 w71 hn72 hf73 h74 hl75 => ?_) (fun n hn C H1 hC kp => hn.elim)⟩
      have O76 := O61.call0 g69
      have S_ := g69.f
      have f_script := S_.seq f_script
      have h7 := h7.mono S_
      have h15 := h15.mono S_
      have h20 := S_ _ _ h20
      have hl21 := hl21.mono S_
      have h25 := S_ _ _ h25
      have hl26 := hl26.mono S_
      have h34 := h34.mono S_
      have h39 := S_ _ _ h39
      have hl40 := hl40.mono S_
      have S51 := S51.trans S_
      have O77 := O61.got O76 rfl hn72 hf73 h74
      have z78 := O61.was hn72
      refine ⟨(by show 2 ≤ sizeLine; decide), fun p79 hp80 => ?_⟩
      have hl86 : RL (a := Int) F67 ([V.int (10 : Int), V.int (39 : Int)]) ([(10 : Int), (39 : Int)]) := RL.cons R.int (RL.cons R.int RL.nil)
      obtain ⟨F81, O82, S83, h84⟩ := O77.putE hp80 (.lst ([V.int (10 : Int), V.int (39 : Int)]))
      have f_script := S83.seq f_script
      have h7 := h7.mono S83
      have h15 := h15.mono S83
      have h20 := S83 _ _ h20
      have hl21 := hl21.mono S83
      have h25 := S83 _ _ h25
      have hl26 := hl26.mono S83
      have h34 := h34.mono S83
      have h39 := S83 _ _ h39
      have hl40 := hl40.mono S83
      have S51 := S51.trans S83
      have hl75 := hl75.mono S83
      have hl86 := hl86.mono S83
      have h85 := R.lst (a := Int) h84 hl86
      obtain ⟨c87, hk⟩ := wp_chk hk
      obtain ⟨p88, w89, e90, h91, hl92⟩ := R.lst_ h85
      cases e90
      obtain ⟨y93, e94, hk⟩ := wp_opt hk
      obtain ⟨w95, e96, r97⟩ := hl92.atI e94
      obtain rfl := R.int_ r97
      refine ⟨_, rfl, _, _, rfl, rfl, c87, _, _, R.int, R.int, _, rfl, _, _, _, _, rfl, rfl, (SqLF O82.s h91), e96, _, rfl, _, rfl, _, rfl, _, rfl, _, _, _, _, rfl, (O82.pre1 0 rfl), hl75, wp_call hk (fun r98 er99 hk F100 H101 w103 g102 h104 hl105 => ?_) (fun n hn C H1 hC kp => hn.elim)⟩
      have O106 := O82.call1 g102 0 rfl h104
      have S_ := g102.f
      have f_script := S_.seq f_script
      have h7 := h7.mono S_
      have h15 := h15.mono S_
      have h20 := S_ _ _ h20
      have hl21 := hl21.mono S_
      have h25 := S_ _ _ h25
      have hl26 := hl26.mono S_
      have h34 := h34.mono S_
      have h39 := S_ _ _ h39
      have hl40 := hl40.mono S_
      have S51 := S51.trans S_
      have h85 := h85.mono S_
      have h91 := S_ _ _ h91
      have hl92 := hl92.mono S_
      refine ⟨_, _, _, _, _, _, rfl, (O106.pre1 0 rfl), hl105, wp_call hk (fun r107 er108 hk F109 H110 w112 g111 h113 hl114 v115 r116 => ?_) (fun n hn C H1 hC kp => hn.elim)⟩
      have O117 := O106.call1 g111 0 rfl h113
      have S_ := g111.f
      have f_script := S_.seq f_script
      have h7 := h7.mono S_
      have h15 := h15.mono S_
      have h20 := S_ _ _ h20
      have hl21 := hl21.mono S_
      have h25 := S_ _ _ h25
      have hl26 := hl26.mono S_
      have h34 := h34.mono S_
      have h39 := S_ _ _ h39
      have hl40 := hl40.mono S_
      have S51 := S51.trans S_
      have h85 := h85.mono S_
      have h91 := S_ _ _ h91
      have hl92 := hl92.mono S_
      refine ⟨_, _, _, _, _, _, rfl, (O117.pre1 0 rfl), hl114, r116, wp_call hk (fun r118 er119 hk F120 H121 w123 g122 h124 hl125 v126 r127 => ?_) (fun n hn C H1 hC kp => hn.elim)⟩
      have O128 := O117.call1 g122 0 rfl h124
      have S_ := g122.f
      have f_script := S_.seq f_script
      have h7 := h7.mono S_
      have h15 := h15.mono S_
      have h20 := S_ _ _ h20
      have hl21 := hl21.mono S_
      have h25 := S_ _ _ h25
      have hl26 := hl26.mono S_
      have h34 := h34.mono S_
      have h39 := S_ _ _ h39
      have hl40 := hl40.mono S_
      have S51 := S51.trans S_
      have h85 := h85.mono S_
      have h91 := S_ _ _ h91
      have hl92 := hl92.mono S_
      have r116 := r116.mono S_
      obtain ⟨p129, v132, v133, e130, h131, r134, r135⟩ := R.t2_ r127
      cases e130
      refine ⟨_, _, rfl, (SqTF O128.s h131), rfl, _, _, rfl, _, _, rfl, rfl, _, rfl, _, rfl, _, _, _, _, _, rfl, O128.pre0, r134, r135, wp_call hk (fun r136 er137 hk F138 H139 g140 => ?_) (fun n hn C H1 hC kp => hn.elim)⟩
      have O141 := O128.call0 g140
      have S_ := g140.f
      have f_script := S_.seq f_script
      have h7 := h7.mono S_
      have h15 := h15.mono S_
      have h20 := S_ _ _ h20
      have hl21 := hl21.mono S_
      have h25 := S_ _ _ h25
      have hl26 := hl26.mono S_
      have h34 := h34.mono S_
      have h39 := S_ _ _ h39
      have hl40 := hl40.mono S_
      have S51 := S51.trans S_
      have h85 := h85.mono S_
      have h91 := S_ _ _ h91
      have hl92 := hl92.mono S_
      have r116 := r116.mono S_
      have hl125 := hl125.mono S_
      have r127 := r127.mono S_
      have h131 := S_ _ _ h131
      have r134 := r134.mono S_
      have r135 := r135.mono S_
      refine ⟨_, rfl, ?_⟩
      refine iteB (fun q142 => ?_) (fun q142 => ?_)
      · have hk := wp_if hk q142
        obtain ⟨p143, w144, e145, h146, hl147⟩ := R.lst_ r135
        cases e145
        refine ⟨_, rfl, _, rfl, _, _, _, rfl, (O141.s _ _ h146), (RL.mono hl147 O141.s), fun p148 hp149 => ?_⟩
        have hl155 : RL (a := (T3 Int Int Int)) F138 (sortV w144 r118.1.2) (sortT r118.1.2) := (RL.sorted hl147)
        obtain ⟨F150, O151, S152, h153⟩ := O141.putE hp149 (.lst (sortV w144 r118.1.2))
        have f_script := S152.seq f_script
        have h7 := h7.mono S152
        have h15 := h15.mono S152
        have h20 := S152 _ _ h20
        have hl21 := hl21.mono S152
        have h25 := S152 _ _ h25
        have hl26 := hl26.mono S152
        have h34 := h34.mono S152
        have h39 := S152 _ _ h39
        have hl40 := hl40.mono S152
        have S51 := S51.trans S152
        have h85 := h85.mono S152
        have h91 := S152 _ _ h91
        have hl92 := hl92.mono S152
        have r116 := r116.mono S152
        have hl125 := hl125.mono S152
        have r127 := r127.mono S152
        have h131 := S152 _ _ h131
        have r134 := r134.mono S152
        have r135 := r135.mono S152
        have h146 := S152 _ _ h146
        have hl147 := hl147.mono S152
        have hl155 := hl155.mono S152
        have h154 := R.lst (a := (T3 Int Int Int)) h153 hl155
        refine ⟨(by show 2 ≤ sizeLine; decide), fun p156 hp157 => ?_⟩
        obtain ⟨F158, O159, S160, h161⟩ := O151.putE hp157 (.tup [v132, V.ref p148])
        have f_script := S160.seq f_script
        have h7 := h7.mono S160
        have h15 := h15.mono S160
        have h20 := S160 _ _ h20
        have hl21 := hl21.mono S160
        have h25 := S160 _ _ h25
        have hl26 := hl26.mono S160
        have h34 := h34.mono S160
        have h39 := S160 _ _ h39
        have hl40 := hl40.mono S160
        have S51 := S51.trans S160
        have h85 := h85.mono S160
        have h91 := S160 _ _ h91
        have hl92 := hl92.mono S160
        have r116 := r116.mono S160
        have hl125 := hl125.mono S160
        have r127 := r127.mono S160
        have h131 := S160 _ _ h131
        have r134 := r134.mono S160
        have r135 := r135.mono S160
        have h146 := S160 _ _ h146
        have hl147 := hl147.mono S160
        have h154 := h154.mono S160
        have h162 : R (a := ((List Int) × (List (T3 Int Int Int)))) F158 (.ref p156) (r118.1.1, (sortT r118.1.2)) := R.t2 h161 r134 h154
        obtain ⟨p163, w164, e165, h166, hl167⟩ := R.lst_ r134
        cases e165
        refine ⟨_, rfl, _, _, rfl, (.inl (SqLF O159.s h166)), fun p168 hp169 => ?_⟩
        have hl175 : RL (a := Int) F158 w164 r118.1.1 := hl167
        obtain ⟨F170, O171, S172, h173⟩ := O159.putE hp169 (.lst w164)
        have f_script := S172.seq f_script
        have h7 := h7.mono S172
        have h15 := h15.mono S172
        have h20 := S172 _ _ h20
        have hl21 := hl21.mono S172
        have h25 := S172 _ _ h25
        have hl26 := hl26.mono S172
        have h34 := h34.mono S172
        have h39 := S172 _ _ h39
        have hl40 := hl40.mono S172
        have S51 := S51.trans S172
        have h85 := h85.mono S172
        have h91 := S172 _ _ h91
        have hl92 := hl92.mono S172
        have r116 := r116.mono S172
        have hl125 := hl125.mono S172
        have r127 := r127.mono S172
        have h131 := S172 _ _ h131
        have r134 := r134.mono S172
        have r135 := r135.mono S172
        have h146 := S172 _ _ h146
        have hl147 := hl147.mono S172
        have h154 := h154.mono S172
        have h162 := h162.mono S172
        have h166 := S172 _ _ h166
        have hl167 := hl167.mono S172
        have hl175 := hl175.mono S172
        have h174 := R.lst (a := Int) h173 hl175
        obtain ⟨p176, w177, e178, h179, hl180⟩ := R.lst_ r135
        cases e178
        refine ⟨_, rfl, _, _, rfl, (.inl (SqLF O171.s h179)), fun p181 hp182 => ?_⟩
        have hl188 : RL (a := (T3 Int Int Int)) F170 w177 r118.1.2 := hl180
        obtain ⟨F183, O184, S185, h186⟩ := O171.putE hp182 (.lst w177)
        have f_script := S185.seq f_script
        have h7 := h7.mono S185
        have h15 := h15.mono S185
        have h20 := S185 _ _ h20
        have hl21 := hl21.mono S185
        have h25 := S185 _ _ h25
        have hl26 := hl26.mono S185
        have h34 := h34.mono S185
        have h39 := S185 _ _ h39
        have hl40 := hl40.mono S185
        have S51 := S51.trans S185
        have h85 := h85.mono S185
        have h91 := S185 _ _ h91
        have hl92 := hl92.mono S185
        have r116 := r116.mono S185
        have hl125 := hl125.mono S185
        have r127 := r127.mono S185
        have h131 := S185 _ _ h131
        have r134 := r134.mono S185
        have r135 := r135.mono S185
        have h146 := S185 _ _ h146
        have hl147 := hl147.mono S185
        have h154 := h154.mono S185
        have h162 := h162.mono S185
        have h166 := S185 _ _ h166
        have hl167 := hl167.mono S185
        have h174 := h174.mono S185
        have h179 := S185 _ _ h179
        have hl180 := hl180.mono S185
        have hl188 := hl188.mono S185
        have h187 := R.lst (a := (T3 Int Int Int)) h186 hl188
        refine ⟨(by show 2 ≤ sizeLine; decide), fun p189 hp190 => ?_⟩
        obtain ⟨F191, O192, S193, h194⟩ := O184.putE hp190 (.lst [V.ref p168, V.ref p181])
        have f_script := S193.seq f_script
        have h7 := h7.mono S193
        have h15 := h15.mono S193
        have h20 := S193 _ _ h20
        have hl21 := hl21.mono S193
        have h25 := S193 _ _ h25
        have hl26 := hl26.mono S193
        have h34 := h34.mono S193
        have h39 := S193 _ _ h39
        have hl40 := hl40.mono S193
        have S51 := S51.trans S193
        have h85 := h85.mono S193
        have h91 := S193 _ _ h91
        have hl92 := hl92.mono S193
        have r116 := r116.mono S193
        have hl125 := hl125.mono S193
        have r127 := r127.mono S193
        have h131 := S193 _ _ h131
        have r134 := r134.mono S193
        have r135 := r135.mono S193
        have h146 := S193 _ _ h146
        have hl147 := hl147.mono S193
        have h154 := h154.mono S193
        have h162 := h162.mono S193
        have h166 := S193 _ _ h166
        have hl167 := hl167.mono S193
        have h174 := h174.mono S193
        have h179 := S193 _ _ h179
        have hl180 := hl180.mono S193
        have h187 := h187.mono S193
        refine ⟨_, rfl, _, _, _, _, rfl, rfl, (SqLF O192.s h194), rfl, _, rfl, _, _, _, _, rfl, rfl, (SqLF O192.s h194), rfl, _, _, _, _, _, rfl, O192.pre0, h174, h187, wp_call hk (fun r195 er196 hk F197 H198 g199 v200 r201 => ?_) (fun n hn C H1 hC kp => hn.elim)⟩
        have O202 := O192.call0 g199
        have S_ := g199.f
        have f_script := S_.seq f_script
        have h7 := h7.mono S_
        have h15 := h15.mono S_
        have h20 := S_ _ _ h20
        have hl21 := hl21.mono S_
        have h25 := S_ _ _ h25
        have hl26 := hl26.mono S_
        have h34 := h34.mono S_
        have h39 := S_ _ _ h39
        have hl40 := hl40.mono S_
        have S51 := S51.trans S_
        have h85 := h85.mono S_
        have h91 := S_ _ _ h91
        have hl92 := hl92.mono S_
        have r116 := r116.mono S_
        have hl125 := hl125.mono S_
        have r127 := r127.mono S_
        have h131 := S_ _ _ h131
        have r134 := r134.mono S_
        have r135 := r135.mono S_
        have h146 := S_ _ _ h146
        have hl147 := hl147.mono S_
        have h154 := h154.mono S_
        have h162 := h162.mono S_
        have h166 := S_ _ _ h166
        have hl167 := hl167.mono S_
        have h174 := h174.mono S_
        have h179 := S_ _ _ h179
        have hl180 := hl180.mono S_
        have h187 := h187.mono S_
        have h194 := S_ _ _ h194
        obtain ⟨c203, hk⟩ := wp_chk hk
        refine ⟨_, rfl, _, _, (R.mono r201 O202.s), (R.mono (R.un_l h162) O202.s), c203, _, rfl, ?_⟩
        refine iteD (fun q204 => ?_) (fun q204 => ?_)
        · have hk := wp_if hk q204
          refine iteT ?_
          exact hk _ _  O202.g 
        · have hk := wp_el hk q204
          refine ⟨_, rfl, _, rfl, _, rfl, (by show 2 ≤ sizeLine; decide), fun p205 hp206 => ?_⟩
          obtain ⟨F207, O208, S209, h210⟩ := O202.putE hp206 (.lst [V.ref p163, V.ref p143])
          have f_script := S209.seq f_script
          have h7 := h7.mono S209
          have h15 := h15.mono S209
          have h20 := S209 _ _ h20
          have hl21 := hl21.mono S209
          have h25 := S209 _ _ h25
          have hl26 := hl26.mono S209
          have h34 := h34.mono S209
          have h39 := S209 _ _ h39
          have hl40 := hl40.mono S209
          have S51 := S51.trans S209
          have h85 := h85.mono S209
          have h91 := S209 _ _ h91
          have hl92 := hl92.mono S209
          have r116 := r116.mono S209
          have hl125 := hl125.mono S209
          have r127 := r127.mono S209
          have h131 := S209 _ _ h131
          have r134 := r134.mono S209
          have r135 := r135.mono S209
          have h146 := S209 _ _ h146
          have hl147 := hl147.mono S209
          have h154 := h154.mono S209
          have h162 := h162.mono S209
          have h166 := S209 _ _ h166
          have hl167 := hl167.mono S209
          have h174 := h174.mono S209
          have h179 := S209 _ _ h179
          have hl180 := hl180.mono S209
          have h187 := h187.mono S209
          have h194 := S209 _ _ h194
          have r201 := r201.mono S209
          refine ⟨_, _, (R.hl2 (x := ((HL2.mk r118.1.1 r118.1.2) : (HL2 (List Int) (List (T3 Int Int Int))))) (O208.s _ _ h194) (R.mono h174 O208.s) (R.mono h187 O208.s)), (R.hl2 (x := ((HL2.mk r118.1.1 r118.1.2) : (HL2 (List Int) (List (T3 Int Int Int))))) (O208.s _ _ h210) (R.mono r134 O208.s) (R.mono r135 O208.s)), _, rfl, ?_⟩
          refine iteD (fun q211 => ?_) (fun q211 => ?_)
          · have hk := wp_if hk q211
            exact hk _ _  O208.g 
          · have hk := wp_el hk q211
            have O212 := O208.drop 0
            exact ⟨F207, (), some (V.int y41), some (V.ref p70), some (V.int y93), some (V.ref p156), some (V.ref p189), some (V.ref p163), some (V.ref p143), rfl, S51, O212, hk⟩
      · have hk := wp_el hk q142
        obtain ⟨p213, w214, e215, h216, hl217⟩ := R.lst_ r134
        cases e215
        refine ⟨_, rfl, _, _, rfl, (.inl (SqLF O141.s h216)), fun p218 hp219 => ?_⟩
        have hl225 : RL (a := Int) F138 w214 r118.1.1 := hl217
        obtain ⟨F220, O221, S222, h223⟩ := O141.putE hp219 (.lst w214)
        have f_script := S222.seq f_script
        have h7 := h7.mono S222
        have h15 := h15.mono S222
        have h20 := S222 _ _ h20
        have hl21 := hl21.mono S222
        have h25 := S222 _ _ h25
        have hl26 := hl26.mono S222
        have h34 := h34.mono S222
        have h39 := S222 _ _ h39
        have hl40 := hl40.mono S222
        have S51 := S51.trans S222
        have h85 := h85.mono S222
        have h91 := S222 _ _ h91
        have hl92 := hl92.mono S222
        have r116 := r116.mono S222
        have hl125 := hl125.mono S222
        have r127 := r127.mono S222
        have h131 := S222 _ _ h131
        have r134 := r134.mono S222
        have r135 := r135.mono S222
        have h216 := S222 _ _ h216
        have hl217 := hl217.mono S222
        have hl225 := hl225.mono S222
        have h224 := R.lst (a := Int) h223 hl225
        obtain ⟨p226, w227, e228, h229, hl230⟩ := R.lst_ r135
        cases e228
        refine ⟨_, rfl, _, _, rfl, (.inl (SqLF O221.s h229)), fun p231 hp232 => ?_⟩
        have hl238 : RL (a := (T3 Int Int Int)) F220 w227 r118.1.2 := hl230
        obtain ⟨F233, O234, S235, h236⟩ := O221.putE hp232 (.lst w227)
        have f_script := S235.seq f_script
        have h7 := h7.mono S235
        have h15 := h15.mono S235
        have h20 := S235 _ _ h20
        have hl21 := hl21.mono S235
        have h25 := S235 _ _ h25
        have hl26 := hl26.mono S235
        have h34 := h34.mono S235
        have h39 := S235 _ _ h39
        have hl40 := hl40.mono S235
        have S51 := S51.trans S235
        have h85 := h85.mono S235
        have h91 := S235 _ _ h91
        have hl92 := hl92.mono S235
        have r116 := r116.mono S235
        have hl125 := hl125.mono S235
        have r127 := r127.mono S235
        have h131 := S235 _ _ h131
        have r134 := r134.mono S235
        have r135 := r135.mono S235
        have h216 := S235 _ _ h216
        have hl217 := hl217.mono S235
        have h224 := h224.mono S235
        have h229 := S235 _ _ h229
        have hl230 := hl230.mono S235
        have hl238 := hl238.mono S235
        have h237 := R.lst (a := (T3 Int Int Int)) h236 hl238
        refine ⟨(by show 2 ≤ sizeLine; decide), fun p239 hp240 => ?_⟩
        obtain ⟨F241, O242, S243, h244⟩ := O234.putE hp240 (.lst [V.ref p218, V.ref p231])
        have f_script := S243.seq f_script
        have h7 := h7.mono S243
        have h15 := h15.mono S243
        have h20 := S243 _ _ h20
        have hl21 := hl21.mono S243
        have h25 := S243 _ _ h25
        have hl26 := hl26.mono S243
        have h34 := h34.mono S243
        have h39 := S243 _ _ h39
        have hl40 := hl40.mono S243
        have S51 := S51.trans S243
        have h85 := h85.mono S243
        have h91 := S243 _ _ h91
        have hl92 := hl92.mono S243
        have r116 := r116.mono S243
        have hl125 := hl125.mono S243
        have r127 := r127.mono S243
        have h131 := S243 _ _ h131
        have r134 := r134.mono S243
        have r135 := r135.mono S243
        have h216 := S243 _ _ h216
        have hl217 := hl217.mono S243
        have h224 := h224.mono S243
        have h229 := S243 _ _ h229
        have hl230 := hl230.mono S243
        have h237 := h237.mono S243
        refine ⟨_, rfl, _, _, _, _, rfl, rfl, (SqLF O242.s h244), rfl, _, rfl, _, _, _, _, rfl, rfl, (SqLF O242.s h244), rfl, _, _, _, _, _, rfl, O242.pre0, h224, h237, wp_call hk (fun r245 er246 hk F247 H248 g249 v250 r251 => ?_) (fun n hn C H1 hC kp => hn.elim)⟩
        have O252 := O242.call0 g249
        have S_ := g249.f
        have f_script := S_.seq f_script
        have h7 := h7.mono S_
        have h15 := h15.mono S_
        have h20 := S_ _ _ h20
        have hl21 := hl21.mono S_
        have h25 := S_ _ _ h25
        have hl26 := hl26.mono S_
        have h34 := h34.mono S_
        have h39 := S_ _ _ h39
        have hl40 := hl40.mono S_
        have S51 := S51.trans S_
        have h85 := h85.mono S_
        have h91 := S_ _ _ h91
        have hl92 := hl92.mono S_
        have r116 := r116.mono S_
        have hl125 := hl125.mono S_
        have r127 := r127.mono S_
        have h131 := S_ _ _ h131
        have r134 := r134.mono S_
        have r135 := r135.mono S_
        have h216 := S_ _ _ h216
        have hl217 := hl217.mono S_
        have h224 := h224.mono S_
        have h229 := S_ _ _ h229
        have hl230 := hl230.mono S_
        have h237 := h237.mono S_
        have h244 := S_ _ _ h244
        obtain ⟨c253, hk⟩ := wp_chk hk
        refine ⟨_, rfl, _, _, (R.mono r251 O252.s), (R.mono (R.un_r R.str) O252.s), c253, _, rfl, ?_⟩
        refine iteD (fun q254 => ?_) (fun q254 => ?_)
        · have hk := wp_if hk q254
          refine iteT ?_
          exact hk _ _  O252.g 
        · have hk := wp_el hk q254
          refine ⟨_, rfl, _, rfl, _, rfl, (by show 2 ≤ sizeLine; decide), fun p255 hp256 => ?_⟩
          obtain ⟨F257, O258, S259, h260⟩ := O252.putE hp256 (.lst [V.ref p213, V.ref p226])
          have f_script := S259.seq f_script
          have h7 := h7.mono S259
          have h15 := h15.mono S259
          have h20 := S259 _ _ h20
          have hl21 := hl21.mono S259
          have h25 := S259 _ _ h25
          have hl26 := hl26.mono S259
          have h34 := h34.mono S259
          have h39 := S259 _ _ h39
          have hl40 := hl40.mono S259
          have S51 := S51.trans S259
          have h85 := h85.mono S259
          have h91 := S259 _ _ h91
          have hl92 := hl92.mono S259
          have r116 := r116.mono S259
          have hl125 := hl125.mono S259
          have r127 := r127.mono S259
          have h131 := S259 _ _ h131
          have r134 := r134.mono S259
          have r135 := r135.mono S259
          have h216 := S259 _ _ h216
          have hl217 := hl217.mono S259
          have h224 := h224.mono S259
          have h229 := S259 _ _ h229
          have hl230 := hl230.mono S259
          have h237 := h237.mono S259
          have h244 := S259 _ _ h244
          have r251 := r251.mono S259
          refine ⟨_, _, (R.hl2 (x := ((HL2.mk r118.1.1 r118.1.2) : (HL2 (List Int) (List (T3 Int Int Int))))) (O258.s _ _ h244) (R.mono h224 O258.s) (R.mono h237 O258.s)), (R.hl2 (x := ((HL2.mk r118.1.1 r118.1.2) : (HL2 (List Int) (List (T3 Int Int Int))))) (O258.s _ _ h260) (R.mono r134 O258.s) (R.mono r135 O258.s)), _, rfl, ?_⟩
          refine iteD (fun q261 => ?_) (fun q261 => ?_)
          · have hk := wp_if hk q261
            exact hk _ _  O258.g 
          · have hk := wp_el hk q261
            have O262 := O258.drop 0
            exact ⟨F257, (), some (V.int y41), some (V.ref p70), some (V.int y93), some (V.str ("NoTree" : Str)), some (V.ref p239), some (V.ref p213), some (V.ref p226), rfl, S51, O262, hk⟩
    rintro sg263 H264 ⟨F275, st266, t268, t269, t270, t271, t272, t273, t274, rfl, S265, O276, hL267⟩
    rw [drop_end hl40.len] at hL267
    have hk := hLd45 _ hL267
    have f_script := S265.seq f_script
    have h7 := h7.mono S265
    have h15 := h15.mono S265
    have h20 := S265 _ _ h20
    have hl21 := hl21.mono S265
    have h25 := S265 _ _ h25
    have hl26 := hl26.mono S265
    have h34 := h34.mono S265
    have h39 := S265 _ _ h39
    have hl40 := hl40.mono S265
    exact hk _ _  O276.g 
end
set_option maxHeartbeats 2000000
/-! ### the law's own helpers -/
abbrev D2 := {e : Int × Int // 0 ≤ e.2 ∧ e.2 < 2147483648}
def dk (d : D2) : List Int := [d.1.1, d.1.2]
theorem pow10 (n : Nat) : (10 : Int) ^ n = ((10 ^ n : Nat) : Int) := by rw [Int.natCast_pow]; rfl
theorem stir_ok (c k : Int) (h : 1 ≤ k ∧ k ≤ 3) : ∃ s, m_law_stir c k = .ok s ∧ 0 ≤ s ∧ s < 10 ^ 62 := by
  unfold m_law_stir
  have e40 : (10 : Int) ^ Int.toNat (40 : Int) = 10000000000000000000000000000000000000000 := by decide
  have e60 : (3 : Int) ^ Int.toNat (60 : Int) = 42391158275216203514294433201 := by decide
  have e61 : (10 : Int) ^ Int.toNat (61 : Int) = 10000000000000000000000000000000000000000000000000000000000000 := by decide
  rw [e40, e60, e61]
  obtain ⟨r, hr⟩ : ∃ r, r = c % 10000000000000000000000000000000000000000 := ⟨_, rfl⟩
  have r0 : 0 ≤ r := by omega
  have r1 : r < 10000000000000000000000000000000000000000 := by omega
  rw [← hr]
  rw [chk_b (by decide)]
  rw [chk_b (cmulW (Nat.lt_of_lt_of_le (m := 10 ^ 40) (by omega) (by decide +kernel)) (by decide +kernel))]
  rw [chk_b (cmulW (by decide +kernel) (Nat.lt_of_lt_of_le (m := 5) (by omega) (by decide +kernel)))]
  obtain ⟨q, hq⟩ : ∃ q, q = 42391158275216203514294433201 * (k + 1) := ⟨_, rfl⟩
  have q0 : 0 ≤ q ∧ q ≤ 42391158275216203514294433201 * 4 := by omega
  rw [← hq]
  rw [chk_b (cmulW (Nat.lt_of_lt_of_le (m := 10 ^ 40) (by omega) (by decide +kernel)) (Nat.lt_of_lt_of_le (m := 5) (by omega) (by decide +kernel)))]
  have q2 : 0 ≤ q * (k + 1) ∧ q * (k + 1) ≤ 42391158275216203514294433201 * 16 := by
    have : k = 1 ∨ k = 2 ∨ k = 3 := by omega
    rcases this with rfl | rfl | rfl <;> omega
  rw [ret_b]
  obtain ⟨n, hn⟩ : ∃ n, n = r * 48271 + q * (k + 1) + k := ⟨_, rfl⟩
  rw [← hn]
  have n0 : 0 ≤ n := by omega
  have n1 : n.natAbs < 2 ^ 160 := Nat.lt_of_lt_of_le (m := 10 ^ 46) (by omega) (by decide)
  rw [chk_b (cmulW (Nat.lt_of_lt_of_le n1 (Nat.pow_le_pow_right (by decide) (by decide))) (Nat.lt_of_lt_of_le n1 (Nat.pow_le_pow_right (by decide) (by decide))))]
  rw [chk_b (cmulW (by decide +kernel) (Nat.lt_of_lt_of_le n1 (Nat.pow_le_pow_right (by decide) (by decide))))]
  rw [ret_b]
  have m1 : (n * n).natAbs < 2 ^ (160 + 160) := wide_lt n1 n1
  have m2 : ((69621 : Int) * n).natAbs < 2 ^ (17 + 160) := wide_lt (by decide) n1
  have m3 : (n * n + 69621 * n).natAbs < 2 ^ 321 := by
    have a1 := Int.natAbs_add_le (n * n) (69621 * n)
    have a2 : (2 : Nat) ^ (17 + 160) ≤ 2 ^ 320 := Nat.pow_le_pow_right (by decide) (by decide)
    have a3 : (2 : Nat) ^ 321 = 2 ^ 320 + 2 ^ 320 := by decide
    omega
  rw [chk_b (cmulW (Nat.lt_of_lt_of_le m3 (Nat.pow_le_pow_right (by decide) (by decide))) (Nat.lt_of_lt_of_le m3 (Nat.pow_le_pow_right (by decide) (by decide))))]
  rw [chk_b (by decide), chk_b (cdivW (by decide) (by decide))]
  refine ⟨_, rfl, ?_⟩
  have : (10 : Int) ^ 62 = 100000000000000000000000000000000000000000000000000000000000000 := by decide
  rw [this]
  omega
theorem take_big (d : D2) (m : Int) (h : 0 < m) (h2 : m ≤ 10 ^ 40) : ∃ x d', m_law_take (dk d) m = .ok (x, dk d') ∧ 0 ≤ x ∧ x < m := by
  obtain ⟨⟨a, e⟩, e0, e1⟩ := d
  have e0 : 0 ≤ e := e0
  have e1 : e < 2147483648 := e1
  show ∃ x d', m_law_take [a, e] m = .ok (x, dk d') ∧ 0 ≤ x ∧ x < m
  unfold m_law_take
  rw [opt_b (show L2.atI [a, e] (0 : Int) = some a from rfl)]
  by_cases z : a = 0
  · rw [if_pos z]
    have f0 : 0 ≤ (e * 48271 + e / 7) % 2147483647 := Int.emod_nonneg _ (by decide)
    have f1 : (e * 48271 + e / 7) % 2147483647 < 2147483647 := Int.emod_lt_of_pos _ (by decide)
    obtain ⟨f, hf⟩ : ∃ f, f = (e * 48271 + e / 7) % 2147483647 := ⟨_, rfl⟩
    refine ⟨(f * 69621 % 2147483563 / 8) % m, ⟨(a, f), by show 0 ≤ f; omega, by show f < 2147483648; omega⟩, ?_, Int.emod_nonneg _ (by omega), Int.emod_lt_of_pos _ h⟩
    have g0 : 0 ≤ f * 69621 % 2147483563 := Int.emod_nonneg _ (by decide)
    have g1 : f * 69621 % 2147483563 < 2147483563 := Int.emod_lt_of_pos _ (by decide)
    rw [opt_b (show L2.atI [a, e] (1 : Int) = some e from rfl)]
    rw [chk_b (cmulW (Nat.lt_of_lt_of_le (m := 10 ^ 40) (by omega) (by decide +kernel)) (by decide +kernel))]
    rw [opt_b (show L2.atI [a, e] (1 : Int) = some e from rfl), chk_b (cdivW (by decide) (by decide)), chk_b (by decide)]
    rw [← hf]
    rw [bind_ok (show setI [a, e] (1 : Int) f = .ok [a, f] from rfl)]
    rw [opt_b (show L2.atI [a, f] (1 : Int) = some f from rfl)]
    rw [chk_b (cmulW (Nat.lt_of_lt_of_le (m := 10 ^ 40) (by omega) (by decide +kernel)) (by decide +kernel)), chk_b (by decide)]
    rw [chk_b (cdivW (by decide) (by decide)), chk_b h]
    rfl
  · rw [if_neg z]
    refine ⟨a % m, ⟨(a / m, e), e0, e1⟩, ?_, Int.emod_nonneg _ (by omega), Int.emod_lt_of_pos _ h⟩
    rw [opt_b (show L2.atI [a, e] (0 : Int) = some a from rfl), chk_b h, opt_b (show L2.atI [a, e] (0 : Int) = some a from rfl), chk_b (cdivW h h2)]
    rw [bind_ok (show setI [a, e] (0 : Int) (a / m) = .ok [a / m, e] from rfl)]
    rfl
theorem deck_ok (c : Int) : ∃ d, m_law_deck c = .ok (dk d) := by
  unfold m_law_deck
  have e60 : (10 : Int) ^ Int.toNat (60 : Int) = 10 ^ 60 := rfl
  by_cases h : (10 : Int) ^ Int.toNat (18 : Int) ≤ c
  · rw [if_pos h, chk_b (by decide)]
    exact ⟨⟨(c - (10 : Int) ^ Int.toNat (18 : Int), (c - (10 : Int) ^ Int.toNat (18 : Int)) % 2147483629), Int.emod_nonneg _ (by decide), Int.lt_trans (Int.emod_lt_of_pos _ (by decide)) (by decide)⟩, rfl⟩
  · rw [if_neg h]
    obtain ⟨s1, e1, a1, b1⟩ := stir_ok c 1 (by decide)
    obtain ⟨s2, e2, a2, b2⟩ := stir_ok c 2 (by decide)
    obtain ⟨s3, e3, _, _⟩ := stir_ok c 3 (by decide)
    have k62 : ((10 : Int) ^ 62).natAbs < 2 ^ 210 := by decide
    have w1 : s1.natAbs < 2 ^ 210 := wide_le a1 (Int.le_of_lt b1) k62
    have w2 : s2.natAbs < 2 ^ 210 := wide_le a2 (Int.le_of_lt b2) k62
    have k60 : ((10 : Int) ^ 60).natAbs < 2 ^ 200 := by decide
    rw [bind_ok e1, e60, chk_b (cmulW (Nat.lt_of_lt_of_le w1 (Nat.pow_le_pow_right (by decide) (by decide))) (Nat.lt_of_lt_of_le k60 (Nat.pow_le_pow_right (by decide) (by decide)))), bind_ok e2]
    have m1 : (s1 * 10 ^ 60).natAbs < 2 ^ (210 + 200) := wide_lt w1 k60
    have m2 : (s1 * 10 ^ 60 + s2).natAbs < 2 ^ 411 := by
      have x1 := Int.natAbs_add_le (s1 * 10 ^ 60) s2
      have x2 : (2 : Nat) ^ 210 ≤ 2 ^ 410 := Nat.pow_le_pow_right (by decide) (by decide)
      have x3 : (2 : Nat) ^ 411 = 2 ^ 410 + 2 ^ 410 := by decide
      omega
    rw [chk_b (cmulW (Nat.lt_of_lt_of_le m2 (Nat.pow_le_pow_right (by decide) (by decide))) (Nat.lt_of_lt_of_le k60 (Nat.pow_le_pow_right (by decide) (by decide)))), bind_ok e3]
    have v0 : 0 ≤ c % 2147483628 + 1 := by omega
    have v1 : c % 2147483628 + 1 < 2147483648 := by omega
    first
      | exact ⟨⟨(_, c % 2147483628 + 1), v0, v1⟩, rfl⟩
      | (rw [chk_b (by decide)]; exact ⟨⟨(_, c % 2147483628 + 1), v0, v1⟩, rfl⟩)
/-- how far numbers go -/
def farB : Int := 100000000000000000000000000000
theorem number_ok (d : D2) (far : Int) (h : 0 ≤ far) (h2 : far ≤ farB) : ∃ x d', m_law_number (dk d) far = .ok (x, dk d') ∧ -far ≤ x ∧ x ≤ far := by
  unfold m_law_number
  have hb : far ≤ 100000000000000000000000000000 := h2
  have k : (10 : Int) ^ 40 = 10000000000000000000000000000000000000000 := by decide
  rw [chk_b (cmulW (by decide +kernel) (Nat.lt_of_lt_of_le (m := 10 ^ 40) (by omega) (by decide +kernel)))]
  obtain ⟨x, d', e, x0, x1⟩ := take_big d (2 * far + 1) (by omega) (by omega)
  rw [bind_ok e]
  exact ⟨x - far, d', rfl, by omega, by omega⟩
theorem take_small (d : D2) (m : Int) (h : 0 < m) (h2 : m ≤ 1000000) : ∃ x d', m_law_take (dk d) m = .ok (x, dk d') ∧ 0 ≤ x ∧ x < m := by
  have k : (10 : Int) ^ 40 = 10000000000000000000000000000000000000000 := by decide
  exact take_big d m h (by omega)
theorem nums_ok (far : Int) (h : 0 ≤ far) (h2 : far ≤ farB) {items : List Int} (hl : items.length < 16777216) (d : D2) :
    ∃ xs d', compS (fun (_ : Int) (st : List Int) => m_law_number st far >>= fun r => .ok (some r.1, r.2)) items (dk d) = .ok (xs, (dk d')) ∧ xs.length = items.length ∧ ∀ x ∈ xs, -far ≤ x ∧ x ≤ far := by
  obtain ⟨acc, st, e, ⟨d', rfl⟩, h3, h4⟩ := compS_run (f := fun (_ : Int) (st : List Int) => m_law_number st far >>= fun r => .ok (some r.1, r.2)) hl
    (fun pre acc st => (∃ d', st = (dk d')) ∧ acc.length = pre.length ∧ ∀ x ∈ acc, -far ≤ x ∧ x ≤ far) (x := (dk d)) ⟨⟨d, rfl⟩, rfl, fun _ h => nomatch h⟩ fun pre y post acc st _ ⟨⟨d', hd⟩, h3, h4⟩ => by
      subst hd
      obtain ⟨x, d2, e, hx⟩ := number_ok d' far h h2
      refine ⟨some x, (dk d2), by rw [bind_ok e], ⟨d2, rfl⟩, by simp [h3], fun z hz => ?_⟩
      rcases List.mem_append.mp hz with hz | hz
      · exact h4 z hz
      · rw [List.mem_singleton.mp hz]; exact hx
  exact ⟨acc, d', e, h3, h4⟩
theorem rangeL_mem {lo hi x : Int} : x ∈ rangeL lo hi ↔ lo ≤ x ∧ x < hi := by
  unfold rangeL
  rw [List.mem_map]
  constructor
  · rintro ⟨j, hj, rfl⟩
    have := List.mem_range.mp hj
    omega
  · rintro ⟨h1, h2⟩
    exact ⟨(x - lo).toNat, List.mem_range.mpr (by omega), by omega⟩
theorem rangeL_nodup (lo hi : Int) : (rangeL lo hi).Nodup := by
  unfold rangeL
  rw [List.nodup_iff_pairwise_ne, List.pairwise_map]
  exact List.nodup_range.imp fun h e => h (by omega)
/-- an order of all places -/
theorem order_ok (d : D2) (n : Int) (h0 : 0 ≤ n) (h1 : n ≤ 1000000) : ∃ o d', m_law_order (dk d) n = .ok (o, (dk d')) ∧ o.Perm (rangeL 0 n) := by
  unfold m_law_order
  have hr : okR n := ⟨by omega, h1⟩
  rw [chk_b hr, chk_b hr]
  have hlen : (rangeL 0 n).length = n.toNat := by rw [rangeL_length]; omega
  obtain ⟨st, e, h2⟩ := loopN_run (f := fun (_ : Int) (st26 : (List Int) × (List Int) × (List Int)) =>
      m_law_take st26.2.2 (st26.2.1.length : Int) >>= fun r36 => popI st26.2.1 r36.1 >>= fun t54 => appL st26.1 t54.1 >>= fun _ => (.ok ((st26.1 ++ [t54.1]), t54.2, r36.2) : M _))
    (all := rangeL 0 n) (fun pre st => (∃ d', st.2.2 = (dk d')) ∧ (st.1 ++ st.2.1).Perm (rangeL 0 n) ∧ st.1.length = pre.length) (x := ([], rangeL 0 n, (dk d))) ⟨⟨d, rfl⟩, List.Perm.refl _, rfl⟩ fun pre y post st ea ⟨⟨d', hd⟩, hp, hl⟩ => by
      obtain ⟨fs, ls, ds⟩ := st
      have hd : ds = (dk d') := hd
      subst hd
      have hp : (fs ++ ls).Perm (rangeL 0 n) := hp
      have hl : fs.length = pre.length := hl
      have hpl := hp.length_eq
      rw [List.length_append, hlen] at hpl
      have hal := congrArg List.length ea
      rw [List.length_append, List.length_cons, hlen] at hal
      obtain ⟨x, d2, ex, x0, x1⟩ := take_small d' (ls.length : Int) (by omega) (by omega)
      have hx : x.toNat < ls.length := by omega
      have eg : ls[x.toNat]? = some ls[x.toNat] := List.getElem?_eq_getElem hx
      refine ⟨(fs ++ [ls[x.toNat]], ls.eraseIdx x.toNat, (dk d2)), ?_, ⟨d2, rfl⟩, ?_, by simp [hl]⟩
      · show (m_law_take (dk d') (ls.length : Int) >>= fun r36 => popI ls r36.1 >>= fun t54 => appL fs t54.1 >>= fun _ => (.ok ((fs ++ [t54.1]), t54.2, r36.2) : M _)) = _
        rw [bind_ok ex, bind_ok (popI_ok x0 eg (by omega)), bind_ok (appL_ok (by omega))]
      · show ((fs ++ [ls[x.toNat]]) ++ ls.eraseIdx x.toNat).Perm (rangeL 0 n)
        refine List.Perm.trans ?_ hp
        rw [List.append_assoc]
        refine List.Perm.append_left fs ?_
        show (ls[x.toNat] :: ls.eraseIdx x.toNat).Perm ls
        exact erase_perm hx
  obtain ⟨fs, ls, ds⟩ := st
  obtain ⟨⟨d', hd⟩, hp, hl⟩ := h2
  have hd : ds = (dk d') := hd
  subst hd
  have hp : (fs ++ ls).Perm (rangeL 0 n) := hp
  have hl : fs.length = (rangeL 0 n).length := hl
  have hpl := hp.length_eq
  rw [List.length_append] at hpl
  have : ls = [] := List.length_eq_zero_iff.mp (by omega)
  subst this
  rw [List.append_nil] at hp
  rw [bind_ok e]
  exact ⟨fs, d', rfl, hp⟩

theorem at5 (a b c d e k : Int) (h : 0 ≤ k) (h5 : k < 5) (P : Int → Prop) (pa : P a) (pb : P b) (pc : P c) (pd : P d) (pe : P e) : ∃ x, L2.atI [a, b, c, d, e] k = some x ∧ P x := by
  obtain ⟨x, e1, e2⟩ := atI_some (xs := [a, b, c, d, e]) h (by simpa using h5)
  refine ⟨x, e1, ?_⟩
  have hm := List.mem_of_getElem? e2
  simp only [List.mem_cons, List.not_mem_nil, or_false] at hm
  rcases hm with rfl | rfl | rfl | rfl | rfl <;> assumption
theorem tree_ok (d : D2) (most far : Int) (m1 : 1 ≤ most) (m2 : most ≤ 1000) (f0 : 0 ≤ far) (f1 : far ≤ farB) :
    ∃ t d', m_law_tree (dk d) most far = .ok (t, (dk d')) ∧ TreeOk t ∧ (t.1.length : Int) ≤ most ∧ (∀ x ∈ t.1, -far ≤ x ∧ x ≤ far) ∧ ∀ x ∈ t.2, -far ≤ x.c ∧ x.c ≤ far := by
  unfold m_law_tree
  obtain ⟨r, d1, e1, r0, r1⟩ := take_small d most (by omega) (by omega)
  rw [bind_ok e1]
  show ∃ t d', (m_law_order (dk d1) ((1 : Int) + r) >>= _) = _ ∧ _
  obtain ⟨o, d2, e2, po⟩ := order_ok d1 (1 + r) (by omega) (by omega)
  rw [bind_ok e2]
  obtain ⟨kd, d3, e3, k0, k5⟩ := take_small d2 5 (by decide) (by decide)
  show ∃ t d', (m_law_take (dk d2) 5 >>= _) = _ ∧ _
  rw [bind_ok e3, chk_b (show okR 1 by decide), chk_b (show okR (1 + r) from ⟨by omega, by omega⟩)]
  have olen : o.length = (1 + r).toNat := by
    have := po.length_eq
    rw [rangeL_length] at this
    omega
  have ond : o.Nodup := po.nodup_iff.mpr (rangeL_nodup _ _)
  obtain ⟨st, e4, h4⟩ := loopN_run (f := fun (y47 : Int) (st60 : (List Int) × (List (T3 Int Int Int))) =>
      m_law_take st60.1 y47 >>= fun r70 =>
      m_law_take r70.2 (3 : Int) >>= fun r79 =>
      m_law_take r79.2 y47 >>= fun r88 =>
      opt (atI ([r70.1, (y47 - (1 : Int)), (0 : Int), (if ((y47 - (1 : Int)) - r79.1) > (0 : Int) then ((y47 - (1 : Int)) - r79.1) else (0 : Int)), r88.1]) kd) >>= fun y110 =>
      opt (atI o y47) >>= fun y120 =>
      opt (atI o y110) >>= fun y130 =>
      opt (atI (sortT ([y120, y130])) (0 : Int)) >>= fun y161 =>
      opt (atI (sortT ([y120, y130])) (1 : Int)) >>= fun y171 =>
      m_law_number r88.2 far >>= fun r176 =>
      appL st60.2 (T3.mk y161 y171 r176.1) >>= fun _ =>
      (.ok (r176.2, (st60.2 ++ [(T3.mk y161 y171 r176.1)])) : M _)) (all := rangeL (1 : Int) ((1 : Int) + r)) (x := ((dk d3), []))
    (fun pre st => (∃ d', st.1 = (dk d')) ∧ Grown (o.take (pre.length + 1)) st.2 ∧ ∀ x ∈ st.2, -far ≤ x.c ∧ x.c ≤ far)
    ⟨⟨d3, rfl⟩, by
      cases o with
      | nil => simp at olen; omega
      | cons p o => exact Grown.one p, fun _ h => nomatch h⟩
    fun pre y post st ea ⟨⟨d', hd⟩, hg, hc⟩ => by
      obtain ⟨ds, ts⟩ := st
      have hd : ds = (dk d') := hd
      subst hd
      have hg : Grown (o.take (pre.length + 1)) ts := hg
      have hc : ∀ x ∈ ts, -far ≤ x.c ∧ x.c ≤ far := hc
      -- the turn's number
      have hy : y = 1 + (pre.length : Int) ∧ pre.length < r.toNat := by
        have hl := congrArg List.length ea
        rw [rangeL_length, List.length_append, List.length_cons] at hl
        have hg2 : (rangeL 1 (1 + r))[pre.length]? = some y := by rw [ea]; simp
        unfold rangeL at hg2
        rw [List.getElem?_map, List.getElem?_range (by omega)] at hg2
        exact ⟨(Option.some.inj hg2).symm, by omega⟩
      obtain ⟨hy, hpl⟩ := hy
      obtain ⟨q1, d4, a1, b1, c1⟩ := take_small d' y (by omega) (by omega)
      obtain ⟨q2, d5, a2, b2, c2⟩ := take_small d4 3 (by decide) (by decide)
      obtain ⟨q3, d6, a3, b3, c3⟩ := take_small d5 y (by omega) (by omega)
      obtain ⟨at_, a4, b4, c4⟩ := at5 q1 (y - 1) 0 (if (y - 1) - q2 > 0 then (y - 1) - q2 else 0) q3 kd k0 k5 (fun x => 0 ≤ x ∧ x < y) ⟨b1, c1⟩ (by omega) (by omega) (by split <;> omega) ⟨b3, c3⟩
      obtain ⟨p, a5, b5⟩ := atI_some (xs := o) (j := y) (by omega) (by omega)
      obtain ⟨q, a6, b6⟩ := atI_some (xs := o) (j := at_) b4 (by omega)
      obtain ⟨c, d7, a7, b7⟩ := number_ok d6 far f0 f1
      have hq : q ∈ o.take (pre.length + 1) := by
        refine List.mem_iff_getElem?.mpr ⟨at_.toNat, ?_⟩
        rw [List.getElem?_take_of_lt (by omega)]
        exact b6
      have hp : p ∉ o.take (pre.length + 1) := fun hm => by
        obtain ⟨j, hj⟩ := List.mem_iff_getElem?.mp hm
        rw [List.getElem?_take] at hj
        split at hj
        · have := nd_ix ond hj b5
          omega
        · cases hj
      have hpq : p ≠ q := fun e => hp (e ▸ hq)
      have hs : sortT [p, q] = [(tieOf p q c).a, (tieOf p q c).b] := by
        rw [sort2]
        unfold tieOf
        by_cases hh : p ≤ q
        · rw [if_pos hh, if_pos hh]
        · rw [if_neg hh, if_neg hh]
      have hcc : (tieOf p q c).c = c := (tieOf_lt hpq).2.2
      have et : T3.mk (tieOf p q c).a (tieOf p q c).b c = tieOf p q c := PySem.W.T3.same rfl rfl hcc.symm
      have hlt : ts.length < 16777216 := by
        have := hg.len
        rw [List.length_take] at this
        omega
      refine ⟨((dk d7), ts ++ [tieOf p q c]), ?_, ⟨d7, rfl⟩, ?_, fun x hx => ?_⟩
      · show (m_law_take (dk d') y >>= _) = _
        rw [bind_ok a1]
        show (m_law_take (dk d4) 3 >>= _) = _
        rw [bind_ok a2]
        show (m_law_take (dk d5) y >>= _) = _
        rw [bind_ok a3]
        show (opt (atI [q1, y - 1, 0, (if (y - 1) - q2 > 0 then (y - 1) - q2 else 0), q3] kd) >>= _) = _
        rw [opt_b a4, opt_b a5, opt_b a6, hs]
        rw [opt_b (show L2.atI [(tieOf p q c).a, (tieOf p q c).b] (0 : Int) = some (tieOf p q c).a from rfl), opt_b (show L2.atI [(tieOf p q c).a, (tieOf p q c).b] (1 : Int) = some (tieOf p q c).b from rfl)]
        show (m_law_number (dk d6) far >>= _) = _
        rw [bind_ok a7]
        show (appL ts (T3.mk (tieOf p q c).a (tieOf p q c).b c) >>= _) = _
        rw [bind_ok (appL_ok hlt)]
        show (Except.ok ((dk d7), ts ++ [T3.mk (tieOf p q c).a (tieOf p q c).b c]) : M _) = _
        rw [et]
      · have e5 : o.take ((pre ++ [y]).length + 1) = o.take (pre.length + 1) ++ [p] := by
          rw [List.length_append]
          show o.take (pre.length + 1 + 1) = _
          rw [List.take_succ]
          have e6 : y.toNat = pre.length + 1 := by omega
          rw [e6] at b5
          rw [b5]
          rfl
        rw [e5]
        exact Grown.more q p c hg hq hp
      · rcases List.mem_append.mp hx with hx | hx
        · exact hc x hx
        · rw [List.mem_singleton.mp hx, hcc]
          exact b7
  obtain ⟨ds, ts⟩ := st
  obtain ⟨⟨d8, hd⟩, hg, hc⟩ := h4
  have hd : ds = (dk d8) := hd
  subst hd
  have hg : Grown (o.take ((rangeL 1 (1 + r)).length + 1)) ts := hg
  have hc : ∀ x ∈ ts, -far ≤ x.c ∧ x.c ≤ far := hc
  rw [rangeL_length] at hg
  have e5 : o.take ((1 + r - 1).toNat + 1) = o := List.take_of_length_le (by omega)
  rw [e5] at hg
  show ∃ t d', (loopN _ (rangeL 1 (1 + r)) ((dk d3), []) >>= _) = _ ∧ _
  rw [bind_ok e4, chk_b (show okR (1 + r) from ⟨by omega, by omega⟩)]
  obtain ⟨ws, d9, e6, w1, w2⟩ := nums_ok far f0 f1 (items := rangeL 0 (1 + r)) (by rw [rangeL_length]; omega) d8
  show ∃ t d', (compS _ (rangeL 0 (1 + r)) (dk d8) >>= _) = _ ∧ _
  rw [bind_ok e6]
  rw [rangeL_length] at w1
  have hlen : ((1 + r).toNat : Int) = 1 + r := by omega
  refine ⟨(ws, sortT ts), d9, rfl, ⟨⟨o, ts, hg, ?_, rfl⟩⟩, ?_, w2, fun x hx => hc x (sortT_mem.mp hx)⟩
  · show o.Perm (rangeL 0 (ws.length : Int))
    have : (ws.length : Int) = 1 + r := by omega
    rw [this]
    exact po
  · show (ws.length : Int) ≤ most
    omega

theorem rangeL_len0 (n : Nat) : (rangeL 0 (n : Int)).length = n := by rw [rangeL_length]; omega

theorem cut10 (ns : List Int) (k : Nat) : (cutL ns none (some (k : Int))).length ≤ ns.length := by
  unfold cutL
  rw [List.length_take, List.length_drop]
  omega
theorem at4 (k : Int) (h : 0 ≤ k) (h4 : k < 4) : ∃ x, L2.atI [(10 : Int), 10, 10, 40] k = some x ∧ (x = 10 ∨ x = 40) := by
  obtain ⟨x, e1, e2⟩ := atI_some (xs := [(10 : Int), 10, 10, 40]) h (by simpa using h4)
  refine ⟨x, e1, ?_⟩
  have hm := List.mem_of_getElem? e2
  simp only [List.mem_cons, List.not_mem_nil, or_false] at hm
  omega

theorem dPut_new {κ β : Type} [DecidableEq κ] {xs : List (κ × β)} {k : κ} {y : β} (h : ∀ p ∈ xs, p.1 ≠ k) : dPut xs k y = xs ++ [(k, y)] := by
  unfold dPut
  rw [if_neg]
  intro z
  obtain ⟨p, hp, e⟩ := List.any_eq_true.mp z
  exact h p hp (of_decide_eq_true e)

theorem far_ok (d : D2) : ∃ f d', m_law_far (dk d) = .ok (f, (dk d')) ∧ 0 ≤ f ∧ f ≤ farB := by
  obtain ⟨k, d', e, k0, k3⟩ := take_small d 3 (by decide) (by decide)
  obtain ⟨x, e1, e2⟩ := atI_some (xs := [(4 : Int), 1000, farB]) (j := k) k0 (by simpa using k3)
  refine ⟨x, d', ?_, ?_⟩
  · unfold m_law_far
    rw [bind_ok e]
    show (opt (atI [(4 : Int), 1000, (10 : Int) ^ Int.toNat 29] k) >>= _) = _
    rw [show (10 : Int) ^ Int.toNat 29 = farB by decide, opt_b e1]
  · have hm := List.mem_of_getElem? e2
    simp only [List.mem_cons, List.not_mem_nil, or_false] at hm
    unfold farB at *
    omega

/-! ### what stays true while a loop goes on that comes to its end -/
theorem b_inv {a b : Type} {m : M a} {k : a → M b} {y : b} (h : (m >>= k) = .ok y) : ∃ x, m = .ok x ∧ k x = .ok y := by
  cases m with
  | ok x => exact ⟨x, rfl, h⟩
  | error e => exact nomatch h
theorem o_inv {a b : Type} {o : Option a} {k : a → M b} {y : b} (h : (opt o >>= k) = .ok y) : ∃ x, o = some x ∧ k x = .ok y := by
  obtain ⟨x, h1, h2⟩ := b_inv h
  cases o with
  | some z => exact ⟨z, rfl, by cases h1; exact h2⟩
  | none => exact nomatch h1
theorem c_inv {b : Type} {c : Prop} [Decidable c] {k : Unit → M b} {y : b} (h : (chk c >>= k) = .ok y) : c ∧ k () = .ok y := by
  by_cases z : c
  · rw [chk_b z] at h; exact ⟨z, h⟩
  · unfold chk at h
    rw [if_neg z] at h
    exact nomatch h
theorem a_inv {a b : Type} {xs : List a} {y : a} {k : List a → M b} {z : b} (h : (appL xs y >>= k) = .ok z) : k (xs ++ [y]) = .ok z := by
  unfold appL at h
  by_cases c : xs.length < 16777216
  · rw [if_pos c] at h; exact h
  · rw [if_neg c] at h; exact nomatch h
theorem loopN_keep {i s : Type} {f : i → s → M s} (P : s → Prop) : ∀ {xs : List i} {x x' : s}, (∀ y ∈ xs, ∀ x x', P x → f y x = .ok x' → P x') → P x → loopN f xs x = .ok x' → P x'
  | [], x, x', _, h, e => by cases e; exact h
  | y :: ys, x, x', hs, h, e => by
    have e : (f y x >>= fun x1 => loopN f ys x1) = .ok x' := e
    obtain ⟨x1, e1, e2⟩ := b_inv e
    exact loopN_keep P (fun z hz => hs z (List.mem_cons_of_mem _ hz)) (hs y List.mem_cons_self x x1 h e1) e2
theorem whL_keep {s r : Type} {b : s → M (Ws s r)} (P Q : s → Prop) (hg : ∀ x x', P x → b x = .ok (.go x') → P x') (hs : ∀ x x', P x → b x = .ok (.stop x') → Q x') : ∀ (n : Nat) (x x' : s), P x → whL b n x = .ok (.nx x') → Q x'
  | 0, _, _, _, e => nomatch e
  | n + 1, x, x', h, e => by
    have e : (b x >>= fun w => match w with
      | .go x' => whL b n x'
      | .stop x' => .ok (.nx x')
      | .rt z => .ok (.rt z)) = .ok (.nx x') := e
    obtain ⟨w, e1, e2⟩ := b_inv e
    cases w with
    | go x1 => exact whL_keep P Q hg hs n x1 x' (hg x x1 h e1) e2
    | stop x1 =>
      have e2 : Except.ok (Fl.nx x1 : Fl s r) = (Except.ok (.nx x') : M (Fl s r)) := e2
      injection e2 with e2
      injection e2 with e2
      rw [← e2]
      exact hs x x1 h e1
    | rt z => exact nomatch e2

/-! ### neighbours -/
def other (p : Int) (t : Tie) : Option Int := if t.a = p then some t.b else if t.b = p then some t.a else none
/-- the neighbours of a place, rising -/
def nearOf (ties : List Tie) (p : Int) : List Int := sortT (ties.filterMap (other p))
def nearAll (n : Nat) (ties : List Tie) : List (List Int) := (List.range n).map fun (i : Nat) => nearOf ties (i : Int)
theorem addAt_ok {fs : List (List Int)} {x y : Int} {l : List Int} (h0 : 0 ≤ x) (h : fs[x.toNat]? = some l) (hl : l.length < 16777216) : addAt fs x y = .ok (fs.set x.toNat (l ++ [y])) := by
  have h1 := (List.getElem?_eq_some_iff.mp h).1
  unfold addAt
  rw [ixN_nat h0 (by omega)]
  show (match fs[x.toNat]? with
    | some x_1 => appL x_1 y >>= fun y => .ok (fs.set x.toNat y)
    | none => bad) = _
  rw [h]
  show (appL l y >>= fun y => (.ok (fs.set x.toNat y) : M _)) = _
  rw [bind_ok (appL_ok hl)]
theorem tied_places_ok (n : Int) (ties : List Tie) (h0 : 0 ≤ n) (h1 : n ≤ 1000000) (hl : ties.length < 16777216) (hv : ∀ t ∈ ties, 0 ≤ t.a ∧ t.a < t.b ∧ t.b < n) : m_tied_places n ties = .ok (nearAll n.toNat ties) := by
  unfold m_tied_places
  rw [chk_b (show okR n from ⟨by omega, h1⟩)]
  obtain ⟨fs, e, h⟩ := loopN_run (f := fun (t : T3 Int Int Int) (fs : List (List Int)) => addAt fs t.a t.b >>= fun f1 => addAt f1 t.b t.a) (all := sortT ties) (x := List.replicate n.toNat [])
    (fun pre fs => fs = (List.range n.toNat).map fun (i : Nat) => pre.filterMap (other (i : Int))) (by
      refine List.ext_getElem? fun i => ?_
      rw [List.getElem?_replicate, List.getElem?_map]
      by_cases hi : i < n.toNat
      · rw [if_pos hi, List.getElem?_range hi]; rfl
      · rw [if_neg hi, List.getElem?_eq_none (by simpa using hi)]; rfl) fun pre t post fs ea hf => by
      subst hf
      have mt : t ∈ ties := sortT_mem.mp (by rw [ea]; simp)
      obtain ⟨a0, ab, bn⟩ := hv t mt
      have plen : pre.length < 16777216 := by
        have := congrArg List.length ea
        rw [sortT_len, List.length_append, List.length_cons] at this
        omega
      have g1 : ((List.range n.toNat).map fun (i : Nat) => pre.filterMap (other (i : Int)))[t.a.toNat]? = some (pre.filterMap (other t.a)) := by
        rw [List.getElem?_map, List.getElem?_range (by omega)]
        show some (pre.filterMap (other ((t.a.toNat : Nat) : Int))) = _
        rw [Int.toNat_of_nonneg a0]
      have l1 : (pre.filterMap (other t.a)).length < 16777216 := Nat.lt_of_le_of_lt (List.length_filterMap_le _ _) plen
      have g2 : (((List.range n.toNat).map fun (i : Nat) => pre.filterMap (other (i : Int))).set t.a.toNat (pre.filterMap (other t.a) ++ [t.b]))[t.b.toNat]? = some (pre.filterMap (other t.b)) := by
        rw [List.getElem?_set_ne (by omega), List.getElem?_map, List.getElem?_range (by omega)]
        show some (pre.filterMap (other ((t.b.toNat : Nat) : Int))) = _
        rw [Int.toNat_of_nonneg (by omega)]
      have l2 : (pre.filterMap (other t.b)).length < 16777216 := Nat.lt_of_le_of_lt (List.length_filterMap_le _ _) plen
      refine ⟨_, by rw [bind_ok (addAt_ok a0 g1 l1)]; exact addAt_ok (by omega) g2 l2, ?_⟩
      refine List.ext_getElem? fun i => ?_
      rw [List.getElem?_map]
      by_cases hi : i < n.toNat
      · rw [List.getElem?_range hi]
        show _ = some ((pre ++ [t]).filterMap (other (i : Int)))
        rw [List.filterMap_append]
        by_cases hb : t.b.toNat = i
        · subst hb
          rw [List.getElem?_set_self (by simpa using hi)]
          have e1 : other ((t.b.toNat : Nat) : Int) t = some t.a := by
            unfold other
            rw [if_neg (by omega), if_pos (by omega)]
          have e2 : ((t.b.toNat : Nat) : Int) = t.b := Int.toNat_of_nonneg (by omega)
          rw [List.filterMap_cons, e1, List.filterMap_nil, e2]
        · rw [List.getElem?_set_ne hb]
          by_cases ha : t.a.toNat = i
          · subst ha
            rw [List.getElem?_set_self (by simpa using hi)]
            have e1 : other ((t.a.toNat : Nat) : Int) t = some t.b := by
              unfold other
              rw [if_pos (by omega)]
            have e2 : ((t.a.toNat : Nat) : Int) = t.a := Int.toNat_of_nonneg a0
            rw [List.filterMap_cons, e1, List.filterMap_nil, e2]
          · rw [List.getElem?_set_ne ha, List.getElem?_map, List.getElem?_range hi]
            have e1 : other (i : Int) t = none := by
              unfold other
              rw [if_neg (by omega), if_neg (by omega)]
            rw [List.filterMap_cons, e1, List.filterMap_nil, List.append_nil]
            rfl
      · have z : (List.range n.toNat)[i]? = none := List.getElem?_eq_none (by simpa using hi)
        rw [z]
        show _ = none
        refine List.getElem?_eq_none ?_
        rw [List.length_set, List.length_set, List.length_map, List.length_range]
        omega
  rw [bind_ok e, h]
  refine congrArg Except.ok ?_
  unfold nearAll
  rw [List.map_map]
  refine List.map_congr_left fun i _ => ?_
  show sortT ((sortT ties).filterMap (other (i : Int))) = nearOf ties (i : Int)
  exact sortT_eq ((sortT_perm ties).filterMap _)
theorem nearAll_at {n : Nat} {ties : List Tie} {p : Int} (h0 : 0 ≤ p) (h : p < n) : L2.atI (nearAll n ties) p = some (nearOf ties p) := by
  refine atI_of h0 ?_
  unfold nearAll
  rw [List.getElem?_map, List.getElem?_range (by omega)]
  show some (nearOf ties ((p.toNat : Nat) : Int)) = _
  rw [Int.toNat_of_nonneg h0]

theorem whL_run {s r : Type} {b : s → M (Ws s r)} (P : s → Prop) (μ : s → Nat) (Qf : s → Prop) (step : ∀ x, P x → (∃ x', b x = .ok (.go x') ∧ P x' ∧ μ x' < μ x) ∨ (∃ x', b x = .ok (.stop x') ∧ Qf x')) : ∀ (n : Nat) (x : s), P x → μ x < n → ∃ x', whL b n x = .ok (.nx x') ∧ Qf x'
  | 0, x, _, h => absurd h (Nat.not_lt_zero _)
  | n + 1, x, p, h => by
    rcases step x p with ⟨x', e, p', l⟩ | ⟨x', e, q⟩
    · obtain ⟨x2, e2, q2⟩ := whL_run P μ Qf step n x' p' (by omega)
      refine ⟨x2, ?_, q2⟩
      show (b x >>= _) = _
      rw [bind_ok e]
      exact e2
    · refine ⟨x', ?_, q⟩
      show (b x >>= _) = _
      rw [bind_ok e]
theorem nd_sub_len {a : Type} [DecidableEq a] : ∀ {l m : List a}, l.Nodup → (∀ x ∈ l, x ∈ m) → l.length ≤ m.length
  | [], _, _, _ => Nat.zero_le _
  | x :: l, m, nd, h => by
    have hx := h x List.mem_cons_self
    obtain ⟨n1, n2⟩ := List.nodup_cons.mp nd
    have := nd_sub_len (l := l) (m := m.erase x) n2 fun y hy => (List.mem_erase_of_ne fun e => n1 (by rw [← e]; exact hy)).mpr (h y (List.mem_cons_of_mem _ hy))
    rw [List.length_erase_of_mem hx] at this
    have hp := List.length_pos_of_mem hx
    rw [List.length_cons]
    omega
theorem nearOf_mem {ts : List Tie} {x y : Int} (h : ∀ t ∈ ts, t.a < t.b) : y ∈ nearOf ts x ↔ ∃ t ∈ ts, (t.a = x ∧ t.b = y) ∨ (t.b = x ∧ t.a = y) := by
  unfold nearOf
  rw [sortT_mem, List.mem_filterMap]
  constructor
  · rintro ⟨t, ht, e⟩
    unfold other at e
    by_cases ha : t.a = x
    · rw [if_pos ha] at e
      exact ⟨t, ht, .inl ⟨ha, Option.some.inj e⟩⟩
    · rw [if_neg ha] at e
      by_cases hb : t.b = x
      · rw [if_pos hb] at e
        exact ⟨t, ht, .inr ⟨hb, Option.some.inj e⟩⟩
      · rw [if_neg hb] at e; cases e
  · rintro ⟨t, ht, ⟨ha, hb⟩ | ⟨hb, ha⟩⟩
    · refine ⟨t, ht, ?_⟩
      unfold other
      rw [if_pos ha, hb]
    · refine ⟨t, ht, ?_⟩
      have := h t ht
      unfold other
      rw [if_neg (by omega), if_pos hb, ha]
/-- what holds of one place and goes over ties holds of all -/
theorem grown_all {ps : List Int} {ts : List Tie} (g : Grown ps ts) (S : Int → Prop) (hS : ∀ t ∈ ts, S t.a ↔ S t.b) : (∃ x ∈ ps, S x) → ∀ x ∈ ps, S x := by
  induction g with
  | one p =>
    rintro ⟨x, hx, h⟩ y hy
    rw [List.mem_singleton.mp hx] at h
    rw [List.mem_singleton.mp hy]
    exact h
  | @more ps ts q p c g hq hp ih =>
    have ih := ih fun t ht => hS t (List.mem_append_left _ ht)
    have hpq : p ≠ q := fun z => hp (z ▸ hq)
    have hl := hS (tieOf p q c) (by simp)
    obtain ⟨_, h2, _⟩ := tieOf_lt (c := c) hpq
    have hpq2 : S p ↔ S q := by
      rcases h2 with ⟨a, b⟩ | ⟨a, b⟩
      · rw [a, b] at hl; exact hl
      · rw [a, b] at hl; exact hl.symm
    rintro ⟨x, hx, h⟩
    have hall : ∀ y ∈ ps, S y := by
      rcases List.mem_append.mp hx with hx | hx
      · exact ih ⟨x, hx, h⟩
      · rw [List.mem_singleton.mp hx] at h
        exact ih ⟨q, hq, hpq2.mp h⟩
    intro y hy
    rcases List.mem_append.mp hy with hy | hy
    · exact hall y hy
    · rw [List.mem_singleton.mp hy]
      exact hpq2.mpr (hall q hq)
theorem tree_all {t : Tr} (ht : TreeOk t) (S : Int → Prop) (hS : ∀ x ∈ t.2, S x.a ↔ S x.b) (x : Int) (x0 : 0 ≤ x) (x1 : x < (t.1.length : Int)) (h : S x) : ∀ y, 0 ≤ y → y < (t.1.length : Int) → S y := by
  obtain ⟨ps, ts, g, p, e⟩ := ht.ex
  rw [e] at hS
  intro y y0 y1
  exact grown_all g S (fun t ht => hS t (sortT_mem.mpr ht)) ⟨x, p.mem_iff.mpr (rangeL_mem.mpr ⟨x0, x1⟩), h⟩ y (p.mem_iff.mpr (rangeL_mem.mpr ⟨y0, y1⟩))
theorem nearAll_len (n : Nat) (ts : List Tie) : (nearAll n ts).length = n := by unfold nearAll; simp

theorem come_to_ok (near : List (List Int)) (hn : near.length ≤ 100000) (hv : ∀ l ∈ near, ∀ y ∈ l, 0 ≤ y ∧ y < near.length) (hl : ∀ l ∈ near, l.length < 16777216) (p : Int) (p0 : 0 ≤ p) (p1 : p < near.length) :
    ∃ f, m_come_to near p = .ok f ∧ f.Nodup ∧ p ∈ f ∧ (∀ x ∈ f, 0 ≤ x ∧ x < near.length) ∧ ∀ x ∈ f, ∀ l, near[x.toNat]? = some l → ∀ y ∈ l, y ∈ f := by
  have small : ∀ f : List Int, f.Nodup → (∀ x ∈ f, 0 ≤ x ∧ x < near.length) → f.length ≤ near.length := fun f nd hf => by
    have := nd_sub_len (m := rangeL 0 (near.length : Int)) nd fun x hx => rangeL_mem.mpr (hf x hx)
    rw [rangeL_len0] at this
    exact this
  obtain ⟨st, e, q1, q2, q3, q4⟩ := whL_run (r := Unit) (b := fun (st17 : Int × (List Int)) =>
    if st17.1 < (st17.2.length : Int) then (
    opt (atI st17.2 st17.1) >>= fun y25 =>
    opt (atI near y25) >>= fun y35 =>
    loopN (fun (y45 : Int) (st56 : (List Int)) =>
    if y45 ∉ st56 then (
    appL st56 y45 >>= fun _ =>
    .ok (st56 ++ [y45]))
    else (
    .ok st56)) y35 st17.2 >>= fun st72 =>
    .ok (.go ((st17.1 + (1 : Int)), st72)))
    else (
    .ok (.stop (st17.1, st17.2))))
    (fun st => st.2.Nodup ∧ p ∈ st.2 ∧ (∀ x ∈ st.2, 0 ≤ x ∧ x < near.length) ∧ 0 ≤ st.1 ∧ st.1 ≤ st.2.length ∧ ∀ (i : Nat) x, (i : Int) < st.1 → st.2[i]? = some x → ∀ l, near[x.toNat]? = some l → ∀ y ∈ l, y ∈ st.2)
    (fun st => near.length + 1 - st.1.toNat)
    (fun st => st.2.Nodup ∧ p ∈ st.2 ∧ (∀ x ∈ st.2, 0 ≤ x ∧ x < near.length) ∧ ∀ x ∈ st.2, ∀ l, near[x.toNat]? = some l → ∀ y ∈ l, y ∈ st.2)
    (fun ⟨at_, fs⟩ ⟨h1, h2, h3, h4, h5, h6⟩ => by
      have h1 : fs.Nodup := h1
      have h2 : p ∈ fs := h2
      have h3 : ∀ x ∈ fs, 0 ≤ x ∧ x < near.length := h3
      have h4 : 0 ≤ at_ := h4
      have h5 : at_ ≤ fs.length := h5
      have h6 : ∀ (i : Nat) x, (i : Int) < at_ → fs[i]? = some x → ∀ l, near[x.toNat]? = some l → ∀ y ∈ l, y ∈ fs := h6
      show (∃ x', (if at_ < (fs.length : Int) then _ else _) = _ ∧ _) ∨ (∃ x', (if at_ < (fs.length : Int) then _ else _) = _ ∧ _)
      by_cases hlt : at_ < (fs.length : Int)
      · refine .inl ?_
        rw [if_pos hlt]
        obtain ⟨x, a1, b1⟩ := atI_some (xs := fs) (j := at_) h4 hlt
        have hx := h3 x (List.mem_of_getElem? b1)
        obtain ⟨l, a2, b2⟩ := atI_some (xs := near) (j := x) hx.1 hx.2
        have hlm := List.mem_of_getElem? b2
        obtain ⟨f2, e2, c1, c2, c3, c4⟩ := loopN_run (f := fun (y45 : Int) (st56 : (List Int)) =>
          if y45 ∉ st56 then (
          appL st56 y45 >>= fun _ =>
          (.ok (st56 ++ [y45]) : M _))
          else (
          .ok st56)) (all := l) (x := fs) (fun pre st => st.Nodup ∧ (∀ x ∈ st, 0 ≤ x ∧ x < near.length) ∧ (∃ ex, st = fs ++ ex) ∧ ∀ y ∈ pre, y ∈ st) ⟨h1, h3, ⟨[], by simp⟩, fun _ h => nomatch h⟩
          (fun pre y post st ea ⟨g1, g2, ⟨ex, g3⟩, g4⟩ => by
            have hy := hv l hlm y (by rw [ea]; simp)
            by_cases hm : y ∉ st
            · refine ⟨st ++ [y], ?_, ?_, fun z hz => ?_, ⟨ex ++ [y], by rw [g3]; simp⟩, fun z hz => ?_⟩
              · rw [if_pos hm, bind_ok (appL_ok (by have := small st g1 g2; omega))]
              · exact List.nodup_append.mpr ⟨g1, by simp, fun a ha b hb e => by rw [List.mem_singleton.mp hb] at e; exact hm (e ▸ ha)⟩
              · rcases List.mem_append.mp hz with hz | hz
                · exact g2 z hz
                · rw [List.mem_singleton.mp hz]; exact hy
              · rcases List.mem_append.mp hz with hz | hz
                · exact List.mem_append_left _ (g4 z hz)
                · exact List.mem_append_right _ hz
            · refine ⟨st, by rw [if_neg hm], g1, g2, ⟨ex, g3⟩, fun z hz => ?_⟩
              rcases List.mem_append.mp hz with hz | hz
              · exact g4 z hz
              · rw [List.mem_singleton.mp hz]
                exact Classical.not_not.mp hm)
        obtain ⟨ex, c3⟩ := c3
        refine ⟨(at_ + 1, f2), ?_, ⟨c1, ?_, c2, ?_, ?_, fun i y hi hy l' hl' z hz => ?_⟩, ?_⟩
        · rw [opt_b a1, opt_b a2, bind_ok e2]
        · show p ∈ f2
          rw [c3]; exact List.mem_append_left _ h2
        · show 0 ≤ at_ + 1
          omega
        · show at_ + 1 ≤ (f2.length : Int)
          rw [c3, List.length_append]
          omega
        · have hi : (i : Int) < at_ + 1 := hi
          have hy : f2[i]? = some y := hy
          show z ∈ f2
          have hil : i < fs.length := by omega
          have hy' : fs[i]? = some y := by
            rw [c3, List.getElem?_append_left hil] at hy
            exact hy
          by_cases hia : (i : Int) < at_
          · rw [c3]; exact List.mem_append_left _ (h6 i y hia hy' l' hl' z hz)
          · have hie : i = at_.toNat := by omega
            rw [hie, b1] at hy'
            rw [← Option.some.inj hy', b2] at hl'
            rw [← Option.some.inj hl'] at hz
            exact c4 z hz
        · show near.length + 1 - (at_ + 1).toNat < near.length + 1 - at_.toNat
          have := small fs h1 h3
          omega
      · refine .inr ?_
        rw [if_neg hlt]
        refine ⟨(at_, fs), rfl, h1, h2, h3, fun x hx l hl' y hy => ?_⟩
        have hx : x ∈ fs := hx
        obtain ⟨i, hi⟩ := List.mem_iff_getElem?.mp hx
        have hil := (List.getElem?_eq_some_iff.mp hi).1
        exact h6 i x (by omega) hi l hl' y hy)
    1000000 (0, [p]) ⟨by simp, by simp, fun x hx => by
      have hx : x ∈ [p] := hx
      rw [List.mem_singleton.mp hx]; exact ⟨p0, p1⟩, by simp, by simp, fun i x hi => by
      have hi : (i : Int) < 0 := hi
      omega⟩ (by show near.length + 1 - 0 < 1000000; omega)
  refine ⟨st.2, ?_, q1, q2, q3, q4⟩
  unfold m_come_to
  rw [bind_ok e]

/-! ### what is come to is come to by ties -/
theorem come_to_min {near : List (List Int)} {p : Int} {f : List Int} (h : m_come_to near p = .ok f) (S : Int → Prop) (hp : S p) (hS : ∀ x l, S x → L2.atI near x = some l → ∀ y ∈ l, S y) : ∀ x ∈ f, S x := by
  unfold m_come_to at h
  obtain ⟨w, h1, h2⟩ := b_inv h
  cases w with
  | rt z => exact nomatch h2
  | nx st =>
    cases h2
    refine whL_keep (fun st : Int × List Int => ∀ x ∈ st.2, S x) (fun st => ∀ x ∈ st.2, S x) ?_ ?_ _ _ _ (fun x hx => by rw [List.mem_singleton.mp hx]; exact hp) h1
    · intro st st' hP e
      by_cases c : st.1 < (st.2.length : Int)
      · rw [if_pos c] at e
        obtain ⟨y, e1, e⟩ := o_inv e
        obtain ⟨l, e2, e⟩ := o_inv e
        obtain ⟨st1, e3, e⟩ := b_inv e
        cases e
        have hy : S y := by
          unfold L2.atI at e1
          cases q : ixN st.2.length st.1 with
          | none => rw [q] at e1; exact nomatch e1
          | some j =>
            rw [q] at e1
            exact hP y (List.mem_of_getElem? (show st.2[j]? = some y from e1))
        have hl := hS y l hy e2
        refine loopN_keep (fun s : List Int => ∀ x ∈ s, S x) (fun z hz s s' hs e => ?_) hP e3
        by_cases c2 : z ∉ s
        · rw [if_pos c2] at e
          have e := a_inv e
          cases e
          intro x hx
          rcases List.mem_append.mp hx with hx | hx
          · exact hs x hx
          · rw [List.mem_singleton.mp hx]; exact hl z hz
        · rw [if_neg c2] at e
          cases e
          exact hs
      · rw [if_neg c] at e
        exact nomatch e
    · intro st st' hP e
      by_cases c : st.1 < (st.2.length : Int)
      · rw [if_pos c] at e
        obtain ⟨y, e1, e⟩ := o_inv e
        obtain ⟨l, e2, e⟩ := o_inv e
        obtain ⟨st1, e3, e⟩ := b_inv e
        exact nomatch e
      · rw [if_neg c] at e
        cases e
        exact hP
/-! ### the law's own look, round by round -/
def addE (st : List Int) (x y : Int) : List Int := if x ∈ st then (if y ∉ st then st ++ [y] else st) else st
structure Lk (n : Nat) (ts : List Tie) (st : List Int) : Prop where
  nd : st.Nodup
  rg : ∀ x ∈ st, 0 ≤ x ∧ x < (n : Int)
  z : (0 : Int) ∈ st
  mn : ∀ S : Int → Prop, S 0 → (∀ t ∈ ts, S t.a ↔ S t.b) → ∀ x ∈ st, S x
def Cl (ts : List Tie) (st : List Int) : Prop := ∀ t ∈ ts, t.a ∈ st ↔ t.b ∈ st
section
variable {n : Nat} {ts : List Tie} {st : List Int}
theorem Lk.len (h : Lk n ts st) : st.length ≤ n := by
  have := nd_sub_len (m := rangeL 0 (n : Int)) h.nd fun x hx => rangeL_mem.mpr (h.rg x hx)
  rw [rangeL_length] at this
  omega
theorem Lk.add (h : Lk n ts st) {x y : Int} (hy : 0 ≤ y ∧ y < (n : Int)) (hS : ∀ S : Int → Prop, (∀ t ∈ ts, S t.a ↔ S t.b) → S x → S y) : Lk n ts (addE st x y) := by
  unfold addE
  by_cases c : x ∈ st
  · rw [if_pos c]
    by_cases c2 : y ∉ st
    · rw [if_pos c2]
      refine ⟨List.nodup_append.mpr ⟨h.nd, by simp, fun a ha b hb e => ?_⟩, fun a ha => ?_, List.mem_append_left _ h.z, fun S h0 hc a ha => ?_⟩
      · rw [List.mem_singleton.mp hb] at e
        exact c2 (e ▸ ha)
      · rcases List.mem_append.mp ha with ha | ha
        · exact h.rg a ha
        · rw [List.mem_singleton.mp ha]; exact hy
      · rcases List.mem_append.mp ha with ha | ha
        · exact h.mn S h0 hc a ha
        · rw [List.mem_singleton.mp ha]; exact hS S hc (h.mn S h0 hc x c)
    · rw [if_neg c2]; exact h
  · rw [if_neg c]; exact h
theorem add_len (x y : Int) : st.length ≤ (addE st x y).length ∧ ((addE st x y).length = st.length → addE st x y = st ∧ (x ∈ st → y ∈ st)) := by
  unfold addE
  by_cases c : x ∈ st
  · rw [if_pos c]
    by_cases c2 : y ∉ st
    · rw [if_pos c2, List.length_append, List.length_singleton]
      exact ⟨by omega, fun e => by omega⟩
    · rw [if_neg c2]
      exact ⟨Nat.le_refl _, fun _ => ⟨rfl, fun _ => Classical.not_not.mp c2⟩⟩
  · rw [if_neg c]
    exact ⟨Nat.le_refl _, fun _ => ⟨rfl, fun h => (c h).elim⟩⟩
end
theorem pair_ok {st : List Int} (a b : Int) (hl : st.length + 1 < 16777216) : loopN (fun (y193 : (Int × Int)) (st204 : (List Int)) =>
    if y193.1 ∈ st204 then (
    if y193.2 ∉ st204 then (
    appL st204 y193.2 >>= fun _ =>
    .ok (st204 ++ [y193.2]))
    else (
    .ok st204))
    else (
    (.ok st204 : M _))) ([(a, b), (b, a)]) st = .ok (addE (addE st a b) b a) := by
  have one : ∀ (s : List Int) (x y : Int), s.length < 16777216 → (if x ∈ s then (if y ∉ s then (appL s y >>= fun _ => .ok (s ++ [y])) else .ok s) else (.ok s : M _)) = .ok (addE s x y) := fun s x y h => by
    unfold addE
    by_cases c : x ∈ s
    · rw [if_pos c, if_pos c]
      by_cases c2 : y ∉ s
      · rw [if_pos c2, if_pos c2, bind_ok (appL_ok h)]
      · rw [if_neg c2, if_neg c2]
    · rw [if_neg c, if_neg c]
  have l2 : (addE st a b).length ≤ st.length + 1 := by
    unfold addE
    split
    · split
      · rw [List.length_append, List.length_singleton]; omega
      · omega
    · omega
  show ((if a ∈ st then _ else _) >>= _) = _
  rw [bind_ok (one st a b (by omega))]
  show ((if b ∈ addE st a b then _ else _) >>= _) = _
  rw [bind_ok (one (addE st a b) b a (by omega))]
  rfl
theorem round_ok {n : Nat} {ts : List Tie} (hn : n ≤ 1000) (hv : ∀ t ∈ ts, 0 ≤ t.a ∧ t.a < t.b ∧ t.b < (n : Int)) {st : List Int} (h : Lk n ts st) : ∃ st', loopN (fun (y134 : (T3 Int Int Int)) (st145 : (List Int)) =>
    loopN (fun (y193 : (Int × Int)) (st204 : (List Int)) =>
    if y193.1 ∈ st204 then (
    if y193.2 ∉ st204 then (
    appL st204 y193.2 >>= fun _ =>
    .ok (st204 ++ [y193.2]))
    else (
    .ok st204))
    else (
    .ok st204)) ([(y134.a, y134.b), (y134.b, y134.a)]) st145 >>= fun st229 =>
    (.ok st229 : M _)) ts st = .ok st' ∧ Lk n ts st' ∧ st.length ≤ st'.length ∧ (st'.length = st.length → Cl ts st') := by
  obtain ⟨st', e, h1, h2, h3⟩ := loopN_run (f := fun (y134 : (T3 Int Int Int)) (st145 : (List Int)) =>
    loopN (fun (y193 : (Int × Int)) (st204 : (List Int)) =>
    if y193.1 ∈ st204 then (
    if y193.2 ∉ st204 then (
    appL st204 y193.2 >>= fun _ =>
    .ok (st204 ++ [y193.2]))
    else (
    .ok st204))
    else (
    .ok st204)) ([(y134.a, y134.b), (y134.b, y134.a)]) st145 >>= fun st229 =>
    (.ok st229 : M _)) (all := ts) (x := st) (fun pre s => Lk n ts s ∧ st.length ≤ s.length ∧ (s.length = st.length → s = st ∧ ∀ t ∈ pre, t.a ∈ s ↔ t.b ∈ s)) ⟨h, Nat.le_refl _, fun _ => ⟨rfl, fun _ z => nomatch z⟩⟩ fun pre t post s ea ⟨g1, g2, g3⟩ => by
      have htm : t ∈ ts := by rw [ea]; simp
      have hr := hv t htm
      have hl := g1.len
      have k1 := g1.add (x := t.a) (y := t.b) (by omega) fun S hc hx => (hc t htm).mp hx
      have k2 := k1.add (x := t.b) (y := t.a) (by omega) fun S hc hx => (hc t htm).mpr hx
      obtain ⟨a1, a2⟩ := add_len (st := s) t.a t.b
      obtain ⟨b1, b2⟩ := add_len (st := addE s t.a t.b) t.b t.a
      refine ⟨_, by rw [bind_ok (pair_ok t.a t.b (by omega))], k2, by omega, fun e => ?_⟩
      obtain ⟨c1, c2⟩ := b2 (by omega)
      obtain ⟨d1, d2⟩ := a2 (by omega)
      rw [d1] at c1 c2 ⊢
      obtain ⟨u1, u2⟩ := g3 (by omega)
      rw [c1]
      refine ⟨u1, fun t' ht' => ?_⟩
      rcases List.mem_append.mp ht' with ht' | ht'
      · exact u2 t' ht'
      · rw [List.mem_singleton.mp ht']; exact ⟨d2, c2⟩
  exact ⟨st', e, h1, h2, fun z => (h3 z).2⟩
theorem look_ok {n : Nat} {ts : List Tie} (h1 : 1 ≤ n) (hn : n ≤ 1000) (hv : ∀ t ∈ ts, 0 ≤ t.a ∧ t.a < t.b ∧ t.b < (n : Int)) : ∃ st, loopN (fun (y106 : Int) (st118 : (List Int)) =>
    loopN (fun (y134 : (T3 Int Int Int)) (st145 : (List Int)) =>
    loopN (fun (y193 : (Int × Int)) (st204 : (List Int)) =>
    if y193.1 ∈ st204 then (
    if y193.2 ∉ st204 then (
    appL st204 y193.2 >>= fun _ =>
    .ok (st204 ++ [y193.2]))
    else (
    .ok st204))
    else (
    .ok st204)) ([(y134.a, y134.b), (y134.b, y134.a)]) st145 >>= fun st229 =>
    .ok st229) ts st118 >>= fun st240 =>
    (.ok st240 : M _)) (rangeL 0 (n : Int)) ([(0 : Int)]) = .ok st ∧ Lk n ts st ∧ Cl ts st := by
  obtain ⟨st, e, g1, g2⟩ := loopN_run (f := fun (y106 : Int) (st118 : (List Int)) =>
    loopN (fun (y134 : (T3 Int Int Int)) (st145 : (List Int)) =>
    loopN (fun (y193 : (Int × Int)) (st204 : (List Int)) =>
    if y193.1 ∈ st204 then (
    if y193.2 ∉ st204 then (
    appL st204 y193.2 >>= fun _ =>
    .ok (st204 ++ [y193.2]))
    else (
    .ok st204))
    else (
    .ok st204)) ([(y134.a, y134.b), (y134.b, y134.a)]) st145 >>= fun st229 =>
    .ok st229) ts st118 >>= fun st240 =>
    (.ok st240 : M _)) (all := rangeL 0 (n : Int)) (x := [(0 : Int)]) (fun pre s => Lk n ts s ∧ (Cl ts s ∨ pre.length + 1 ≤ s.length)) ⟨⟨by simp, fun x hx => by rw [List.mem_singleton.mp hx]; omega, by simp, fun S h0 _ x hx => by rw [List.mem_singleton.mp hx]; exact h0⟩, .inr (Nat.le_refl _)⟩ fun pre y post s ea ⟨g1, g2⟩ => by
      obtain ⟨s', e, k1, k2, k3⟩ := round_ok hn hv g1
      refine ⟨s', by rw [bind_ok e], k1, ?_⟩
      by_cases c : s'.length = s.length
      · exact .inl (k3 c)
      · rcases g2 with g2 | g2
        · have hsub := k1.mn (fun x => x ∈ s) g1.z g2
          have := nd_sub_len k1.nd hsub
          omega
        · exact .inr (by rw [List.length_append, List.length_singleton]; omega)
  refine ⟨st, e, g1, ?_⟩
  rcases g2 with g2 | g2
  · exact g2
  · rw [rangeL_length] at g2
    have := g1.len
    omega
/-! ### both look alike -/
def inR (n : Nat) (t : Tie) : Prop := 0 ≤ t.a ∧ t.a < t.b ∧ t.b < (n : Int)
instance (n : Nat) (t : Tie) : Decidable (inR n t) := by unfold inR; infer_instance
theorem both_ok (ws : List Int) (ts : List Tie) (hw : ws.length ≤ 1000) (htl : ts.length ≤ 1000) : ∃ b, m_law_is_tree ws ts = .ok b ∧ m_tree_of ws ts = if b = true then .ok (ws, sortT ts) else raise "NoTree" := by
  have pairs : (compS (fun (y11 : (T3 Int Int Int)) (st28 : Unit) => (.ok (some (y11.a, y11.b), ()) : M _)) ts ()) = .ok (ts.map fun t => (t.a, t.b), ()) := by
    rw [compS_pure (fun t => some (t.a, t.b)) (by omega) fun _ _ => rfl, List.filterMap_eq_map']
  have pl : (ts.map fun t => (t.a, t.b)).length = ts.length := List.length_map _
  unfold m_law_is_tree m_tree_of
  by_cases c0 : (ws.length : Int) = 0
  · rw [if_pos c0]
    refine ⟨false, rfl, ?_⟩
    rw [bind_ok pairs]
    show (if ((ts.map fun t => (t.a, t.b)).length : Int) ≠ _ then _ else _) = _
    rw [if_pos (by rw [pl]; omega)]
    rfl
  rw [if_neg c0]
  by_cases c1 : (ts.length : Int) = (ws.length : Int) - 1
  · rw [if_neg (fun z => z c1)]
    have test : ∃ bad : List (Int × Int), (bad = [] ↔ ∀ t ∈ ts, inR ws.length t) ∧ compS (fun (y18 : (T3 Int Int Int)) (st35 : Unit) =>
        if y18.a < (0 : Int) then (
        .ok (some (y18.a, y18.b), ()))
        else (
        if (ws.length : Int) ≤ y18.b then (
        .ok (some (y18.a, y18.b), ()))
        else (
        if y18.b ≤ y18.a then (
        .ok (some (y18.a, y18.b), ()))
        else (
        (.ok (none, ()) : M (Option (Int × Int) × Unit)))))) ts () = .ok (bad, ()) ∧ compS (fun (y78 : (Int × Int)) (st95 : Unit) =>
        if (0 : Int) ≤ y78.1 then (
        if y78.1 < y78.2 then (
        if y78.2 < (ws.length : Int) then (
        .ok (none, ()))
        else (
        .ok (some (y78.1, y78.2), ())))
        else (
        .ok (some (y78.1, y78.2), ())))
        else (
        (.ok (some (y78.1, y78.2), ()) : M (Option (Int × Int) × Unit)))) (ts.map fun t => (t.a, t.b)) () = .ok (bad, ()) := by
      refine ⟨ts.filterMap fun t => if inR ws.length t then none else some (t.a, t.b), ?_, ?_, ?_⟩
      · rw [List.filterMap_eq_nil_iff]
        constructor
        · intro h t ht
          have := h t ht
          by_cases c : inR ws.length t
          · exact c
          · rw [if_neg c] at this; exact nomatch this
        · intro h t ht
          exact if_pos (h t ht)
      · refine compS_pure _ (by omega) fun t ht => ?_
        have no : ¬ (0 ≤ t.a ∧ t.a < t.b ∧ t.b < (ws.length : Int)) → ¬ inR ws.length t := id
        by_cases a1 : t.a < 0
        · rw [if_pos a1, if_neg (no (by omega))]
        · rw [if_neg a1]
          by_cases a2 : (ws.length : Int) ≤ t.b
          · rw [if_pos a2, if_neg (no (by omega))]
          · rw [if_neg a2]
            by_cases a3 : t.b ≤ t.a
            · rw [if_pos a3, if_neg (no (by omega))]
            · rw [if_neg a3, if_pos (show inR ws.length t from ⟨by omega, by omega, by omega⟩)]
      · rw [compS_pure (fun (p : Int × Int) => if inR ws.length ⟨p.1, p.2, 0⟩ then none else some p) (by rw [pl]; omega) fun p hp => by
          have no : ¬ (0 ≤ p.1 ∧ p.1 < p.2 ∧ p.2 < (ws.length : Int)) → ¬ inR ws.length ⟨p.1, p.2, 0⟩ := id
          by_cases a1 : 0 ≤ p.1
          · rw [if_pos a1]
            by_cases a2 : p.1 < p.2
            · rw [if_pos a2]
              by_cases a3 : p.2 < (ws.length : Int)
              · rw [if_pos a3, if_pos (show inR ws.length ⟨p.1, p.2, 0⟩ from ⟨a1, a2, a3⟩)]
              · rw [if_neg a3, if_neg (no fun z => a3 z.2.2)]
            · rw [if_neg a2, if_neg (no fun z => a2 z.2.1)]
          · rw [if_neg a1, if_neg (no fun z => a1 z.1)]]
        rw [List.filterMap_map]
        rfl
    obtain ⟨bad, t1, t2, t3⟩ := test
    rw [bind_ok t2, bind_ok pairs]
    show ∃ b, _ ∧ (if ((ts.map fun t => (t.a, t.b)).length : Int) ≠ _ then _ else _) = _
    rw [if_neg (show ¬ ((ts.map fun t => (t.a, t.b)).length : Int) ≠ (ws.length : Int) - 1 by rw [pl]; omega), bind_ok t3]
    by_cases c2 : bad = []
    · have hv : ∀ t ∈ ts, 0 ≤ t.a ∧ t.a < t.b ∧ t.b < (ws.length : Int) := t1.mp c2
      show ∃ b, (if bad ≠ [] then _ else _) = _ ∧ (if bad ≠ [] then _ else _) = _
      rw [if_neg (fun z => z c2), if_neg (fun z => z c2)]
      obtain ⟨st, l1, l2, l3⟩ := look_ok (n := ws.length) (by omega) hw hv
      rw [chk_b (show okR (ws.length : Int) from ⟨by omega, by omega⟩), bind_ok l1]
      rw [bind_ok (tied_places_ok (ws.length : Int) ts (by omega) (by omega) (by omega) hv)]
      rw [show ((ws.length : Int)).toNat = ws.length from rfl]
      have nl := nearAll_len ws.length ts
      have nm : ∀ {x y : Int}, y ∈ nearOf ts x ↔ ∃ t ∈ ts, (t.a = x ∧ t.b = y) ∨ (t.b = x ∧ t.a = y) := fun {x y} => nearOf_mem fun t ht => (hv t ht).2.1
      have near_of : ∀ l ∈ nearAll ws.length ts, ∃ x : Int, l = nearOf ts x := fun l hl => by
        unfold nearAll at hl
        obtain ⟨i, _, e⟩ := List.mem_map.mp hl
        exact ⟨i, e.symm⟩
      obtain ⟨f, f1, f2, f3, f4, f5⟩ := come_to_ok (nearAll ws.length ts) (by omega) (fun l hl y hy => by
        obtain ⟨x, rfl⟩ := near_of l hl
        obtain ⟨t, ht, h⟩ := nm.mp hy
        have := hv t ht
        rw [nl]
        omega) (fun l hl => by
        obtain ⟨x, rfl⟩ := near_of l hl
        unfold nearOf
        rw [sortT_len]
        have := List.length_filterMap_le (other x) ts
        omega) 0 (Int.le_refl 0) (by rw [nl]; omega)
      have fn : ∀ x ∈ f, ∀ y ∈ nearOf ts x, y ∈ f := fun x hx y hy => by
        have hr := f4 x hx
        rw [nl] at hr
        have ha := nearAll_at (n := ws.length) (ties := ts) (p := x) hr.1 hr.2
        refine f5 x hx (nearOf ts x) ?_ y hy
        unfold nearAll
        rw [List.getElem?_map, List.getElem?_range (by omega)]
        show some (nearOf ts ((x.toNat : Nat) : Int)) = _
        rw [show ((x.toNat : Nat) : Int) = x by omega]
      have fc : Cl ts f := fun t ht => ⟨fun h => fn _ h _ (nm.mpr ⟨t, ht, .inl ⟨rfl, rfl⟩⟩), fun h => fn _ h _ (nm.mpr ⟨t, ht, .inr ⟨rfl, rfl⟩⟩)⟩
      have sub1 : ∀ x ∈ st, x ∈ f := l2.mn (fun x => x ∈ f) f3 fc
      have sub2 : ∀ x ∈ f, x ∈ st := come_to_min f1 (fun x => x ∈ st) l2.z fun x l hx hl y hy => by
        have hr := l2.rg x hx
        have ha := nearAll_at (n := ws.length) (ties := ts) (p := x) hr.1 hr.2
        rw [ha] at hl
        cases hl
        obtain ⟨t, ht, ⟨h1, h2⟩ | ⟨h1, h2⟩⟩ := nm.mp hy
        · rw [← h2]; rw [← h1] at hx; exact (l3 t ht).mp hx
        · rw [← h2]; rw [← h1] at hx; exact (l3 t ht).mpr hx
      have le1 := nd_sub_len l2.nd sub1
      have le2 := nd_sub_len f2 sub2
      have le3 := l2.len
      refine ⟨decide ((st.length : Int) = (ws.length : Int)), rfl, ?_⟩
      rw [bind_ok f1]
      by_cases c3 : (f.length : Int) < (ws.length : Int)
      · rw [if_pos c3, decide_eq_false (by omega), if_neg Bool.false_ne_true]
      · rw [if_neg c3, decide_eq_true (by omega), if_pos rfl]
    · show ∃ b, (if bad ≠ [] then _ else _) = _ ∧ (if bad ≠ [] then _ else _) = _
      rw [if_pos c2, if_pos c2]
      exact ⟨false, rfl, rfl⟩
  · rw [if_pos c1]
    refine ⟨false, rfl, ?_⟩
    rw [bind_ok pairs]
    show (if ((ts.map fun t => (t.a, t.b)).length : Int) ≠ _ then _ else _) = _
    rw [if_pos (by rw [pl]; omega)]
    rfl
theorem told_ok {ws : List Int} {ts : List Tie} {b : Bool} (h : m_tree_of ws ts = if b = true then .ok (ws, sortT ts) else raise "NoTree") : m_law_told ws ts = .ok (if b = true then Un.l (ws, sortT ts) else Un.r "NoTree") := by
  unfold m_law_told
  rw [h]
  cases b with
  | true => rfl
  | false => rfl
theorem dep_tree (p : List Int × List Tie) : dep (Un.l p : Un (List Int × List Tie) Str) ≤ 60 := by
  show (Py.toD p).depth ≤ 60
  rw [IsD.eq]
  exact Nat.le_trans (Datum.depth_le p) (by decide)
/-! ### what is drawn: any short lists -/
theorem cut_le {a : Type} (xs : List a) (lo hi : Option Int) : (cutL xs lo hi).length ≤ xs.length := by
  unfold cutL
  rw [List.length_take, List.length_drop]
  omega
theorem spoilt_ok (d : D2) {t : Tr} (ht : TreeOk t) (hn : t.1.length ≤ 100) : ∃ w ts d', m_law_spoilt (dk d) t = .ok ((w, ts), dk d') ∧ w.length ≤ 1000 ∧ ts.length ≤ 1000 := by
  have hlen := ht.len
  have hpos := ht.pos
  obtain ⟨k, d1, e1, k0, k1⟩ := take_small d 3 (by decide) (by decide)
  obtain ⟨big, a1, a2⟩ := atI_some (xs := [(1 : Int), 3, (10 : Int) ^ Int.toNat 20]) (j := k) k0 (by simpa using k1)
  have hbig : 0 < big ∧ big ≤ 10 ^ 40 := by
    have hm := List.mem_of_getElem? a2
    have e20 : (10 : Int) ^ Int.toNat 20 = 100000000000000000000 := by decide
    have e40 : (10 : Int) ^ 40 = 10000000000000000000000000000000000000000 := by decide
    rw [e20] at hm
    simp only [List.mem_cons, List.not_mem_nil, or_false] at hm
    omega
  obtain ⟨far, d2, e2, _, _⟩ := take_big d1 big hbig.1 hbig.2
  obtain ⟨way, d3, e3, _, _⟩ := take_small d2 10 (by decide) (by decide)
  obtain ⟨mx, hmx⟩ : ∃ mx : Int, mx = if (t.2.length : Int) > 1 then (t.2.length : Int) else 1 := ⟨_, rfl⟩
  have hmx1 : 1 ≤ mx ∧ mx ≤ 100 ∧ (1 ≤ t.2.length → mx = (t.2.length : Int)) := by
    by_cases c : (t.2.length : Int) > 1
    · rw [if_pos c] at hmx; omega
    · rw [if_neg c] at hmx; omega
  obtain ⟨at_, d4, e4, t0, t1⟩ := take_small d3 mx (by omega) (by omega)
  obtain ⟨here, d5, e5, _, _⟩ := take_small d4 (t.1.length : Int) (by omega) (by omega)
  obtain ⟨there, d6, e6, _, _⟩ := take_small d5 (t.1.length : Int) (by omega) (by omega)
  obtain ⟨j, d7, e7, j0, j5⟩ := take_small d6 5 (by decide) (by decide)
  have c2 : ∀ lo hi, (cutL t.2 lo hi).length ≤ 100 := fun lo hi => by have := cut_le t.2 lo hi; omega
  have c1 : ∀ lo hi, (cutL t.1 lo hi).length ≤ 100 := fun lo hi => by have := cut_le t.1 lo hi; omega
  obtain ⟨odd, ho⟩ : ∃ odd : List Tie, odd = [(T3.mk ((-(1 : Int)) - far) here (1 : Int)), (T3.mk here ((t.1.length : Int) + far) (1 : Int)), (T3.mk here here (2 : Int)), (T3.mk here there (3 : Int)), (T3.mk there here (0 : Int))] := ⟨_, rfl⟩
  obtain ⟨x, x1, _⟩ := atI_some (xs := odd) (j := j) j0 (by rw [ho]; simpa using j5)
  rw [ho] at x1
  have three : ∀ (A B : List Tie) (y : Tie) (d' : D2), A.length ≤ 100 → B.length ≤ 100 → ∃ w ts d'', (chk (A.length + [y].length < 16777216) >>= fun _ => chk ((A ++ [y]).length + B.length < 16777216) >>= fun _ => (.ok ((t.1, (A ++ [y]) ++ B), dk d') : M ((List Int × List Tie) × List Int))) = .ok ((w, ts), dk d'') ∧ w.length ≤ 1000 ∧ ts.length ≤ 1000 := fun A B y d' hA hB =>
    ⟨t.1, (A ++ [y]) ++ B, d', by rw [chk_b (by show A.length + 1 < 16777216; omega), chk_b (by rw [List.length_append]; show A.length + 1 + B.length < 16777216; omega)], by omega, by rw [List.length_append, List.length_append]; show A.length + 1 + B.length ≤ 1000; omega⟩
  have drawn : ∀ (A B : List Tie), A.length ≤ 100 → B.length ≤ 100 → ∃ w ts d'', (m_law_take (dk d6) (5 : Int) >>= fun r => opt (L2.atI ([(T3.mk ((-(1 : Int)) - far) here (1 : Int)), (T3.mk here ((t.1.length : Int) + far) (1 : Int)), (T3.mk here here (2 : Int)), (T3.mk here there (3 : Int)), (T3.mk there here (0 : Int))]) r.1) >>= fun y => chk (A.length + [y].length < 16777216) >>= fun _ => chk ((A ++ [y]).length + B.length < 16777216) >>= fun _ => (.ok ((t.1, (A ++ [y]) ++ B), r.2) : M ((List Int × List Tie) × List Int))) = .ok ((w, ts), dk d'') ∧ w.length ≤ 1000 ∧ ts.length ≤ 1000 := fun A B hA hB => by
    obtain ⟨w, ts, d'', h⟩ := three A B x d7 hA hB
    refine ⟨w, ts, d'', ?_, h.2⟩
    rw [bind_ok e7]
    refine (opt_b x1 _).trans ?_
    exact h.1
  unfold m_law_spoilt
  rw [bind_ok (show m_law_copied t = .ok (t.1, t.2) from rfl), bind_ok e1]
  show ∃ w ts d', (opt (L2.atI [(1 : Int), 3, (10 : Int) ^ Int.toNat 20] k) >>= _) = _ ∧ _
  rw [opt_b a1]
  show ∃ w ts d', (m_law_take (dk d1) big >>= _) = _ ∧ _
  rw [bind_ok e2]
  show ∃ w ts d', (m_law_take (dk d2) 10 >>= _) = _ ∧ _
  rw [bind_ok e3]
  show ∃ w ts d', (m_law_take (dk d3) (if (t.2.length : Int) > 1 then (t.2.length : Int) else 1) >>= _) = _ ∧ _
  rw [← hmx, bind_ok e4]
  show ∃ w ts d', (m_law_take (dk d4) (t.1.length : Int) >>= _) = _ ∧ _
  rw [bind_ok e5]
  show ∃ w ts d', (m_law_take (dk d5) (t.1.length : Int) >>= _) = _ ∧ _
  rw [bind_ok e6]
  show ∃ w ts d', (if way = 0 then _ else _) = _ ∧ _
  by_cases q : way = 0
  · rw [if_pos q]; exact ⟨[], t.2, d6, rfl, Nat.zero_le _, by omega⟩
  rw [if_neg q]
  show ∃ w ts d', (if way = 1 then _ else _) = _ ∧ _
  by_cases q : way = 1
  · rw [if_pos q]
    exact ⟨t.1 ++ [0], t.2, d6, chk_b (show t.1.length + [(0 : Int)].length < 16777216 by show t.1.length + 1 < 16777216; omega) _, by rw [List.length_append]; show t.1.length + 1 ≤ 1000; omega, by omega⟩
  rw [if_neg q]
  show ∃ w ts d', (if way = 2 then _ else _) = _ ∧ _
  by_cases q : way = 2
  · rw [if_pos q]
    have := c1 none (some (-(1 : Int)))
    exact ⟨cutL t.1 none (some (-(1 : Int))), t.2, d6, rfl, by omega, by omega⟩
  rw [if_neg q]
  show ∃ w ts d', (if way = 3 then _ else _) = _ ∧ _
  by_cases q : way = 3
  · rw [if_pos q]
    have h1 := c2 none (some at_)
    have h2 := c2 (some (at_ + 1)) none
    exact ⟨t.1, cutL t.2 none (some at_) ++ cutL t.2 (some (at_ + 1)) none, d6, chk_b (show (cutL t.2 none (some at_)).length + (cutL t.2 (some (at_ + 1)) none).length < 16777216 by omega) _, by omega, by rw [List.length_append]; omega⟩
  rw [if_neg q]
  show ∃ w ts d', (if way = 4 then _ else _) = _ ∧ _
  by_cases q : way = 4
  · rw [if_pos q]
    have h1 := c2 none (some at_)
    have h2 := c2 (some at_) (some (at_ + 1))
    have h3 := c2 (some at_) none
    refine ⟨t.1, (cutL t.2 none (some at_) ++ cutL t.2 (some at_) (some (at_ + 1))) ++ cutL t.2 (some at_) none, d6, (chk_b (show (cutL t.2 none (some at_)).length + (cutL t.2 (some at_) (some (at_ + 1))).length < 16777216 by omega) _).trans (chk_b (show (cutL t.2 none (some at_) ++ cutL t.2 (some at_) (some (at_ + 1))).length + (cutL t.2 (some at_) none).length < 16777216 by rw [List.length_append]; omega) _), by omega, by rw [List.length_append, List.length_append]; omega⟩
  rw [if_neg q]
  have rest : ∃ w ts d', (
      if way = (6 : Int) then (
      m_law_take (dk d6) (5 : Int) >>= fun r461 =>
      opt (L2.atI ([(T3.mk ((-(1 : Int)) - far) here (1 : Int)), (T3.mk here ((t.1.length : Int) + far) (1 : Int)), (T3.mk here here (2 : Int)), (T3.mk here there (3 : Int)), (T3.mk there here (0 : Int))]) r461.1) >>= fun y475 =>
      chk ((cutL t.2 none (some at_)).length + ([y475]).length < 16777216) >>= fun _ =>
      chk (((cutL t.2 none (some at_)) ++ ([y475])).length + (cutL t.2 (some at_) none).length < 16777216) >>= fun _ =>
      .ok ((t.1, (((cutL t.2 none (some at_)) ++ ([y475])) ++ (cutL t.2 (some at_) none))), r461.2))
      else (
      if t.2 = ([] : List (T3 Int Int Int)) then (
      m_law_take (dk d6) (5 : Int) >>= fun r568 =>
      opt (L2.atI ([(T3.mk ((-(1 : Int)) - far) here (1 : Int)), (T3.mk here ((t.1.length : Int) + far) (1 : Int)), (T3.mk here here (2 : Int)), (T3.mk here there (3 : Int)), (T3.mk there here (0 : Int))]) r568.1) >>= fun y582 =>
      chk ((cutL t.2 none (some at_)).length + ([y582]).length < 16777216) >>= fun _ =>
      chk (((cutL t.2 none (some at_)) ++ ([y582])).length + (cutL t.2 (some at_) none).length < 16777216) >>= fun _ =>
      .ok ((t.1, (((cutL t.2 none (some at_)) ++ ([y582])) ++ (cutL t.2 (some at_) none))), r568.2))
      else (
      if way = (7 : Int) then (
      opt (L2.atI t.2 at_) >>= fun y672 =>
      opt (L2.atI t.2 at_) >>= fun y691 =>
      opt (L2.atI t.2 at_) >>= fun y710 =>
      chk ((cutL t.2 none (some at_)).length + ([(T3.mk y672.b y691.a y710.c)]).length < 16777216) >>= fun _ =>
      chk (((cutL t.2 none (some at_)) ++ ([(T3.mk y672.b y691.a y710.c)])).length + (cutL t.2 (some (at_ + (1 : Int))) none).length < 16777216) >>= fun _ =>
      .ok ((t.1, (((cutL t.2 none (some at_)) ++ ([(T3.mk y672.b y691.a y710.c)])) ++ (cutL t.2 (some (at_ + (1 : Int))) none))), dk d6))
      else (
      m_law_take (dk d6) (5 : Int) >>= fun r810 =>
      opt (L2.atI ([(T3.mk ((-(1 : Int)) - far) here (1 : Int)), (T3.mk here ((t.1.length : Int) + far) (1 : Int)), (T3.mk here here (2 : Int)), (T3.mk here there (3 : Int)), (T3.mk there here (0 : Int))]) r810.1) >>= fun y824 =>
      chk ((cutL t.2 none (some at_)).length + ([y824]).length < 16777216) >>= fun _ =>
      chk (((cutL t.2 none (some at_)) ++ ([y824])).length + (cutL t.2 (some (at_ + (1 : Int))) none).length < 16777216) >>= fun _ =>
      (.ok ((t.1, (((cutL t.2 none (some at_)) ++ ([y824])) ++ (cutL t.2 (some (at_ + (1 : Int))) none))), r810.2) : M ((List Int × List Tie) × List Int)))))) = .ok ((w, ts), dk d') ∧ w.length ≤ 1000 ∧ ts.length ≤ 1000 := by
    by_cases q6 : way = 6
    · rw [if_pos q6]; exact drawn _ _ (c2 _ _) (c2 _ _)
    rw [if_neg q6]
    by_cases q7 : t.2 = []
    · rw [if_pos q7]; exact drawn _ _ (c2 _ _) (c2 _ _)
    rw [if_neg q7]
    have hp2 : 1 ≤ t.2.length := List.length_pos_iff.mpr q7
    by_cases q8 : way = 7
    · rw [if_pos q8]
      obtain ⟨y, y1, _⟩ := atI_some (xs := t.2) (j := at_) t0 (by have := hmx1.2.2 hp2; omega)
      rw [opt_b y1, opt_b y1, opt_b y1]
      exact three _ _ _ d6 (c2 _ _) (c2 _ _)
    rw [if_neg q8]
    exact drawn _ _ (c2 _ _) (c2 _ _)
  show ∃ w ts d', (if way = 5 then _ else _) = _ ∧ _
  by_cases q : way = 5
  · rw [if_pos q]
    show ∃ w ts d', (if (1 : Int) < (t.2.length : Int) then _ else _) = _ ∧ _
    by_cases q2 : (1 : Int) < (t.2.length : Int)
    · rw [if_pos q2]
      have hy : ∃ y, L2.atI t.2 (at_ - 1) = some y := by
        by_cases z : at_ = 0
        · have hl : t.2.length - 1 < t.2.length := by omega
          refine ⟨t.2[t.2.length - 1], ?_⟩
          rw [z]
          unfold L2.atI L2.ixN
          rw [if_neg (by decide), if_pos (by omega)]
          show t.2[((0 : Int) - 1 + (t.2.length : Int)).toNat]? = _
          rw [show ((0 : Int) - 1 + (t.2.length : Int)).toNat = t.2.length - 1 by omega, List.getElem?_eq_getElem hl]
        · obtain ⟨y, y1, _⟩ := atI_some (xs := t.2) (j := at_ - 1) (by omega) (by have := hmx1.2.2 (by omega); omega)
          exact ⟨y, y1⟩
      obtain ⟨y, y1⟩ := hy
      show ∃ w ts d', (opt (L2.atI t.2 (at_ - 1)) >>= _) = _ ∧ _
      rw [opt_b y1]
      exact three _ _ _ d6 (c2 _ _) (c2 _ _)
    · rw [if_neg q2]
      exact rest
  · rw [if_neg q]
    exact rest
theorem law_true (ns : List Int) (h : ns.length ≤ 63) : m_law ns = .ok true := by
  unfold m_law
  have hc := cut10 ns 30
  have hc : (cutL ns none (some (30 : Int))).length ≤ ns.length := hc
  rw [chk_b (show ([((10 : Int) ^ Int.toNat (18 : Int))]).length + (cutL ns none (some (30 : Int))).length < 16777216 by simp only [List.length_singleton]; omega)]
  rw [bind_ok (loopM_all fun c _ => ?_)]
  obtain ⟨d, e1⟩ := deck_ok c
  rw [bind_ok e1, chk_b (by decide)]
  obtain ⟨m, e3, hm⟩ : ∃ m, L2.atI ([(10 : Int), (39 : Int)]) (if (decide ((c % (8 : Int)) = (3 : Int))) = true then (1 : Int) else 0) = some m ∧ (m = 10 ∨ m = 39) := by
    by_cases z : c % 8 = 3
    · rw [if_pos (decide_eq_true z)]; exact ⟨39, rfl, .inr rfl⟩
    · rw [if_neg (by simpa using z)]; exact ⟨10, rfl, .inl rfl⟩
  rw [opt_b e3]
  obtain ⟨far, d2, e4, hf⟩ := far_ok d
  show (m_law_far (dk d) >>= _) = _
  rw [bind_ok e4]
  obtain ⟨t, d3, e5, ht, hl, _, _⟩ := tree_ok d2 m far (by omega) (by omega) hf.1 hf.2
  show (m_law_tree (dk d2) m far >>= _) = _
  rw [bind_ok e5]
  obtain ⟨w, ts, d4, e6, w1, w2⟩ := spoilt_ok d3 ht (by have := ht.len; omega)
  show (m_law_spoilt (dk d3) t >>= _) = _
  rw [bind_ok e6]
  obtain ⟨b, b1, b2⟩ := both_ok w ts w1 w2
  have b3 := told_ok b2
  show (m_law_is_tree w ts >>= _) = _
  rw [bind_ok b1]
  have hh : ∀ x y : HL2 (List Int) (List Tie), x = y → ¬ x ≠ y := fun x y e z => z e
  cases b with
  | true =>
    rw [if_pos rfl]
    show (m_law_told w ts >>= _) = _
    rw [bind_ok b3, if_pos rfl]
    rw [chk_b (show min (dep (Un.l (w, sortT ts) : Un (List Int × List Tie) Str)) (dep (Un.l (w, sortT ts) : Un (List Int × List Tie) Str)) ≤ 60 by
      have : dep (Un.l (w, sortT ts) : Un (List Int × List Tie) Str) ≤ 60 := dep_tree _
      omega)]
    rw [if_neg (fun z => z rfl), if_neg (fun z => z rfl)]
  | false =>
    rw [if_neg Bool.false_ne_true]
    show (m_law_told w ts >>= _) = _
    rw [bind_ok b3, if_neg Bool.false_ne_true]
    rw [chk_b (show min (dep (Un.r "NoTree" : Un (List Int × List Tie) Str)) (dep (Un.r "NoTree" : Un (List Int × List Tie) Str)) ≤ 60 by
      have : dep (Un.r "NoTree" : Un (List Int × List Tie) Str) ≤ 60 := by
        show PyData.depth (.str _) ≤ 60
        simp [PyData.depth]
      omega)]
    rw [if_neg (fun z => z rfl), if_neg (fun z => z rfl)]

theorem all_mk {P : Program} {w : World} {K : PySem.W.Frag} {h : Heap} {mg : Str → Option Value} {fa f1 f2 f3 f4 f5 f6 f7 f8 f9 f10 f11 f12 f13 f14 f15 C_NoTree C_SeatError C_NoForm C_NoLength C_NoName C_NoOrder C_NoPaper C_NoPlace C_NoRule C_NoText C_NoTie : Addr} {od1 an1 od2 an2 od3 an3 od4 an4 od5 an5 od6 an6 od7 an7 od8 an8 od9 an9 od10 an10 od11 an11 od12 an12 od13 an13 od14 an14 od15 an15 : Option Addr} {sl1 sl2 sl3 sl4 sl5 sl6 sl7 sl8 sl9 sl10 sl11 sl12 sl13 sl14 sl15 : Array (Option Value)} {oc1 kV1 dc1 pm1 cd1 ct1 oc2 kV2 dc2 pm2 cd2 ct2 oc3 kV3 dc3 pm3 cd3 ct3 oc4 kV4 dc4 pm4 cd4 ct4 oc5 kV5 dc5 pm5 cd5 ct5 oc6 kV6 dc6 pm6 cd6 ct6 oc7 kV7 dc7 pm7 cd7 ct7 oc8 kV8 dc8 pm8 cd8 ct8 oc9 kV9 dc9 pm9 cd9 ct9 oc10 kV10 dc10 pm10 cd10 ct10 oc11 kV11 dc11 pm11 cd11 ct11 oc12 kV12 dc12 pm12 cd12 ct12 oc13 kV13 dc13 pm13 cd13 ct13 oc14 kV14 dc14 pm14 cd14 ct14 oc15 kV15 dc15 pm15 cd15 ct15 : Value} (X : K.In h) (G : h.Ns mainGlobals mg) (hfa : mg "law" = some (.ref fa))
    (a1 : PySem.W.nsIn K mainGlobals "tied_places" = some (some (.ref f1))) (l1 : K.lookup f1 = some ⟨oc1, od1, .func (PySem.W.fnOf "tied_places" "tied_places" (defArgs s_tied_places) (defBody s_tied_places) (defScope s_tied_places) .none kV1 dc1 pm1 an1 cd1 ct1), sl1⟩) (c1 : PySem.W.codeIn K cd1 "tied_places" = true) (k1 : PySem.W.keepIn K (.ref f1) = true)
    (a2 : PySem.W.nsIn K mainGlobals "come_to" = some (some (.ref f2))) (l2 : K.lookup f2 = some ⟨oc2, od2, .func (PySem.W.fnOf "come_to" "come_to" (defArgs s_come_to) (defBody s_come_to) (defScope s_come_to) .none kV2 dc2 pm2 an2 cd2 ct2), sl2⟩) (c2 : PySem.W.codeIn K cd2 "come_to" = true) (k2 : PySem.W.keepIn K (.ref f2) = true)
    (a3 : PySem.W.nsIn K mainGlobals "tree_of" = some (some (.ref f3))) (l3 : K.lookup f3 = some ⟨oc3, od3, .func (PySem.W.fnOf "tree_of" "tree_of" (defArgs s_tree_of) (defBody s_tree_of) (defScope s_tree_of) .none kV3 dc3 pm3 an3 cd3 ct3), sl3⟩) (c3 : PySem.W.codeIn K cd3 "tree_of" = true) (k3 : PySem.W.keepIn K (.ref f3) = true)
    (a4 : PySem.W.nsIn K mainGlobals "_law_stir" = some (some (.ref f4))) (l4 : K.lookup f4 = some ⟨oc4, od4, .func (PySem.W.fnOf "_law_stir" "_law_stir" (defArgs s_law_stir) (defBody s_law_stir) (defScope s_law_stir) .none kV4 dc4 pm4 an4 cd4 ct4), sl4⟩) (c4 : PySem.W.codeIn K cd4 "_law_stir" = true) (k4 : PySem.W.keepIn K (.ref f4) = true)
    (a5 : PySem.W.nsIn K mainGlobals "_law_deck" = some (some (.ref f5))) (l5 : K.lookup f5 = some ⟨oc5, od5, .func (PySem.W.fnOf "_law_deck" "_law_deck" (defArgs s_law_deck) (defBody s_law_deck) (defScope s_law_deck) .none kV5 dc5 pm5 an5 cd5 ct5), sl5⟩) (c5 : PySem.W.codeIn K cd5 "_law_deck" = true) (k5 : PySem.W.keepIn K (.ref f5) = true)
    (a6 : PySem.W.nsIn K mainGlobals "_law_take" = some (some (.ref f6))) (l6 : K.lookup f6 = some ⟨oc6, od6, .func (PySem.W.fnOf "_law_take" "_law_take" (defArgs s_law_take) (defBody s_law_take) (defScope s_law_take) .none kV6 dc6 pm6 an6 cd6 ct6), sl6⟩) (c6 : PySem.W.codeIn K cd6 "_law_take" = true) (k6 : PySem.W.keepIn K (.ref f6) = true)
    (a7 : PySem.W.nsIn K mainGlobals "_law_far" = some (some (.ref f7))) (l7 : K.lookup f7 = some ⟨oc7, od7, .func (PySem.W.fnOf "_law_far" "_law_far" (defArgs s_law_far) (defBody s_law_far) (defScope s_law_far) .none kV7 dc7 pm7 an7 cd7 ct7), sl7⟩) (c7 : PySem.W.codeIn K cd7 "_law_far" = true) (k7 : PySem.W.keepIn K (.ref f7) = true)
    (a8 : PySem.W.nsIn K mainGlobals "_law_number" = some (some (.ref f8))) (l8 : K.lookup f8 = some ⟨oc8, od8, .func (PySem.W.fnOf "_law_number" "_law_number" (defArgs s_law_number) (defBody s_law_number) (defScope s_law_number) .none kV8 dc8 pm8 an8 cd8 ct8), sl8⟩) (c8 : PySem.W.codeIn K cd8 "_law_number" = true) (k8 : PySem.W.keepIn K (.ref f8) = true)
    (a9 : PySem.W.nsIn K mainGlobals "_law_order" = some (some (.ref f9))) (l9 : K.lookup f9 = some ⟨oc9, od9, .func (PySem.W.fnOf "_law_order" "_law_order" (defArgs s_law_order) (defBody s_law_order) (defScope s_law_order) .none kV9 dc9 pm9 an9 cd9 ct9), sl9⟩) (c9 : PySem.W.codeIn K cd9 "_law_order" = true) (k9 : PySem.W.keepIn K (.ref f9) = true)
    (a10 : PySem.W.nsIn K mainGlobals "_law_tree" = some (some (.ref f10))) (l10 : K.lookup f10 = some ⟨oc10, od10, .func (PySem.W.fnOf "_law_tree" "_law_tree" (defArgs s_law_tree) (defBody s_law_tree) (defScope s_law_tree) .none kV10 dc10 pm10 an10 cd10 ct10), sl10⟩) (c10 : PySem.W.codeIn K cd10 "_law_tree" = true) (k10 : PySem.W.keepIn K (.ref f10) = true)
    (a11 : PySem.W.nsIn K mainGlobals "_law_copied" = some (some (.ref f11))) (l11 : K.lookup f11 = some ⟨oc11, od11, .func (PySem.W.fnOf "_law_copied" "_law_copied" (defArgs s_law_copied) (defBody s_law_copied) (defScope s_law_copied) .none kV11 dc11 pm11 an11 cd11 ct11), sl11⟩) (c11 : PySem.W.codeIn K cd11 "_law_copied" = true) (k11 : PySem.W.keepIn K (.ref f11) = true)
    (a12 : PySem.W.nsIn K mainGlobals "_law_is_tree" = some (some (.ref f12))) (l12 : K.lookup f12 = some ⟨oc12, od12, .func (PySem.W.fnOf "_law_is_tree" "_law_is_tree" (defArgs s_law_is_tree) (defBody s_law_is_tree) (defScope s_law_is_tree) .none kV12 dc12 pm12 an12 cd12 ct12), sl12⟩) (c12 : PySem.W.codeIn K cd12 "_law_is_tree" = true) (k12 : PySem.W.keepIn K (.ref f12) = true)
    (a13 : PySem.W.nsIn K mainGlobals "_law_told" = some (some (.ref f13))) (l13 : K.lookup f13 = some ⟨oc13, od13, .func (PySem.W.fnOf "_law_told" "_law_told" (defArgs s_law_told) (defBody s_law_told) (defScope s_law_told) .none kV13 dc13 pm13 an13 cd13 ct13), sl13⟩) (c13 : PySem.W.codeIn K cd13 "_law_told" = true) (k13 : PySem.W.keepIn K (.ref f13) = true)
    (a14 : PySem.W.nsIn K mainGlobals "_law_spoilt" = some (some (.ref f14))) (l14 : K.lookup f14 = some ⟨oc14, od14, .func (PySem.W.fnOf "_law_spoilt" "_law_spoilt" (defArgs s_law_spoilt) (defBody s_law_spoilt) (defScope s_law_spoilt) .none kV14 dc14 pm14 an14 cd14 ct14), sl14⟩) (c14 : PySem.W.codeIn K cd14 "_law_spoilt" = true) (k14 : PySem.W.keepIn K (.ref f14) = true)
    (a15 : PySem.W.nsIn K mainGlobals "law" = some (some (.ref f15))) (l15 : K.lookup f15 = some ⟨oc15, od15, .func (PySem.W.fnOf "law" "law" (defArgs s_law) (defBody s_law) (defScope s_law) .none kV15 dc15 pm15 an15 cd15 ct15), sl15⟩) (c15 : PySem.W.codeIn K cd15 "law" = true) (k15 : PySem.W.keepIn K (.ref f15) = true)
    (ga_NoTree : PySem.W.nsIn K mainGlobals "NoTree" = some (some (.ref C_NoTree))) (gx_NoTree : PySem.W.excIn K C_NoTree [.type "ValueError", .type "Exception", .type "BaseException", .type "object"] "ValueError.__new__" = true) (gk_NoTree : PySem.W.keepIn K (.ref C_NoTree) = true) (gb_NoTree : PySem.W.subIn K (.ref C_NoTree) (.type "BaseException") = some true) (gt_NoTree : PySem.W.typeIn K (.ref C_NoTree) = some (.type "type"))
    (ga_SeatError : PySem.W.nsIn K mainGlobals "SeatError" = some (some (.ref C_SeatError)))
    (xd_SeatError : PySem.W.hasDictIn K C_SeatError = true)
    (xt_SeatError : PySem.W.typeIn K (.ref C_SeatError) = some (.type "type"))
    (xn_SeatError : PySem.W.subIn K (.type "NoneType") (.ref C_SeatError) = some false)
    (xb_SeatError : PySem.W.subIn K (.ref C_SeatError) (.type "BaseException") = some true)
    (xs_SeatError_SeatError : PySem.W.subIn K (.ref C_SeatError) (.ref C_SeatError) = some true)
    (xd_NoTree : PySem.W.hasDictIn K C_NoTree = true)
    (xt_NoTree : PySem.W.typeIn K (.ref C_NoTree) = some (.type "type"))
    (xn_NoTree : PySem.W.subIn K (.type "NoneType") (.ref C_NoTree) = some false)
    (xb_NoTree : PySem.W.subIn K (.ref C_NoTree) (.type "BaseException") = some true)
    (xs_NoTree_NoTree : PySem.W.subIn K (.ref C_NoTree) (.ref C_NoTree) = some true)
    (ga_NoForm : PySem.W.nsIn K mainGlobals "NoForm" = some (some (.ref C_NoForm)))
    (xd_NoForm : PySem.W.hasDictIn K C_NoForm = true)
    (xt_NoForm : PySem.W.typeIn K (.ref C_NoForm) = some (.type "type"))
    (xn_NoForm : PySem.W.subIn K (.type "NoneType") (.ref C_NoForm) = some false)
    (xb_NoForm : PySem.W.subIn K (.ref C_NoForm) (.type "BaseException") = some true)
    (xs_NoForm_NoForm : PySem.W.subIn K (.ref C_NoForm) (.ref C_NoForm) = some true)
    (ga_NoLength : PySem.W.nsIn K mainGlobals "NoLength" = some (some (.ref C_NoLength)))
    (xd_NoLength : PySem.W.hasDictIn K C_NoLength = true)
    (xt_NoLength : PySem.W.typeIn K (.ref C_NoLength) = some (.type "type"))
    (xn_NoLength : PySem.W.subIn K (.type "NoneType") (.ref C_NoLength) = some false)
    (xb_NoLength : PySem.W.subIn K (.ref C_NoLength) (.type "BaseException") = some true)
    (xs_NoLength_NoLength : PySem.W.subIn K (.ref C_NoLength) (.ref C_NoLength) = some true)
    (ga_NoName : PySem.W.nsIn K mainGlobals "NoName" = some (some (.ref C_NoName)))
    (xd_NoName : PySem.W.hasDictIn K C_NoName = true)
    (xt_NoName : PySem.W.typeIn K (.ref C_NoName) = some (.type "type"))
    (xn_NoName : PySem.W.subIn K (.type "NoneType") (.ref C_NoName) = some false)
    (xb_NoName : PySem.W.subIn K (.ref C_NoName) (.type "BaseException") = some true)
    (xs_NoName_NoName : PySem.W.subIn K (.ref C_NoName) (.ref C_NoName) = some true)
    (ga_NoOrder : PySem.W.nsIn K mainGlobals "NoOrder" = some (some (.ref C_NoOrder)))
    (xd_NoOrder : PySem.W.hasDictIn K C_NoOrder = true)
    (xt_NoOrder : PySem.W.typeIn K (.ref C_NoOrder) = some (.type "type"))
    (xn_NoOrder : PySem.W.subIn K (.type "NoneType") (.ref C_NoOrder) = some false)
    (xb_NoOrder : PySem.W.subIn K (.ref C_NoOrder) (.type "BaseException") = some true)
    (xs_NoOrder_NoOrder : PySem.W.subIn K (.ref C_NoOrder) (.ref C_NoOrder) = some true)
    (ga_NoPaper : PySem.W.nsIn K mainGlobals "NoPaper" = some (some (.ref C_NoPaper)))
    (xd_NoPaper : PySem.W.hasDictIn K C_NoPaper = true)
    (xt_NoPaper : PySem.W.typeIn K (.ref C_NoPaper) = some (.type "type"))
    (xn_NoPaper : PySem.W.subIn K (.type "NoneType") (.ref C_NoPaper) = some false)
    (xb_NoPaper : PySem.W.subIn K (.ref C_NoPaper) (.type "BaseException") = some true)
    (xs_NoPaper_NoPaper : PySem.W.subIn K (.ref C_NoPaper) (.ref C_NoPaper) = some true)
    (ga_NoPlace : PySem.W.nsIn K mainGlobals "NoPlace" = some (some (.ref C_NoPlace)))
    (xd_NoPlace : PySem.W.hasDictIn K C_NoPlace = true)
    (xt_NoPlace : PySem.W.typeIn K (.ref C_NoPlace) = some (.type "type"))
    (xn_NoPlace : PySem.W.subIn K (.type "NoneType") (.ref C_NoPlace) = some false)
    (xb_NoPlace : PySem.W.subIn K (.ref C_NoPlace) (.type "BaseException") = some true)
    (xs_NoPlace_NoPlace : PySem.W.subIn K (.ref C_NoPlace) (.ref C_NoPlace) = some true)
    (ga_NoRule : PySem.W.nsIn K mainGlobals "NoRule" = some (some (.ref C_NoRule)))
    (xd_NoRule : PySem.W.hasDictIn K C_NoRule = true)
    (xt_NoRule : PySem.W.typeIn K (.ref C_NoRule) = some (.type "type"))
    (xn_NoRule : PySem.W.subIn K (.type "NoneType") (.ref C_NoRule) = some false)
    (xb_NoRule : PySem.W.subIn K (.ref C_NoRule) (.type "BaseException") = some true)
    (xs_NoRule_NoRule : PySem.W.subIn K (.ref C_NoRule) (.ref C_NoRule) = some true)
    (ga_NoText : PySem.W.nsIn K mainGlobals "NoText" = some (some (.ref C_NoText)))
    (xd_NoText : PySem.W.hasDictIn K C_NoText = true)
    (xt_NoText : PySem.W.typeIn K (.ref C_NoText) = some (.type "type"))
    (xn_NoText : PySem.W.subIn K (.type "NoneType") (.ref C_NoText) = some false)
    (xb_NoText : PySem.W.subIn K (.ref C_NoText) (.type "BaseException") = some true)
    (xs_NoText_NoText : PySem.W.subIn K (.ref C_NoText) (.ref C_NoText) = some true)
    (ga_NoTie : PySem.W.nsIn K mainGlobals "NoTie" = some (some (.ref C_NoTie)))
    (xd_NoTie : PySem.W.hasDictIn K C_NoTie = true)
    (xt_NoTie : PySem.W.typeIn K (.ref C_NoTie) = some (.type "type"))
    (xn_NoTie : PySem.W.subIn K (.type "NoneType") (.ref C_NoTie) = some false)
    (xb_NoTie : PySem.W.subIn K (.ref C_NoTie) (.type "BaseException") = some true)
    (xs_NoTie_NoTie : PySem.W.subIn K (.ref C_NoTie) (.ref C_NoTie) = some true)
    (xg_NoTree : PySem.W.findIn K (.ref C_NoTree) "__getattribute__" = some (some (.builtin "BaseException.__getattribute__")))
    (xk_NoTree : PySem.W.findIn K (.ref C_NoTree) "__getattr__" = some none)
    (xc_NoTree : PySem.W.findIn K (.ref C_NoTree) "__class__" = some (some (.builtin "object.__class__")))
    (xm_NoTree : PySem.W.mroIn K C_NoTree (.type "object") = some true)
    (xv_NoTree : PySem.W.subIn K (.ref C_NoTree) (.type "ValueError") = some true)
    (xs_NoTree_SeatError : PySem.W.subIn K (.ref C_NoTree) (.ref C_SeatError) = some true)
    (xs_NoTree_NoForm : PySem.W.subIn K (.ref C_NoTree) (.ref C_NoForm) = some false)
    (xs_NoTree_NoLength : PySem.W.subIn K (.ref C_NoTree) (.ref C_NoLength) = some false)
    (xs_NoTree_NoName : PySem.W.subIn K (.ref C_NoTree) (.ref C_NoName) = some false)
    (xs_NoTree_NoOrder : PySem.W.subIn K (.ref C_NoTree) (.ref C_NoOrder) = some false)
    (xs_NoTree_NoPaper : PySem.W.subIn K (.ref C_NoTree) (.ref C_NoPaper) = some false)
    (xs_NoTree_NoPlace : PySem.W.subIn K (.ref C_NoTree) (.ref C_NoPlace) = some false)
    (xs_NoTree_NoRule : PySem.W.subIn K (.ref C_NoTree) (.ref C_NoRule) = some false)
    (xs_NoTree_NoText : PySem.W.subIn K (.ref C_NoTree) (.ref C_NoText) = some false)
    (xs_NoTree_NoTie : PySem.W.subIn K (.ref C_NoTree) (.ref C_NoTie) = some false)
    (xh1 : PySem.W.specialIn K (.builtin "object.__class__") "__get__" = some (some (.builtin "getset_descriptor.__get__")))
    (xh2 : PySem.W.takesIn K (.builtin "object.__class__") = some true)
    (z_ValueError : PySem.W.nsIn K mainGlobals "ValueError" = some none)
    (z_int : PySem.W.nsIn K mainGlobals "int" = some none)
    (z_isinstance : PySem.W.nsIn K mainGlobals "isinstance" = some none)
    (z_len : PySem.W.nsIn K mainGlobals "len" = some none)
    (z_list : PySem.W.nsIn K mainGlobals "list" = some none)
    (z_max : PySem.W.nsIn K mainGlobals "max" = some none)
    (z_range : PySem.W.nsIn K mainGlobals "range" = some none)
    (z_sorted : PySem.W.nsIn K mainGlobals "sorted" = some none) :
    ∃ fd : FuncData, (∀ (s : Shared) (v : Value), BindsTo s fd ⟨[v], []⟩ [("script", v)]) ∧ ∀ base : Heap, K.In base → base.Ns mainGlobals mg → FnOk P w K mg base (L2.CX P w) 4 fa fd ["script"] (sp_law K) := by
  have e := hfa.symm.trans (PySem.W.mg_of X G a15)
  cases e
  have nb : Nb mg := ⟨PySem.W.mg_none_of X G z_ValueError, PySem.W.mg_none_of X G z_int, PySem.W.mg_none_of X G z_isinstance, PySem.W.mg_none_of X G z_len, PySem.W.mg_none_of X G z_list, PySem.W.mg_none_of X G z_max, PySem.W.mg_none_of X G z_range, PySem.W.mg_none_of X G z_sorted⟩
  have E_NoTree : ∃ C, Xc K mg "NoTree" C := ⟨C_NoTree, PySem.W.mg_of X G ga_NoTree, gx_NoTree, gk_NoTree, gb_NoTree, gt_NoTree⟩
  have EX : ExAll K mg := ⟨C_SeatError, C_NoTree, C_NoForm, C_NoLength, C_NoName, C_NoOrder, C_NoPaper, C_NoPlace, C_NoRule, C_NoText, C_NoTie, PySem.W.mg_of X G ga_SeatError, xd_SeatError, xt_SeatError, xn_SeatError, xb_SeatError, xs_SeatError_SeatError, PySem.W.mg_of X G ga_NoTree, xd_NoTree, xt_NoTree, xn_NoTree, xb_NoTree, xs_NoTree_NoTree, PySem.W.mg_of X G ga_NoForm, xd_NoForm, xt_NoForm, xn_NoForm, xb_NoForm, xs_NoForm_NoForm, PySem.W.mg_of X G ga_NoLength, xd_NoLength, xt_NoLength, xn_NoLength, xb_NoLength, xs_NoLength_NoLength, PySem.W.mg_of X G ga_NoName, xd_NoName, xt_NoName, xn_NoName, xb_NoName, xs_NoName_NoName, PySem.W.mg_of X G ga_NoOrder, xd_NoOrder, xt_NoOrder, xn_NoOrder, xb_NoOrder, xs_NoOrder_NoOrder, PySem.W.mg_of X G ga_NoPaper, xd_NoPaper, xt_NoPaper, xn_NoPaper, xb_NoPaper, xs_NoPaper_NoPaper, PySem.W.mg_of X G ga_NoPlace, xd_NoPlace, xt_NoPlace, xn_NoPlace, xb_NoPlace, xs_NoPlace_NoPlace, PySem.W.mg_of X G ga_NoRule, xd_NoRule, xt_NoRule, xn_NoRule, xb_NoRule, xs_NoRule_NoRule, PySem.W.mg_of X G ga_NoText, xd_NoText, xt_NoText, xn_NoText, xb_NoText, xs_NoText_NoText, PySem.W.mg_of X G ga_NoTie, xd_NoTie, xt_NoTie, xn_NoTie, xb_NoTie, xs_NoTie_NoTie, ⟨xg_NoTree, xk_NoTree, xb_NoTree, xd_NoTree, xc_NoTree, xh1, xh2, xm_NoTree⟩, xv_NoTree, xs_NoTree_SeatError, xs_NoTree_NoForm, xs_NoTree_NoLength, xs_NoTree_NoName, xs_NoTree_NoOrder, xs_NoTree_NoPaper, xs_NoTree_NoPlace, xs_NoTree_NoRule, xs_NoTree_NoText, xs_NoTree_NoTie⟩
  have F1 := fun_mk (x := "tied_places") (st := s_tied_places) l1 c1 k1
  have D_tied_places : Df K mg "tied_places" "tied_places" s_tied_places ["many", "ties"] := ⟨_, _, F1, PySem.W.mg_of X G a1, F1.binds (ps := ["many", "ties"]) fun _ _ _ _ _ _ us hl => match us, hl with | [_, _], _ => rfl⟩
  have F2 := fun_mk (x := "come_to") (st := s_come_to) l2 c2 k2
  have D_come_to : Df K mg "come_to" "come_to" s_come_to ["near", "place"] := ⟨_, _, F2, PySem.W.mg_of X G a2, F2.binds (ps := ["near", "place"]) fun _ _ _ _ _ _ us hl => match us, hl with | [_, _], _ => rfl⟩
  have F3 := fun_mk (x := "tree_of") (st := s_tree_of) l3 c3 k3
  have D_tree_of : Df K mg "tree_of" "tree_of" s_tree_of ["worths", "ties"] := ⟨_, _, F3, PySem.W.mg_of X G a3, F3.binds (ps := ["worths", "ties"]) fun _ _ _ _ _ _ us hl => match us, hl with | [_, _], _ => rfl⟩
  have F4 := fun_mk (x := "_law_stir") (st := s_law_stir) l4 c4 k4
  have D_law_stir : Df K mg "_law_stir" "_law_stir" s_law_stir ["cell", "k"] := ⟨_, _, F4, PySem.W.mg_of X G a4, F4.binds (ps := ["cell", "k"]) fun _ _ _ _ _ _ us hl => match us, hl with | [_, _], _ => rfl⟩
  have F5 := fun_mk (x := "_law_deck") (st := s_law_deck) l5 c5 k5
  have D_law_deck : Df K mg "_law_deck" "_law_deck" s_law_deck ["cell"] := ⟨_, _, F5, PySem.W.mg_of X G a5, F5.binds (ps := ["cell"]) fun _ _ _ _ _ _ us hl => match us, hl with | [_], _ => rfl⟩
  have F6 := fun_mk (x := "_law_take") (st := s_law_take) l6 c6 k6
  have D_law_take : Df K mg "_law_take" "_law_take" s_law_take ["deck", "many"] := ⟨_, _, F6, PySem.W.mg_of X G a6, F6.binds (ps := ["deck", "many"]) fun _ _ _ _ _ _ us hl => match us, hl with | [_, _], _ => rfl⟩
  have F7 := fun_mk (x := "_law_far") (st := s_law_far) l7 c7 k7
  have D_law_far : Df K mg "_law_far" "_law_far" s_law_far ["deck"] := ⟨_, _, F7, PySem.W.mg_of X G a7, F7.binds (ps := ["deck"]) fun _ _ _ _ _ _ us hl => match us, hl with | [_], _ => rfl⟩
  have F8 := fun_mk (x := "_law_number") (st := s_law_number) l8 c8 k8
  have D_law_number : Df K mg "_law_number" "_law_number" s_law_number ["deck", "far"] := ⟨_, _, F8, PySem.W.mg_of X G a8, F8.binds (ps := ["deck", "far"]) fun _ _ _ _ _ _ us hl => match us, hl with | [_, _], _ => rfl⟩
  have F9 := fun_mk (x := "_law_order") (st := s_law_order) l9 c9 k9
  have D_law_order : Df K mg "_law_order" "_law_order" s_law_order ["deck", "many"] := ⟨_, _, F9, PySem.W.mg_of X G a9, F9.binds (ps := ["deck", "many"]) fun _ _ _ _ _ _ us hl => match us, hl with | [_, _], _ => rfl⟩
  have F10 := fun_mk (x := "_law_tree") (st := s_law_tree) l10 c10 k10
  have D_law_tree : Df K mg "_law_tree" "_law_tree" s_law_tree ["deck", "most", "far"] := ⟨_, _, F10, PySem.W.mg_of X G a10, F10.binds (ps := ["deck", "most", "far"]) fun _ _ _ _ _ _ us hl => match us, hl with | [_, _, _], _ => rfl⟩
  have F11 := fun_mk (x := "_law_copied") (st := s_law_copied) l11 c11 k11
  have D_law_copied : Df K mg "_law_copied" "_law_copied" s_law_copied ["tree"] := ⟨_, _, F11, PySem.W.mg_of X G a11, F11.binds (ps := ["tree"]) fun _ _ _ _ _ _ us hl => match us, hl with | [_], _ => rfl⟩
  have F12 := fun_mk (x := "_law_is_tree") (st := s_law_is_tree) l12 c12 k12
  have D_law_is_tree : Df K mg "_law_is_tree" "_law_is_tree" s_law_is_tree ["worths", "ties"] := ⟨_, _, F12, PySem.W.mg_of X G a12, F12.binds (ps := ["worths", "ties"]) fun _ _ _ _ _ _ us hl => match us, hl with | [_, _], _ => rfl⟩
  have F13 := fun_mk (x := "_law_told") (st := s_law_told) l13 c13 k13
  have D_law_told : Df K mg "_law_told" "_law_told" s_law_told ["worths", "ties"] := ⟨_, _, F13, PySem.W.mg_of X G a13, F13.binds (ps := ["worths", "ties"]) fun _ _ _ _ _ _ us hl => match us, hl with | [_, _], _ => rfl⟩
  have F14 := fun_mk (x := "_law_spoilt") (st := s_law_spoilt) l14 c14 k14
  have D_law_spoilt : Df K mg "_law_spoilt" "_law_spoilt" s_law_spoilt ["deck", "tree"] := ⟨_, _, F14, PySem.W.mg_of X G a14, F14.binds (ps := ["deck", "tree"]) fun _ _ _ _ _ _ us hl => match us, hl with | [_, _], _ => rfl⟩
  have F15 := fun_mk (x := "law") (st := s_law) l15 c15 k15
  refine ⟨PySem.W.fnOf "law" "law" (defArgs s_law) (defBody s_law) (defScope s_law) .none kV15 dc15 pm15 an15 cd15 ct15, fun s v => .of_eq rfl, fun base _ _ => ?_⟩
  have C_tied_places := ok_tied_places (P := P) (w := w) (base := base) nb D_tied_places
  have CO_tied_places := ok_tied_places_own (P := P) (w := w) (base := base) nb D_tied_places
  have C_come_to : Ca P w K mg base "come_to" 1 ["near", "place"] (sp_come_to mg) := ok_come_to nb  D_come_to
  have C_tree_of : Ca P w K mg base "tree_of" 2 ["worths", "ties"] (sp_tree_of mg) := ok_tree_of nb C_come_to C_tied_places E_NoTree  D_tree_of
  have C_law_stir : Ca P w K mg base "_law_stir" 1 ["cell", "k"] (sp_law_stir mg) := ok_law_stir nb  D_law_stir
  have C_law_deck : Ca P w K mg base "_law_deck" 2 ["cell"] (sp_law_deck mg) := ok_law_deck nb C_law_stir  D_law_deck
  have C_law_take : Ca P w K mg base "_law_take" 1 ["deck", "many"] (sp_law_take mg) := ok_law_take nb  D_law_take
  have C_law_far : Ca P w K mg base "_law_far" 2 ["deck"] (sp_law_far mg) := ok_law_far nb C_law_take  D_law_far
  have C_law_number : Ca P w K mg base "_law_number" 2 ["deck", "far"] (sp_law_number mg) := ok_law_number nb C_law_take  D_law_number
  have C_law_order : Ca P w K mg base "_law_order" 2 ["deck", "many"] (sp_law_order mg) := ok_law_order nb C_law_take  D_law_order
  have C_law_tree : Ca P w K mg base "_law_tree" 3 ["deck", "most", "far"] (sp_law_tree mg) := ok_law_tree nb C_law_number C_law_order C_law_take  D_law_tree
  have C_law_copied : Ca P w K mg base "_law_copied" 1 ["tree"] (sp_law_copied mg) := ok_law_copied nb  D_law_copied
  have C_law_is_tree : Ca P w K mg base "_law_is_tree" 1 ["worths", "ties"] (sp_law_is_tree mg) := ok_law_is_tree nb  D_law_is_tree
  have C_law_told : Ca P w K mg base "_law_told" 3 ["worths", "ties"] (sp_law_told mg) := ok_law_told nb C_tree_of EX  D_law_told
  have C_law_spoilt : Ca P w K mg base "_law_spoilt" 2 ["deck", "tree"] (sp_law_spoilt mg) := ok_law_spoilt nb C_law_copied C_law_take  D_law_spoilt
  exact ok_law nb C_law_deck C_law_far C_law_is_tree C_law_spoilt C_law_told C_law_tree F15
theorem walk {l : PySem.W.OpenLaw} {q : Program} {loose : List Str} {XP : (Str → Option Value) → Heap → Prop} {YP : World → Heap → Prop} {d : DefRec} {K : Params → PySem.W.Frag} (hn : l.most = some 63) (hdf : d.params.defaults = [])
    (hY : ∀ (w : World) (h : Heap), YP w h → (K w.params).In h)
    (F : ∀ (w : World) (mg : Str → Option Value) (fa : Addr) (h : Heap), (K w.params).In h → h.Ns mainGlobals mg → mg d.name = some (.ref fa) →
      ∃ fd : FuncData, (∀ (s : Shared) (u : Value), BindsTo s fd ⟨[u], []⟩ [("script", u)]) ∧ ∀ base : Heap, (K w.params).In base → base.Ns mainGlobals mg → FnOk l.prog w (K w.params) mg base (L2.CX l.prog w) 4 fa fd ["script"] (sp_law (K w.params))) :
    PySem.W.WalkO q loose XP YP l.row.toRowW d [] (fun f vs => PySem.call f vs) :=
  L2.walk_of (n := 63) (k := 4) (x := "script") (CX := fun w => L2.CX l.prog w) (sp := fun w => sp_law (K w.params)) hn (by decide) hdf ⟨rfl, by decide, by decide⟩ hY F
    (fun _ H a ns hl _ hS => ⟨H, a, ns, rfl, ⟨Same.refl _, (fun _ h => nomatch h), (fun _ h => nomatch h), List.nodup_nil, (fun _ h => nomatch h)⟩, hS, by rw [law_true ns hl]; exact fun _ _ _ => rfl⟩)
    fun _ _ _ _ _ z => by
      obtain ⟨_, _, _, _, _, _, _, _, _, _, _, _, z⟩ := z
      exact z.elim
end G
open PySem PySem.W PyProof.Rows
set_option maxRecDepth 100000 in
set_option maxHeartbeats 0 in
theorem PySem.Challenge.cw_everyseat_k02_no_tree_holds : PySem.Challenge.rw_everyseat_k02_no_tree.Holds := by
  w_on; o_law; k_head; (case hw => w_witness2)
  k_fill
  refine G.walk (l := PySem.Challenge.rw_everyseat_k02_no_tree) rfl rfl (fun w h Y => PySem.W.kIn_of Y) ?F
  case F =>
    intro w mg fa h KX GG hmg
    refine' G.all_mk KX GG hmg ?a1 ?l1 ?c1 ?k1 ?a2 ?l2 ?c2 ?k2 ?a3 ?l3 ?c3 ?k3 ?a4 ?l4 ?c4 ?k4 ?a5 ?l5 ?c5 ?k5 ?a6 ?l6 ?c6 ?k6 ?a7 ?l7 ?c7 ?k7 ?a8 ?l8 ?c8 ?k8 ?a9 ?l9 ?c9 ?k9 ?a10 ?l10 ?c10 ?k10 ?a11 ?l11 ?c11 ?k11 ?a12 ?l12 ?c12 ?k12 ?a13 ?l13 ?c13 ?k13 ?a14 ?l14 ?c14 ?k14 ?a15 ?l15 ?c15 ?k15 ?ga_NoTree ?gx_NoTree ?gk_NoTree ?gb_NoTree ?gt_NoTree ?ga_SeatError ?xd_SeatError ?xt_SeatError ?xn_SeatError ?xb_SeatError ?xs_SeatError_SeatError ?xd_NoTree ?xt_NoTree ?xn_NoTree ?xb_NoTree ?xs_NoTree_NoTree ?ga_NoForm ?xd_NoForm ?xt_NoForm ?xn_NoForm ?xb_NoForm ?xs_NoForm_NoForm ?ga_NoLength ?xd_NoLength ?xt_NoLength ?xn_NoLength ?xb_NoLength ?xs_NoLength_NoLength ?ga_NoName ?xd_NoName ?xt_NoName ?xn_NoName ?xb_NoName ?xs_NoName_NoName ?ga_NoOrder ?xd_NoOrder ?xt_NoOrder ?xn_NoOrder ?xb_NoOrder ?xs_NoOrder_NoOrder ?ga_NoPaper ?xd_NoPaper ?xt_NoPaper ?xn_NoPaper ?xb_NoPaper ?xs_NoPaper_NoPaper ?ga_NoPlace ?xd_NoPlace ?xt_NoPlace ?xn_NoPlace ?xb_NoPlace ?xs_NoPlace_NoPlace ?ga_NoRule ?xd_NoRule ?xt_NoRule ?xn_NoRule ?xb_NoRule ?xs_NoRule_NoRule ?ga_NoText ?xd_NoText ?xt_NoText ?xn_NoText ?xb_NoText ?xs_NoText_NoText ?ga_NoTie ?xd_NoTie ?xt_NoTie ?xn_NoTie ?xb_NoTie ?xs_NoTie_NoTie ?xg_NoTree ?xk_NoTree ?xc_NoTree ?xm_NoTree ?xv_NoTree ?xs_NoTree_SeatError ?xs_NoTree_NoForm ?xs_NoTree_NoLength ?xs_NoTree_NoName ?xs_NoTree_NoOrder ?xs_NoTree_NoPaper ?xs_NoTree_NoPlace ?xs_NoTree_NoRule ?xs_NoTree_NoText ?xs_NoTree_NoTie ?xh1 ?xh2 ?z_ValueError ?z_int ?z_isinstance ?z_len ?z_list ?z_max ?z_range ?z_sorted
    (case a1 => k_is)
    (case l1 => k_is)
    (case c1 => k_is)
    (case k1 => k_is)
    (case a2 => k_is)
    (case l2 => k_is)
    (case c2 => k_is)
    (case k2 => k_is)
    (case a3 => k_is)
    (case l3 => k_is)
    (case c3 => k_is)
    (case k3 => k_is)
    (case a4 => k_is)
    (case l4 => k_is)
    (case c4 => k_is)
    (case k4 => k_is)
    (case a5 => k_is)
    (case l5 => k_is)
    (case c5 => k_is)
    (case k5 => k_is)
    (case a6 => k_is)
    (case l6 => k_is)
    (case c6 => k_is)
    (case k6 => k_is)
    (case a7 => k_is)
    (case l7 => k_is)
    (case c7 => k_is)
    (case k7 => k_is)
    (case a8 => k_is)
    (case l8 => k_is)
    (case c8 => k_is)
    (case k8 => k_is)
    (case a9 => k_is)
    (case l9 => k_is)
    (case c9 => k_is)
    (case k9 => k_is)
    (case a10 => k_is)
    (case l10 => k_is)
    (case c10 => k_is)
    (case k10 => k_is)
    (case a11 => k_is)
    (case l11 => k_is)
    (case c11 => k_is)
    (case k11 => k_is)
    (case a12 => k_is)
    (case l12 => k_is)
    (case c12 => k_is)
    (case k12 => k_is)
    (case a13 => k_is)
    (case l13 => k_is)
    (case c13 => k_is)
    (case k13 => k_is)
    (case a14 => k_is)
    (case l14 => k_is)
    (case c14 => k_is)
    (case k14 => k_is)
    (case a15 => k_is)
    (case l15 => k_is)
    (case c15 => k_is)
    (case k15 => k_is)
    (case ga_NoTree => k_is)
    (case gx_NoTree => k_exc)
    (case gk_NoTree => k_is)
    (case gb_NoTree => k_is)
    (case gt_NoTree => k_is)
    (case ga_SeatError => k_is)
    (case xd_SeatError => k_is)
    (case xt_SeatError => k_is)
    (case xn_SeatError => k_is)
    (case xb_SeatError => k_is)
    (case xs_SeatError_SeatError => k_is)
    (case xd_NoTree => k_is)
    (case xt_NoTree => k_is)
    (case xn_NoTree => k_is)
    (case xb_NoTree => k_is)
    (case xs_NoTree_NoTree => k_is)
    (case ga_NoForm => k_is)
    (case xd_NoForm => k_is)
    (case xt_NoForm => k_is)
    (case xn_NoForm => k_is)
    (case xb_NoForm => k_is)
    (case xs_NoForm_NoForm => k_is)
    (case ga_NoLength => k_is)
    (case xd_NoLength => k_is)
    (case xt_NoLength => k_is)
    (case xn_NoLength => k_is)
    (case xb_NoLength => k_is)
    (case xs_NoLength_NoLength => k_is)
    (case ga_NoName => k_is)
    (case xd_NoName => k_is)
    (case xt_NoName => k_is)
    (case xn_NoName => k_is)
    (case xb_NoName => k_is)
    (case xs_NoName_NoName => k_is)
    (case ga_NoOrder => k_is)
    (case xd_NoOrder => k_is)
    (case xt_NoOrder => k_is)
    (case xn_NoOrder => k_is)
    (case xb_NoOrder => k_is)
    (case xs_NoOrder_NoOrder => k_is)
    (case ga_NoPaper => k_is)
    (case xd_NoPaper => k_is)
    (case xt_NoPaper => k_is)
    (case xn_NoPaper => k_is)
    (case xb_NoPaper => k_is)
    (case xs_NoPaper_NoPaper => k_is)
    (case ga_NoPlace => k_is)
    (case xd_NoPlace => k_is)
    (case xt_NoPlace => k_is)
    (case xn_NoPlace => k_is)
    (case xb_NoPlace => k_is)
    (case xs_NoPlace_NoPlace => k_is)
    (case ga_NoRule => k_is)
    (case xd_NoRule => k_is)
    (case xt_NoRule => k_is)
    (case xn_NoRule => k_is)
    (case xb_NoRule => k_is)
    (case xs_NoRule_NoRule => k_is)
    (case ga_NoText => k_is)
    (case xd_NoText => k_is)
    (case xt_NoText => k_is)
    (case xn_NoText => k_is)
    (case xb_NoText => k_is)
    (case xs_NoText_NoText => k_is)
    (case ga_NoTie => k_is)
    (case xd_NoTie => k_is)
    (case xt_NoTie => k_is)
    (case xn_NoTie => k_is)
    (case xb_NoTie => k_is)
    (case xs_NoTie_NoTie => k_is)
    (case xg_NoTree => k_is)
    (case xk_NoTree => k_is)
    (case xc_NoTree => k_is)
    (case xm_NoTree => k_is)
    (case xv_NoTree => k_is)
    (case xs_NoTree_SeatError => k_is)
    (case xs_NoTree_NoForm => k_is)
    (case xs_NoTree_NoLength => k_is)
    (case xs_NoTree_NoName => k_is)
    (case xs_NoTree_NoOrder => k_is)
    (case xs_NoTree_NoPaper => k_is)
    (case xs_NoTree_NoPlace => k_is)
    (case xs_NoTree_NoRule => k_is)
    (case xs_NoTree_NoText => k_is)
    (case xs_NoTree_NoTie => k_is)
    (case xh1 => k_is)
    (case xh2 => k_is)
    (case z_ValueError => k_is)
    (case z_int => k_is)
    (case z_isinstance => k_is)
    (case z_len => k_is)
    (case z_list => k_is)
    (case z_max => k_is)
    (case z_range => k_is)
    (case z_sorted => k_is)
#print axioms PySem.Challenge.cw_everyseat_k02_no_tree_holds
