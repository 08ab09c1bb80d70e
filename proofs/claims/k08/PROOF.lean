import PyProof.Rows.All
import Wide.All
import OpenK.AllK
import Wide.FinOn
import HandS.ForMost
import HandS.ForExc
import HandS.Wide
import HandS.Flow
import HandS.Evl
import HandS.Conv
import HandS.IsInst
import KE.SortData
import KE.DatumMoreOrd
import KE.DatumIndex
import HandS.Walk
import HandS.TupSets
import HandS.TryOnly
import HandS.Codes
import HandS.Dict
import HandS.TupLe
import HandS.List
import KE.KDictPairs
import HandS.Exc
import HandS.ExcIs
import HandS.ExcValue
import PyProof.Rows.CountFlat
import HandS.Style
import PySem.Challenge.RW_everyseat_k08_whole_trees_and_ways
set_option Elab.async false
set_option linter.all false
set_option maxRecDepth 100000
set_option maxHeartbeats 4000000
/-! My own layer over HandS: mirrors in an error monad, represented data, owned cells. -/
namespace PG
open PySem L2

/-! ### the mirrors' monad -/
inductive Er where
  | bad
  | exc (n : String)
  deriving DecidableEq
abbrev M := Except Er
def wp {a : Type} (m : M a) (Q : a → Prop) (E : String → Prop) : Prop :=
  match m with
  | .ok x => Q x
  | .error .bad => False
  | .error (.exc n) => E n
section
variable {a b : Type} {Q : a → Prop} {R : b → Prop} {E E' : String → Prop}
theorem wp_ok {x : a} : wp (Except.ok x : M a) Q E = Q x := rfl
theorem wp_pure {x : a} : wp (pure x : M a) Q E = Q x := rfl
theorem wp_bind {m : M b} {k : b → M a} : wp (m >>= k) Q E ↔ wp m (fun x => wp (k x) Q E) E := by
  cases m with
  | ok x => exact Iff.rfl
  | error e => cases e <;> exact Iff.rfl
theorem wp_call {m : M b} {k : b → M a} {E1 : String → Prop} (h : wp (m >>= k) Q E) (hr : ∀ r, m = .ok r → wp (k r) Q E → R r) (he : ∀ n, E n → E1 n) : wp m R E1 := by
  cases m with
  | ok x => exact hr x rfl h
  | error e =>
    cases e with
    | bad => exact h
    | exc n => exact he n h
/-- the last call of a def -/
theorem wp_tail {m : M a} {E1 : String → Prop} {R : a → Prop} (h : wp m Q E) (hr : ∀ r, m = .ok r → Q r → R r) (he : ∀ n, E n → E1 n) : wp m R E1 := by
  cases m with
  | ok x => exact hr x rfl h
  | error e =>
    cases e with
    | bad => exact h
    | exc n => exact he n h
def bad : M a := .error .bad
def raise (n : String) : M a := .error (.exc n)
theorem wp_bad {P : Prop} (h : wp (bad : M a) Q E) : P := h.elim
/-- a guard -/
@[irreducible] def chk (c : Prop) [Decidable c] : M Unit := if c then .ok () else bad
theorem wp_chk {c : Prop} [Decidable c] {k : Unit → M a} (h : wp (chk c >>= k) Q E) : c ∧ wp (k ()) Q E := by
  unfold chk at h
  by_cases hc : c
  · rw [if_pos hc] at h
    exact ⟨hc, h⟩
  · rw [if_neg hc] at h
    exact h.elim
/-- something that is there -/
def opt (o : Option b) : M b := match o with
  | some x => .ok x
  | none => bad
theorem wp_opt {o : Option b} {k : b → M a} (h : wp (opt o >>= k) Q E) : ∃ x, o = some x ∧ wp (k x) Q E := by
  cases o with
  | none => exact h.elim
  | some x => exact ⟨x, rfl, h⟩
/-- no exception leaves -/
def nox (m : M a) : M a := match m with
  | .ok x => .ok x
  | .error _ => bad
theorem wp_nox {m : M b} {k : b → M a} (h : wp (nox m >>= k) Q E) : ∃ x, m = .ok x ∧ wp (k x) Q E := by
  cases m with
  | ok x => exact ⟨x, rfl, h⟩
  | error e => exact h.elim
theorem wp_of_ok {m : M b} {x : b} (e : m = .ok x) (h : R x) : wp m R E := by
  rw [e]
  exact h
theorem wp_ite {c : Prop} [Decidable c] {x y : M a} (h : wp (if c then x else y) Q E) : (c → wp x Q E) ∧ (¬ c → wp y Q E) := by
  by_cases hc : c
  · rw [if_pos hc] at h
    exact ⟨fun _ => h, fun n => (n hc).elim⟩
  · rw [if_neg hc] at h
    exact ⟨fun p => (hc p).elim, fun _ => h⟩
end

/-! ### loops -/
/-- a turn's end: on to the next, or the def's return -/
inductive Fl (s r : Type) where
  | nx (x : s)
  | rt (x : r)
section
variable {i s r a : Type}
def loopM (b : i → s → M (Fl s r)) : List i → s → M (Fl s r)
  | [], x => .ok (.nx x)
  | y :: ys, x => b y x >>= fun
    | .nx x' => loopM b ys x'
    | .rt z => .ok (.rt z)
/-- a loop without return -/
def loopN (b : i → s → M s) : List i → s → M s
  | [], x => .ok x
  | y :: ys, x => b y x >>= fun x' => loopN b ys x'
def whileM (c : s → M Bool) (b : s → M (Fl s r)) : Nat → s → M (Fl s r)
  | 0, _ => bad
  | n + 1, x => c x >>= fun t => if t = true then b x >>= fun
      | .nx x' => whileM c b n x'
      | .rt z => .ok (.rt z)
    else .ok (.nx x)
def whileN (c : s → M Bool) (b : s → M s) : Nat → s → M s
  | 0, _ => bad
  | n + 1, x => c x >>= fun t => if t = true then b x >>= fun x' => whileN c b n x' else .ok x
/-- a comprehension: f gives an element, or none where the test fails -/
def compN (b : i → s → M (Option a × s)) : List i → s → M (List a × s)
  | [], x => .ok ([], x)
  | y :: ys, x => b y x >>= fun p => compN b ys p.2 >>= fun q => .ok (match p.1 with
    | some z => z :: q.1
    | none => q.1, q.2)
/-- .. that changes nothing -/
def compM (b : i → M (Option a)) : List i → M (List a)
  | [] => .ok []
  | y :: ys => b y >>= fun p => compM b ys >>= fun q => .ok (match p with
    | some z => z :: q
    | none => q)
end

/-! ### what a value stands for -/
open PySem.W (T3 T4 Datum DatumOrd)
mutual
inductive Rep (H : Hp) : V → PyData → Prop
  | non : Rep H .non .none
  | bl (b : Bool) : Rep H (.bl b) (.bool b)
  | int (i : Int) : Rep H (.int i) (.int i)
  | str (x : Str) : Rep H (.str x) (.str x)
  | lst {a : Addr} {xs : List V} {ds : List PyData} : H a = some (.lst xs) → RepA H xs ds → Rep H (.ref a) (.list ds)
  | tup {a : Addr} {xs : List V} {ds : List PyData} : H a = some (.tup xs) → RepA H xs ds → Rep H (.ref a) (.tuple ds)
inductive RepA (H : Hp) : List V → List PyData → Prop
  | nil : RepA H [] []
  | cons {v : V} {vs : List V} {d : PyData} {ds : List PyData} : Rep H v d → RepA H vs ds → RepA H (v :: vs) (d :: ds)
end
mutual
theorem Rep.mono {H H' : Hp} (s : Same H H') : ∀ (d : PyData) (v : V), Rep H v d → Rep H' v d
  | .none, _, h => by cases h; exact .non
  | .bool _, _, h => by cases h; exact .bl _
  | .int _, _, h => by cases h; exact .int _
  | .str _, _, h => by cases h; exact .str _
  | .list ds, _, h => by
    cases h with
    | lst ha hs => exact .lst (s _ _ ha) (RepA.mono s ds _ hs)
  | .tuple ds, _, h => by
    cases h with
    | tup ha hs => exact .tup (s _ _ ha) (RepA.mono s ds _ hs)
  | .dict _, _, h => by cases h
theorem RepA.mono {H H' : Hp} (s : Same H H') : ∀ (ds : List PyData) (vs : List V), RepA H vs ds → RepA H' vs ds
  | [], _, h => by cases h; exact .nil
  | d :: ds, _, h => by
    cases h with
    | cons h1 h2 => exact .cons (Rep.mono s d _ h1) (RepA.mono s ds _ h2)
end
mutual
theorem Rep.dp {K : PySem.W.Frag} {H : Hp} : ∀ (d : PyData) (v : V), Rep H v d → Dp K H v d
  | .none, _, h => by cases h; exact .non
  | .bool _, _, h => by cases h; exact .bl _
  | .int _, _, h => by cases h; exact .int _
  | .str _, _, h => by cases h; exact .str _
  | .list ds, _, h => by
    cases h with
    | lst ha hs => exact .lst (SqL.of ha) (RepA.dp ds _ hs)
  | .tuple ds, _, h => by
    cases h with
    | tup ha hs => exact .tup (SqT.of ha) (RepA.dp ds _ hs)
  | .dict _, _, h => by cases h
theorem RepA.dp {K : PySem.W.Frag} {H : Hp} : ∀ (ds : List PyData) (vs : List V), RepA H vs ds → DpAll K H vs ds
  | [], _, h => by cases h; exact .nil
  | d :: ds, _, h => by
    cases h with
    | cons h1 h2 => exact .cons (Rep.dp d _ h1) (RepA.dp ds _ h2)
end

/-- a Lean type whose values are Python's data -/
class Py (a : Type) where
  toD : a → PyData
instance : Py Int := ⟨.int⟩
instance : Py Bool := ⟨.bool⟩
instance : Py Str := ⟨.str⟩
instance : Py Unit := ⟨fun _ => .none⟩
instance {a : Type} [Py a] : Py (List a) := ⟨fun xs => .list (xs.map Py.toD)⟩
instance {a b : Type} [Py a] [Py b] : Py (a × b) := ⟨fun p => .tuple [Py.toD p.1, Py.toD p.2]⟩
instance {a b c : Type} [Py a] [Py b] [Py c] : Py (T3 a b c) := ⟨fun p => .tuple [Py.toD p.a, Py.toD p.b, Py.toD p.c]⟩
instance {a b c d : Type} [Py a] [Py b] [Py c] [Py d] : Py (T4 a b c d) := ⟨fun p => .tuple [Py.toD p.a, Py.toD p.b, Py.toD p.c, Py.toD p.d]⟩
instance {a : Type} [Py a] : Py (Option a) := ⟨fun o => match o with
  | none => .none
  | some x => Py.toD x⟩
class IsD (a : Type) [Py a] [DecidableEq a] [Datum a] : Prop where
  eq : ∀ x : a, Py.toD x = Datum.toD x
instance : IsD Int := ⟨fun _ => rfl⟩
instance : IsD Bool := ⟨fun _ => rfl⟩
instance : IsD Str := ⟨fun _ => rfl⟩
instance : IsD Unit := ⟨fun _ => rfl⟩
section
variable {a b c d : Type} [Py a] [DecidableEq a] [Datum a] [IsD a] [Py b] [DecidableEq b] [Datum b] [IsD b] [Py c] [DecidableEq c] [Datum c] [IsD c] [Py d] [DecidableEq d] [Datum d] [IsD d]
theorem map_toD (xs : List a) : xs.map (Py.toD : a → PyData) = xs.map Datum.toD := List.map_congr_left fun x _ => IsD.eq x
instance : IsD (List a) := ⟨fun xs => congrArg PyData.list (map_toD xs)⟩
instance : IsD (a × b) := ⟨fun p => by show PyData.tuple [_, _] = PyData.tuple [_, _]; rw [IsD.eq, IsD.eq]⟩
instance : IsD (T3 a b c) := ⟨fun p => by show PyData.tuple [_, _, _] = PyData.tuple [_, _, _]; rw [IsD.eq, IsD.eq, IsD.eq]⟩
instance : IsD (T4 a b c d) := ⟨fun p => by show PyData.tuple [_, _, _, _] = PyData.tuple [_, _, _, _]; rw [IsD.eq, IsD.eq, IsD.eq, IsD.eq]⟩
instance [PySem.W.SomeDatum a] : IsD (Option a) := ⟨fun o => by
  cases o with
  | none => rfl
  | some x => exact IsD.eq x⟩
end

/-- v stands for x -/
def R {a : Type} [Py a] (H : Hp) (v : V) (x : a) : Prop := Rep H v (Py.toD x)
/-- item by item -/
def RL {a : Type} [Py a] (H : Hp) (vs : List V) (xs : List a) : Prop := RepA H vs (xs.map Py.toD)
section
variable {H H' : Hp} {v : V} {vs : List V} {p q : Addr}
theorem R.mono {a : Type} [Py a] {x : a} (h : R H v x) (s : Same H H') : R H' v x := Rep.mono s _ _ h
theorem RL.mono {a : Type} [Py a] {xs : List a} (h : RL H vs xs) (s : Same H H') : RL H' vs xs := RepA.mono s _ _ h
theorem R.int {i : Int} : R H (.int i) i := Rep.int i
theorem R.bl {b : Bool} : R H (.bl b) b := Rep.bl b
theorem R.str {x : Str} : R H (.str x) x := Rep.str x
theorem R.unit {u : Unit} : R H .non u := Rep.non
theorem R.non {a : Type} [Py a] : R H .non (none : Option a) := Rep.non
theorem R.jst {a : Type} [Py a] {x : a} (h : R H v x) : R H v (some x) := h
theorem R.int_ {i : Int} (h : R H v i) : v = .int i := by cases h; rfl
theorem R.bl_ {b : Bool} (h : R H v b) : v = .bl b := by cases h; rfl
theorem R.str_ {x : Str} (h : R H v x) : v = .str x := by cases h; rfl
theorem R.unit_ {u : Unit} (h : R H v u) : v = .non := by cases h; rfl
theorem R.non_ {a : Type} [Py a] (h : R H v (none : Option a)) : v = .non := by cases h; rfl
theorem R.jst_ {a : Type} [Py a] {x : a} (h : R H v (some x)) : R H v x := h
variable {a b c d : Type} [Py a] [Py b] [Py c] [Py d]
theorem R.lst {xs : List a} (ha : H p = some (.lst vs)) (h : RL H vs xs) : R H (.ref p) xs := Rep.lst ha h
theorem R.lst_ {xs : List a} (h : R H v xs) : ∃ p vs, v = .ref p ∧ H p = some (.lst vs) ∧ RL H vs xs := by
  have h' : Rep H v (.list (xs.map Py.toD)) := h
  cases h' with
  | lst ha hs => exact ⟨_, _, rfl, ha, hs⟩
theorem R.t2 {x : a × b} {v1 v2 : V} (ha : H p = some (.tup [v1, v2])) (h1 : R H v1 x.1) (h2 : R H v2 x.2) : R H (.ref p) x := Rep.tup ha (.cons h1 (.cons h2 .nil))
theorem R.t2_ {x : a × b} (h : R H v x) : ∃ p v1 v2, v = .ref p ∧ H p = some (.tup [v1, v2]) ∧ R H v1 x.1 ∧ R H v2 x.2 := by
  have h' : Rep H v (.tuple [_, _]) := h
  cases h' with
  | tup ha hs =>
    cases hs with
    | cons h1 hs =>
      cases hs with
      | cons h2 hs =>
        cases hs
        exact ⟨_, _, _, rfl, ha, h1, h2⟩
theorem R.t3 {x : T3 a b c} {v1 v2 v3 : V} (ha : H p = some (.tup [v1, v2, v3])) (h1 : R H v1 x.a) (h2 : R H v2 x.b) (h3 : R H v3 x.c) : R H (.ref p) x := Rep.tup ha (.cons h1 (.cons h2 (.cons h3 .nil)))
theorem R.t3_ {x : T3 a b c} (h : R H v x) : ∃ p v1 v2 v3, v = .ref p ∧ H p = some (.tup [v1, v2, v3]) ∧ R H v1 x.a ∧ R H v2 x.b ∧ R H v3 x.c := by
  have h' : Rep H v (.tuple [_, _, _]) := h
  cases h' with
  | tup ha hs =>
    cases hs with
    | cons h1 hs =>
      cases hs with
      | cons h2 hs =>
        cases hs with
        | cons h3 hs =>
          cases hs
          exact ⟨_, _, _, _, rfl, ha, h1, h2, h3⟩
theorem R.t4 {x : T4 a b c d} {v1 v2 v3 v4 : V} (ha : H p = some (.tup [v1, v2, v3, v4])) (h1 : R H v1 x.a) (h2 : R H v2 x.b) (h3 : R H v3 x.c) (h4 : R H v4 x.d) : R H (.ref p) x :=
  Rep.tup ha (.cons h1 (.cons h2 (.cons h3 (.cons h4 .nil))))
theorem R.t4_ {x : T4 a b c d} (h : R H v x) : ∃ p v1 v2 v3 v4, v = .ref p ∧ H p = some (.tup [v1, v2, v3, v4]) ∧ R H v1 x.a ∧ R H v2 x.b ∧ R H v3 x.c ∧ R H v4 x.d := by
  have h' : Rep H v (.tuple [_, _, _, _]) := h
  cases h' with
  | tup ha hs =>
    cases hs with
    | cons h1 hs =>
      cases hs with
      | cons h2 hs =>
        cases hs with
        | cons h3 hs =>
          cases hs with
          | cons h4 hs =>
            cases hs
            exact ⟨_, _, _, _, _, rfl, ha, h1, h2, h3, h4⟩
theorem RL.nil : RL H [] ([] : List a) := RepA.nil
theorem RL.cons {x : a} {xs : List a} (h : R H v x) (hs : RL H vs xs) : RL H (v :: vs) (x :: xs) := RepA.cons h hs
theorem RL.cons_ {x : a} {xs : List a} (h : RL H vs (x :: xs)) : ∃ w ws, vs = w :: ws ∧ R H w x ∧ RL H ws xs := by
  have h' : RepA H vs (Py.toD x :: xs.map Py.toD) := h
  cases h' with
  | cons h1 h2 => exact ⟨_, _, rfl, h1, h2⟩
theorem RL.nil_ (h : RL H vs ([] : List a)) : vs = [] := by
  have h' : RepA H vs [] := h
  cases h'
  rfl
theorem RL.len : ∀ {vs : List V} {xs : List a}, RL H vs xs → vs.length = xs.length
  | _, [], h => by rw [RL.nil_ h]; rfl
  | _, x :: xs, h => by
    obtain ⟨w, ws, rfl, _, h2⟩ := RL.cons_ h
    rw [List.length_cons, List.length_cons, RL.len h2]
theorem RL.app : ∀ {vs ws : List V} {xs ys : List a}, RL H vs xs → RL H ws ys → RL H (vs ++ ws) (xs ++ ys)
  | _, _, [], _, h, k => by rw [RL.nil_ h]; exact k
  | _, _, x :: xs, _, h, k => by
    obtain ⟨w, ws', rfl, h1, h2⟩ := RL.cons_ h
    exact RL.cons h1 (RL.app h2 k)
theorem RL.snoc {x : a} {xs : List a} (h : RL H vs xs) (k : R H v x) : RL H (vs ++ [v]) (xs ++ [x]) := RL.app h (RL.cons k RL.nil)
theorem RL.get : ∀ {vs : List V} {xs : List a}, RL H vs xs → ∀ {i : Nat} {x : a}, xs[i]? = some x → ∃ w, vs[i]? = some w ∧ R H w x
  | _, [], _, i, x, e => by simp at e
  | _, y :: ys, h, i, x, e => by
    obtain ⟨w, ws, rfl, h1, h2⟩ := RL.cons_ h
    cases i with
    | zero =>
      cases (Option.some.inj e : y = x)
      exact ⟨w, rfl, h1⟩
    | succ i => exact RL.get h2 (i := i) (by simpa using e)
theorem RL.got : ∀ {vs : List V} {xs : List a}, RL H vs xs → ∀ {i : Nat} {w : V}, vs[i]? = some w → ∃ x, xs[i]? = some x ∧ R H w x
  | _, [], h, i, w, e => by rw [RL.nil_ h] at e; simp at e
  | _, y :: ys, h, i, w, e => by
    obtain ⟨w', ws, rfl, h1, h2⟩ := RL.cons_ h
    cases i with
    | zero =>
      cases (Option.some.inj e : w' = w)
      exact ⟨y, rfl, h1⟩
    | succ i => exact RL.got h2 (i := i) (by simpa using e)
theorem RL.atI {xs : List a} (h : RL H vs xs) {i : Int} {x : a} (e : L2.atI xs i = some x) : ∃ w, L2.atI vs i = some w ∧ R H w x := by
  unfold L2.atI at e ⊢
  rw [h.len]
  cases q : ixN xs.length i with
  | none => rw [q] at e; cases e
  | some j =>
    rw [q] at e
    exact h.get e
theorem RL.take : ∀ {vs : List V} {xs : List a} (n : Nat), RL H vs xs → RL H (vs.take n) (xs.take n)
  | _, _, 0, _ => RL.nil
  | _, [], n + 1, h => by rw [RL.nil_ h]; exact RL.nil
  | _, x :: xs, n + 1, h => by
    obtain ⟨w, ws, rfl, h1, h2⟩ := RL.cons_ h
    exact RL.cons h1 (RL.take n h2)
theorem RL.drop : ∀ {vs : List V} {xs : List a} (n : Nat), RL H vs xs → RL H (vs.drop n) (xs.drop n)
  | _, _, 0, h => h
  | _, [], n + 1, h => by rw [RL.nil_ h]; exact RL.nil
  | _, x :: xs, n + 1, h => by
    obtain ⟨w, ws, rfl, h1, h2⟩ := RL.cons_ h
    exact RL.drop n h2
theorem RL.set : ∀ {vs : List V} {xs : List a} (n : Nat) {w : V} {y : a}, RL H vs xs → R H w y → RL H (vs.set n w) (xs.set n y)
  | _, [], n, _, _, h, _ => by rw [RL.nil_ h]; exact RL.nil
  | _, x :: xs, 0, _, _, h, k => by
    obtain ⟨w, ws, rfl, h1, h2⟩ := RL.cons_ h
    exact RL.cons k h2
  | _, x :: xs, n + 1, _, _, h, k => by
    obtain ⟨w, ws, rfl, h1, h2⟩ := RL.cons_ h
    exact RL.cons h1 (RL.set n h2 k)
theorem RL.erase : ∀ {vs : List V} {xs : List a} (n : Nat), RL H vs xs → RL H (vs.eraseIdx n) (xs.eraseIdx n)
  | _, [], n, h => by rw [RL.nil_ h]; exact RL.nil
  | _, x :: xs, 0, h => by
    obtain ⟨w, ws, rfl, h1, h2⟩ := RL.cons_ h
    exact h2
  | _, x :: xs, n + 1, h => by
    obtain ⟨w, ws, rfl, h1, h2⟩ := RL.cons_ h
    exact RL.cons h1 (RL.erase n h2)
theorem RL.dropLast : ∀ {vs : List V} {xs : List a}, RL H vs xs → RL H vs.dropLast xs.dropLast
  | _, [], h => by rw [RL.nil_ h]; exact RL.nil
  | _, x :: xs, h => by
    obtain ⟨w, ws, rfl, h1, h2⟩ := RL.cons_ h
    cases xs with
    | nil => rw [RL.nil_ h2]; exact RL.nil
    | cons y ys =>
      obtain ⟨w2, ws2, rfl, _, _⟩ := RL.cons_ h2
      exact RL.cons h1 (RL.dropLast h2)
theorem RL.rev : ∀ {vs : List V} {xs : List a}, RL H vs xs → RL H vs.reverse xs.reverse
  | _, [], h => by rw [RL.nil_ h]; exact RL.nil
  | _, x :: xs, h => by
    obtain ⟨w, ws, rfl, h1, h2⟩ := RL.cons_ h
    rw [List.reverse_cons, List.reverse_cons]
    exact RL.snoc (RL.rev h2) h1
theorem RL.ints : ∀ {vs : List V} {xs : List Int}, RL H vs xs → vs = xs.map V.int
  | _, [], h => RL.nil_ h
  | _, x :: xs, h => by
    obtain ⟨w, ws, rfl, h1, h2⟩ := RL.cons_ h
    rw [R.int_ h1, RL.ints h2]
    rfl
theorem RL.of_ints : ∀ {xs : List Int}, RL H (xs.map V.int) xs
  | [] => RL.nil
  | x :: xs => RL.cons R.int RL.of_ints
theorem RL.bls : ∀ {vs : List V} {xs : List Bool}, RL H vs xs → vs = xs.map V.bl
  | _, [], h => RL.nil_ h
  | _, x :: xs, h => by
    obtain ⟨w, ws, rfl, h1, h2⟩ := RL.cons_ h
    rw [R.bl_ h1, RL.bls h2]
    rfl
theorem RL.strs : ∀ {vs : List V} {xs : List Str}, RL H vs xs → vs = xs.map V.str
  | _, [], h => RL.nil_ h
  | _, x :: xs, h => by
    obtain ⟨w, ws, rfl, h1, h2⟩ := RL.cons_ h
    rw [R.str_ h1, RL.strs h2]
    rfl
theorem RL.of_strs : ∀ {xs : List Str}, RL H (xs.map V.str) xs
  | [] => RL.nil
  | x :: xs => RL.cons R.str RL.of_strs
theorem RL.cut {xs : List a} (h : RL H vs xs) (lo hi : Option Int) : RL H (cutV vs lo hi) ((xs.drop (HT.sIx xs.length 0 lo)).take (HT.sIx xs.length xs.length hi - HT.sIx xs.length 0 lo)) := by
  unfold cutV
  rw [h.len]
  exact (h.drop _).take _
end

/-! ### owned cells: F is what is read alone, cs are the cells that the code may change -/
/-- what is known of the heap behind a def, by the heap at its entry; the cells at as may have changed -/
structure Gr (as : List Addr) (F H F' H' : Hp) : Prop where
  f : Same F F'
  s : Same F' H'
  k : ∀ b o, b ∉ as → H b = some o → H' b = some o
  t : ∀ b, H b ≠ none → H' b ≠ none
  n : ∀ b, H b ≠ none → F' b = F b ∨ ∃ xs, H b = some (.tup xs)
  u : ∀ b xs, H' b = some (.tup xs) → H b = none ∨ H b = some (.tup xs)
/-- what may be a cell -/
def noTup : HO → Bool
  | .tup _ => false
  | _ => true
structure Kp (as : List Addr) (H H' : Hp) : Prop where
  k : ∀ b o, b ∉ as → H b = some o → H' b = some o
  t : ∀ b, H b ≠ none → H' b ≠ none
/-- the entry of a def -/
structure Ent where
  as : List Addr
  F : Hp
  H : Hp
structure Ow (Z : Ent) (F : Hp) (cs : List (Addr × HO)) (H : Hp) : Prop where
  g : Gr Z.as Z.F Z.H F H
  cf : ∀ c ∈ cs, F c.1 = none
  ch : ∀ c ∈ cs, H c.1 = some c.2
  nd : (cs.map (·.1)).Nodup
  ca : ∀ c ∈ cs, c.1 ∈ Z.as ∨ Z.H c.1 = none
  nt : ∀ c ∈ cs, noTup c.2 = true
/-- what a def asks of its cells -/
structure Pre (F : Hp) (cs : List (Addr × HO)) (H : Hp) : Prop where
  s : Same F H
  cf : ∀ c ∈ cs, F c.1 = none
  ch : ∀ c ∈ cs, H c.1 = some c.2
  nd : (cs.map (·.1)).Nodup
  nt : ∀ c ∈ cs, noTup c.2 = true
theorem Same.new {H : Hp} {p : Addr} {o : HO} (h : H p = none) : Same H (upd H p o) := fun b u e => by
  rw [upd_ne (ne_of_none e h)]
  exact e
theorem Same.upd2 {F H : Hp} {p : Addr} {o : HO} (s : Same F H) : Same (upd F p o) (upd H p o) := fun b u e => by
  by_cases hb : b = p
  · subst hb
    rw [upd_same] at e ⊢
    exact e
  · rw [upd_ne hb] at e ⊢
    exact s b u e
theorem Same.no {F H : Hp} {p : Addr} (s : Same F H) (h : H p = none) : F p = none := Same.free s h
section
variable {Z : Ent} {F F' H H' : Hp} {cs : List (Addr × HO)} {p a : Addr} {o o' : HO}
theorem Pre.start (P : Pre F cs H) : Ow ⟨cs.map (·.1), F, H⟩ F cs H where
  g := ⟨Same.refl _, P.s, fun _ _ _ e => e, fun _ e => e, fun _ _ => .inl rfl, fun _ _ e => .inr e⟩
  cf := P.cf
  ch := P.ch
  nd := P.nd
  ca := fun c hc => .inl (List.mem_map.mpr ⟨c, hc, rfl⟩)
  nt := P.nt
theorem Ow.s (O : Ow Z F cs H) : Same F H := O.g.s
theorem Ow.pre (O : Ow Z F cs H) : Pre F cs H := ⟨O.g.s, O.cf, O.ch, O.nd, O.nt⟩
theorem Ow.pre0 (O : Ow Z F cs H) : Pre F [] H := ⟨O.g.s, (fun _ h => nomatch h), (fun _ h => nomatch h), List.nodup_nil, fun _ h => nomatch h⟩
theorem Ow.pre1 (O : Ow Z F cs H) (i : Nat) (e : cs[i]? = some (a, o)) : Pre F [(a, o)] H := by
  have m := List.mem_of_getElem? e
  refine ⟨O.g.s, fun c hc => ?_, fun c hc => ?_, by simp, fun c hc => ?_⟩
  · rw [List.mem_singleton.mp hc]; exact O.cf _ m
  · rw [List.mem_singleton.mp hc]; exact O.ch _ m
  · rw [List.mem_singleton.mp hc]; exact O.nt _ m
theorem Ow.at (O : Ow Z F cs H) (i : Nat) (e : cs[i]? = some (a, o)) : H a = some o := O.ch _ (List.mem_of_getElem? e)
theorem Ow.no (O : Ow Z F cs H) (h : H p = none) : F p = none := Same.no O.s h
theorem Gr.new (g : Gr Z.as Z.F Z.H F H) (h : H p = none) : Gr Z.as Z.F Z.H F (upd H p o) where
  f := g.f
  s := g.s.trans (Same.new h)
  k := fun b u hb e => Same.new h b u (g.k b u hb e)
  t := fun b e z => by
    by_cases hb : b = p
    · subst hb; exact g.t _ e h
    · rw [upd_ne hb] at z; exact g.t b e z
  n := g.n
  u := fun b xs e => by
    by_cases hb : b = p
    · subst hb
      cases q : Z.H b with
      | none => exact .inl rfl
      | some u => exact absurd h (g.t b (by rw [q]; simp))
    · rw [upd_ne hb] at e; exact g.u b xs e
/-- a new cell -/
theorem Ow.new (O : Ow Z F cs H) (h : H p = none) (hn : noTup o = true := by rfl) : Ow Z F ((p, o) :: cs) (upd H p o) where
  g := O.g.new h
  cf := fun c hc => by
    rcases List.mem_cons.mp hc with rfl | hc
    · exact O.no h
    · exact O.cf c hc
  ch := fun c hc => by
    rcases List.mem_cons.mp hc with rfl | hc
    · exact upd_same
    · rw [upd_ne (ne_of_none (O.ch c hc) h)]; exact O.ch c hc
  nd := by
    rw [List.map_cons, List.nodup_cons]
    refine ⟨fun hm => ?_, O.nd⟩
    obtain ⟨c, hc, e⟩ := List.mem_map.mp hm
    have z := O.ch c hc
    rw [e] at z
    rw [z] at h
    cases h
  ca := fun c hc => by
    rcases List.mem_cons.mp hc with rfl | hc
    · refine .inr ?_
      cases q : Z.H p with
      | none => rfl
      | some u => exact absurd h (O.g.t p (by rw [q]; simp))
    · exact O.ca c hc
  nt := fun c hc => by
    rcases List.mem_cons.mp hc with rfl | hc
    · exact hn
    · exact O.nt c hc
/-- a new thing that is read alone -/
theorem Ow.put (O : Ow Z F cs H) (h : H p = none) : Ow Z (upd F p o) cs (upd H p o) where
  g := {
    f := O.g.f.trans (Same.new (O.no h))
    s := Same.upd2 O.g.s
    k := (O.g.new h).k
    t := (O.g.new h).t
    n := fun b e => by
      have hb : b ≠ p := fun z => by subst z; exact O.g.t _ e h
      rw [upd_ne hb]
      exact O.g.n b e
    u := (O.g.new h).u }
  cf := fun c hc => by rw [upd_ne (ne_of_none (O.ch c hc) h)]; exact O.cf c hc
  ch := fun c hc => by rw [upd_ne (ne_of_none (O.ch c hc) h)]; exact O.ch c hc
  nd := O.nd
  ca := O.ca
  nt := O.nt
theorem map_set_fst {i : Nat} (e : cs[i]? = some (a, o)) : (cs.set i (a, o')).map (·.1) = cs.map (·.1) := by
  rw [List.map_set]
  obtain ⟨h, e'⟩ := List.getElem?_eq_some_iff.mp e
  refine List.ext_getElem? fun j => ?_
  by_cases hj : i = j
  · subst hj
    rw [List.getElem?_set_self (by simpa using h), List.getElem?_map, e]
    rfl
  · rw [List.getElem?_set_ne hj]
theorem nd_other {i : Nat} (nd : (cs.map (·.1)).Nodup) (e : cs[i]? = some (a, o)) {c : Addr × HO} (hc : c ∈ cs.set i (a, o')) : c = (a, o') ∨ (c ∈ cs ∧ c.1 ≠ a) := by
  obtain ⟨j, hj⟩ := List.mem_iff_getElem?.mp hc
  by_cases hij : i = j
  · subst hij
    obtain ⟨h, _⟩ := List.getElem?_eq_some_iff.mp e
    rw [List.getElem?_set_self h] at hj
    exact .inl (Option.some.inj hj).symm
  · rw [List.getElem?_set_ne hij] at hj
    refine .inr ⟨List.mem_of_getElem? hj, fun z => hij ?_⟩
    have h1 : (cs.map (·.1))[i]? = some a := by rw [List.getElem?_map, e]; rfl
    have h2 : (cs.map (·.1))[j]? = some a := by rw [List.getElem?_map, hj, ← z]; rfl
    exact nd_ix nd h1 h2
/-- a cell is changed -/
theorem Ow.set (O : Ow Z F cs H) (i : Nat) (o' : HO) (e : cs[i]? = some (a, o)) (hn : noTup o' = true := by rfl) : Ow Z F (cs.set i (a, o')) (upd H a o') := by
  have m := List.mem_of_getElem? e
  have ha := O.ca _ m
  refine ⟨⟨O.g.f, fun b u q => ?_, fun b u hb q => ?_, fun b q z => ?_, O.g.n, fun b xs q => ?_⟩, fun c hc => ?_, fun c hc => ?_, ?_, fun c hc => ?_, fun c hc => ?_⟩
  · have hb : b ≠ a := fun z => by subst z; rw [O.cf _ m] at q; cases q
    rw [upd_ne hb]
    exact O.g.s b u q
  · have hba : b ≠ a := fun z => by
      subst z
      rcases ha with ha | ha
      · exact hb ha
      · have q' : Z.H b = some u := q
        have ha' : Z.H b = none := ha
        rw [ha'] at q'; cases q'
    rw [upd_ne hba]
    exact O.g.k b u hb q
  · by_cases hb : b = a
    · subst hb; rw [upd_same] at z; cases z
    · rw [upd_ne hb] at z; exact O.g.t b q z
  · by_cases hb : b = a
    · subst hb
      rw [upd_same] at q
      rw [Option.some.inj q] at hn
      cases hn
    · rw [upd_ne hb] at q; exact O.g.u b xs q
  · rcases nd_other O.nd e hc with rfl | ⟨h1, _⟩
    · exact O.cf (a, o) m
    · exact O.cf c h1
  · rcases nd_other O.nd e hc with rfl | ⟨h1, h2⟩
    · exact upd_same
    · rw [upd_ne h2]; exact O.ch c h1
  · rw [map_set_fst e]; exact O.nd
  · rcases nd_other O.nd e hc with rfl | ⟨h1, _⟩
    · exact ha
    · exact O.ca c h1
  · rcases nd_other O.nd e hc with rfl | ⟨h1, _⟩
    · exact hn
    · exact O.nt c h1
theorem mem_erase {i : Nat} {c : Addr × HO} (h : c ∈ cs.eraseIdx i) : c ∈ cs := List.mem_of_mem_eraseIdx h
theorem nd_erase {i : Nat} (h : (cs.map (·.1)).Nodup) : ((cs.eraseIdx i).map (·.1)).Nodup := by
  exact h.sublist ((List.eraseIdx_sublist cs i).map (fun x => x.1))
/-- a cell that nobody changes any more (it was not there at the entry) -/
theorem Ow.frz (O : Ow Z F cs H) (i : Nat) (e : cs[i]? = some (a, o)) (hz : Z.H a = none) : Ow Z (upd F a o) (cs.eraseIdx i) H := by
  have m := List.mem_of_getElem? e
  have h1 : ∀ c ∈ cs.eraseIdx i, c.1 ≠ a := fun c hc z => by
    have nd := O.nd
    obtain ⟨hi, e'⟩ := List.getElem?_eq_some_iff.mp e
    obtain ⟨j, hj⟩ := List.mem_iff_getElem?.mp hc
    rw [List.getElem?_eraseIdx] at hj
    have h1 : (cs.map (·.1))[i]? = some a := by rw [List.getElem?_map, e]; rfl
    by_cases hji : j < i
    · rw [if_pos hji] at hj
      have h2 : (cs.map (·.1))[j]? = some a := by rw [List.getElem?_map, hj, ← z]; rfl
      have := nd_ix nd h1 h2
      omega
    · rw [if_neg hji] at hj
      have h2 : (cs.map (·.1))[j + 1]? = some a := by rw [List.getElem?_map, hj, ← z]; rfl
      have := nd_ix nd h1 h2
      omega
  refine ⟨⟨O.g.f.trans (Same.new (O.cf _ m)), fun b u q => ?_, O.g.k, O.g.t, fun b q => ?_, O.g.u⟩, fun c hc => ?_, fun c hc => O.ch c (mem_erase hc), nd_erase O.nd, fun c hc => O.ca c (mem_erase hc), fun c hc => O.nt c (mem_erase hc)⟩
  · by_cases hb : b = a
    · subst hb; rw [upd_same] at q; rw [← q]; exact O.ch _ m
    · rw [upd_ne hb] at q; exact O.g.s b u q
  · have hb : b ≠ a := fun z => by subst z; exact q hz
    rw [upd_ne hb]
    exact O.g.n b q
  · rw [upd_ne (h1 c hc)]; exact O.cf c (mem_erase hc)
theorem Ow.drop (O : Ow Z F cs H) (i : Nat) : Ow Z F (cs.eraseIdx i) H := ⟨O.g, fun c hc => O.cf c (mem_erase hc), fun c hc => O.ch c (mem_erase hc), nd_erase O.nd, fun c hc => O.ca c (mem_erase hc), fun c hc => O.nt c (mem_erase hc)⟩
theorem Ow.frzS (O : Ow Z F cs H) (i : Nat) (e : cs[i]? = some (a, o)) : Same F (upd F a o) := Same.new (O.cf _ (List.mem_of_getElem? e))
theorem Ow.putS (O : Ow Z F cs H) (h : H p = none) : Same F (upd F p o) := Same.new (O.no h)
theorem Gr.then {as : List Addr} (g0 : Gr Z.as Z.F Z.H F H) (g : Gr as F H F' H') (ha : ∀ b ∈ as, b ∈ Z.as ∨ Z.H b = none) : Gr Z.as Z.F Z.H F' H' where
  f := g0.f.trans g.f
  s := g.s
  k := fun b u hb e => by
    refine g.k b u (fun z => ?_) (g0.k b u hb e)
    rcases ha b z with h | h
    · exact hb h
    · rw [h] at e; cases e
  t := fun b e => g.t b (g0.t b e)
  n := fun b e => by
    rcases g0.n b e with h0 | h0
    · rcases g.n b (g0.t b e) with h1 | ⟨xs, hx⟩
      · exact .inl (h1.trans h0)
      · rcases g0.u b xs hx with z | z
        · exact absurd z e
        · exact .inr ⟨xs, z⟩
    · exact .inr h0
  u := fun b xs e => by
    rcases g.u b xs e with z | z
    · refine .inl ?_
      cases q : Z.H b with
      | none => rfl
      | some u => exact absurd z (g0.t b (by rw [q]; simp))
    · exact g0.u b xs z
theorem Gr.none {as : List Addr} (g : Gr as F H F' H') {c : Addr × HO} (h : H c.1 = some c.2) (hn : noTup c.2 = true) (hf : F c.1 = Option.none) : F' c.1 = Option.none := by
  rcases g.n c.1 (by rw [h]; simp) with z | ⟨xs, z⟩
  · exact z.trans hf
  · rw [h] at z
    rw [Option.some.inj z] at hn
    cases hn
/-- behind a call that changes none of our cells -/
theorem Ow.call0 (O : Ow Z F cs H) (g : Gr [] F H F' H') : Ow Z F' cs H' where
  g := O.g.then g (fun _ h => nomatch h)
  cf := fun c hc => g.none (O.ch c hc) (O.nt c hc) (O.cf c hc)
  ch := fun c hc => g.k _ _ (fun h => nomatch h) (O.ch c hc)
  nd := O.nd
  ca := O.ca
  nt := O.nt
/-- .. one -/
theorem Ow.call1 (O : Ow Z F cs H) (g : Gr [a] F H F' H') (i : Nat) (e : cs[i]? = some (a, o)) (h' : H' a = some o') (hn : noTup o' = true := by rfl) : Ow Z F' (cs.set i (a, o')) H' := by
  have m := List.mem_of_getElem? e
  refine ⟨O.g.then g (fun b hb => by rw [List.mem_singleton.mp hb]; exact O.ca _ m), fun c hc => ?_, fun c hc => ?_, by rw [map_set_fst e]; exact O.nd, fun c hc => ?_, fun c hc => ?_⟩
  · rcases nd_other O.nd e hc with rfl | ⟨h1, _⟩
    · exact g.none (c := (a, o)) (O.ch (a, o) m) (O.nt (a, o) m) (O.cf (a, o) m)
    · exact g.none (O.ch c h1) (O.nt c h1) (O.cf c h1)
  · rcases nd_other O.nd e hc with rfl | ⟨h1, h2⟩
    · exact h'
    · exact g.k _ _ (fun z => h2 (List.mem_singleton.mp z)) (O.ch c h1)
  · rcases nd_other O.nd e hc with rfl | ⟨h1, _⟩
    · exact O.ca (a, o) m
    · exact O.ca c h1
  · rcases nd_other O.nd e hc with rfl | ⟨h1, _⟩
    · exact hn
    · exact O.nt c h1
/-- a cell that a call made -/
theorem Ow.add {H0 : Hp} {F0 : Hp} (O : Ow Z F cs H) (O0 : Ow Z F0 cs' H0) (hk : ∀ c ∈ cs, c.1 ∈ cs'.map (·.1)) (hn : H0 p = none) (hf : F p = none) (h : H p = some o) (ht : noTup o = true := by rfl) : Ow Z F ((p, o) :: cs) H where
  g := O.g
  cf := fun c hc => by
    rcases List.mem_cons.mp hc with rfl | hc
    · exact hf
    · exact O.cf c hc
  ch := fun c hc => by
    rcases List.mem_cons.mp hc with rfl | hc
    · exact h
    · exact O.ch c hc
  nd := by
    rw [List.map_cons, List.nodup_cons]
    refine ⟨fun hm => ?_, O.nd⟩
    obtain ⟨c, hc, e⟩ := List.mem_map.mp hm
    obtain ⟨c', hc', e'⟩ := List.mem_map.mp (hk c hc)
    have z := O0.ch c' hc'
    rw [e', e] at z
    rw [z] at hn
    cases hn
  ca := fun c hc => by
    rcases List.mem_cons.mp hc with rfl | hc
    · refine .inr ?_
      cases q : Z.H p with
      | none => rfl
      | some u => exact absurd hn (O0.g.t p (by rw [q]; simp))
    · exact O.ca c hc
  nt := fun c hc => by
    rcases List.mem_cons.mp hc with rfl | hc
    · exact ht
    · exact O.nt c hc
theorem Ow.kp (O : Ow Z F cs H) : Kp Z.as Z.H H := ⟨O.g.k, O.g.t⟩
theorem Kp.of {as : List Addr} {H0 H1 : Hp} (g : Gr as F H0 F' H1) : Kp as H0 H1 := ⟨g.k, g.t⟩
/-- an error of a call leaves this def -/
theorem Ow.kpCall {as : List Addr} {H1 : Hp} (O : Ow Z F cs H) (k : Kp as H H1) (ha : ∀ b ∈ as, ∃ o, (b, o) ∈ cs) : Kp Z.as Z.H H1 where
  k := fun b u hb e => by
    refine k.k b u (fun z => ?_) (O.g.k b u hb e)
    obtain ⟨o, hc⟩ := ha b z
    rcases O.ca _ hc with h | h
    · exact hb h
    · have h' : Z.H b = none := h
      rw [h'] at e; cases e
  t := fun b e => k.t b (O.g.t b e)
theorem Ow.kp0 {H1 : Hp} (O : Ow Z F cs H) (k : Kp [] H H1) : Kp Z.as Z.H H1 := O.kpCall k fun _ h => nomatch h
theorem Ow.kp1 {H1 : Hp} (O : Ow Z F cs H) (k : Kp [a] H H1) (i : Nat) (e : cs[i]? = some (a, o)) : Kp Z.as Z.H H1 := O.kpCall k fun b hb => by
  rw [List.mem_singleton.mp hb]
  exact ⟨o, List.mem_of_getElem? e⟩
end
end PG

set_option Elab.async false
set_option linter.all false
set_option maxRecDepth 100000
set_option maxHeartbeats 4000000
namespace PG
open PySem L2
open PySem.W (T3 T4 Datum DatumOrd Holds HoldAll EachIs)
/-! ### rules over typed data -/
section
variable {X : Cx} {pins : List (Addr × Obj)} {σ : St} {H : Hp} {s : Shared} {v : V} {u : Value} {vs : List V} {us : List Value}
theorem R.holds {a : Type} [Py a] [DecidableEq a] [Datum a] [IsD a] {x : a} (I : Inv X pins σ H s) (h : R H v x) (r : RelV v u) : Holds s.heap u x := by
  obtain ⟨as, q⟩ := Dp.reads I _ _ _ (Rep.dp _ _ h) r
  rw [IsD.eq] at q
  exact ⟨as, q⟩
theorem RL.holds {a : Type} [Py a] [DecidableEq a] [Datum a] [IsD a] {xs : List a} (I : Inv X pins σ H s) (h : RL H vs xs) (r : Vals vs us) : HoldAll s.heap us xs := by
  obtain ⟨as, q⟩ := Dp.readsAll I _ _ _ (RepA.dp _ _ h) r
  rw [map_toD] at q
  exact ⟨as, q⟩
end
section
variable {X : Cx} (a : Type) [Py a] [DecidableEq a] [Datum a] [IsD a]
def rEqT : R2 := fun x y H Q => ∃ p q : a, R H x p ∧ R H y q ∧ Q (.bl (decide (p = q))) H
def rNeT : R2 := fun x y H Q => ∃ p q : a, R H x p ∧ R H y q ∧ Q (.bl (decide (p ≠ q))) H
theorem op_eqT (hu : X.A.units + 64 < cLine) (hd : Datum.depth a ≤ 64 := by decide) : OpR X (compareOp .Eq) (rEqT a) := by
  intro pins s σ H x y v u Q I rx ry h
  obtain ⟨p, q, hp, hq, k⟩ := h
  exact PySem.W.eq_datum (hp.holds I rx) (hq.holds I ry) (by omega) ⟨.bl _, H, I, rfl, k⟩
theorem op_neT (hu : X.A.units + 64 < cLine) (hd : Datum.depth a ≤ 64 := by decide) : OpR X (compareOp .NotEq) (rNeT a) := by
  intro pins s σ H x y v u Q I rx ry h
  obtain ⟨p, q, hp, hq, k⟩ := h
  exact PySem.W.ne_datum (hp.holds I rx) (hq.holds I ry) (by omega) ⟨.bl _, H, I, rfl, k⟩
def rInT (neg : Bool) : R2 := fun x y H Q => ∃ (p : a) (l : Addr) (vs : List V) (ys : List a), R H x p ∧ y = .ref l ∧ (H l = some (.lst vs) ∨ H l = some (.tup vs)) ∧ RL H vs ys ∧ Q (.bl (if neg then decide (p ∉ ys) else decide (p ∈ ys))) H
end
section
variable {X : Cx} (a : Type) [Py a] [DecidableEq a] [Datum a] [IsD a]
theorem op_inT (hu : X.A.units + 64 < cLine) (hd : Datum.depth a ≤ 60 := by decide) : OpR X (compareOp .In) (rInT a false) := by
  intro pins s σ H x y v u Q I rx ry h
  obtain ⟨p, l, vs, ys, hp, rfl, hl, hy, k⟩ := h
  cases ry
  rcases hl with hl | hl
  · obtain ⟨its, rv, hL, _⟩ := I.list (SqL.of (K := X.K) hl)
    exact PySem.W.in_list_datum hL.isList (by simpa using hy.holds I rv) (hp.holds I rx) (by omega) ⟨.bl _, H, I, rfl, k⟩
  · obtain ⟨its, rv, hL, _⟩ := I.tuple (SqT.of (K := X.K) hl)
    exact PySem.W.in_tuple_datum (show s.heap.IsTuple l its.toArray from hL) (by simpa using hy.holds I rv) (hp.holds I rx) (by omega) ⟨.bl _, H, I, rfl, k⟩
theorem op_ninT (hu : X.A.units + 64 < cLine) (hd : Datum.depth a ≤ 60 := by decide) : OpR X (compareOp .NotIn) (rInT a true) := by
  intro pins s σ H x y v u Q I rx ry h
  obtain ⟨p, l, vs, ys, hp, rfl, hl, hy, k⟩ := h
  cases ry
  rcases hl with hl | hl
  · obtain ⟨its, rv, hL, _⟩ := I.list (SqL.of (K := X.K) hl)
    exact PySem.W.notIn_list_datum hL.isList (by simpa using hy.holds I rv) (hp.holds I rx) (by omega) ⟨.bl _, H, I, rfl, k⟩
  · obtain ⟨its, rv, hL, _⟩ := I.tuple (SqT.of (K := X.K) hl)
    exact PySem.W.notIn_tuple_datum (show s.heap.IsTuple l its.toArray from hL) (by simpa using hy.holds I rv) (hp.holds I rx) (by omega) ⟨.bl _, H, I, rfl, k⟩
end

/-! ### sorted -/
/-- how data may be sorted: all are tuples with an item, or none is a tuple or None -/
class SortB (a : Type) [DecidableEq a] [Datum a] : Prop where
  ok : (∀ x : a, ∃ d r, Datum.toD x = .tuple (d :: r)) ∨ ∀ x : a, Datum.toD x ≠ .none ∧ ∀ ds, Datum.toD x ≠ .tuple ds
instance : SortB Int := ⟨.inr fun x => ⟨(fun e => nomatch (show PyData.int x = .none from e)), fun ds e => nomatch (show PyData.int x = .tuple ds from e)⟩⟩
instance : SortB Str := ⟨.inr fun x => ⟨(fun e => nomatch (show PyData.str x = .none from e)), fun ds e => nomatch (show PyData.str x = .tuple ds from e)⟩⟩
section
variable {a b c : Type} [DecidableEq a] [Datum a] [DecidableEq b] [Datum b] [DecidableEq c] [Datum c]
instance : SortB (List a) := ⟨.inr fun x => ⟨(fun e => nomatch (show PyData.list _ = .none from e)), fun ds e => nomatch (show PyData.list _ = .tuple ds from e)⟩⟩
instance : SortB (a × b) := ⟨.inl fun x => ⟨_, _, rfl⟩⟩
instance : SortB (T3 a b c) := ⟨.inl fun x => ⟨_, _, rfl⟩⟩
end
/-- Python's order -/
def leT {a : Type} [DecidableEq a] [DatumOrd a] (x y : a) : Bool := !DatumOrd.lt y x
def sortT {a : Type} [DecidableEq a] [DatumOrd a] (xs : List a) : List a := xs.mergeSort leT
theorem dataLe_T {a β : Type} [DecidableEq a] [DatumOrd a] (f : β → a) : PySem.W.dataLe false (fun b => Datum.toD (f b)) = fun x y => leT (f x) (f y) := by
  funext x y
  rw [PySem.W.dataLe_eq]
  show (!PySem.W.dataLt (Datum.toD (f y)) (Datum.toD (f x))) = _
  rw [DatumOrd.lt_eq]
  rfl
section
variable {a : Type} [Py a] [DecidableEq a] [DatumOrd a] [IsD a] {H : Hp}
theorem each_pairs : ∀ {vs : List V} {xs : List a} {us : List Value}, RL H vs xs → Vals vs us → EachIs (fun (u : Value) (p : V × a) => RelV p.1 u ∧ R H p.1 p.2) us (vs.zip xs)
  | _, [], _, h, r => by
    rw [RL.nil_ h] at r ⊢
    cases r
    exact .nil
  | _, x :: xs, _, h, r => by
    obtain ⟨w, ws, rfl, h1, h2⟩ := RL.cons_ h
    cases r with
    | cons r1 r2 => exact .cons ⟨r1, h1⟩ (each_pairs h2 r2)
theorem pairs_vals : ∀ {ps : List (V × a)} {us : List Value}, EachIs (fun (u : Value) (p : V × a) => RelV p.1 u ∧ R H p.1 p.2) us ps → Vals (ps.map (·.1)) us ∧ RL H (ps.map (·.1)) (ps.map (·.2))
  | _, _, .nil => ⟨.nil, RL.nil⟩
  | _, _, .cons ⟨r1, h1⟩ t => ⟨.cons r1 (pairs_vals t).1, RL.cons h1 (pairs_vals t).2⟩
theorem each_imp {β γ : Type} {A B : β → γ → Prop} (f : ∀ x y, A x y → B x y) : ∀ {xs : List β} {ys : List γ}, EachIs A xs ys → EachIs B xs ys
  | _, _, .nil => .nil
  | _, _, .cons h t => .cons (f _ _ h) (each_imp f t)
theorem zip_snd : ∀ {vs : List V} {xs : List a}, vs.length = xs.length → (vs.zip xs).map (·.2) = xs
  | [], [], _ => rfl
  | v :: vs, x :: xs, h => by
    rw [List.zip_cons_cons, List.map_cons, zip_snd (by simpa using h)]
  | [], _ :: _, h => by simp at h
  | _ :: _, [], h => by simp at h
theorem sort_zip {vs : List V} {xs : List a} (h : vs.length = xs.length) : ((vs.zip xs).mergeSort fun p q => leT p.2 q.2).map (·.2) = sortT xs := by
  unfold sortT
  rw [List.map_mergeSort (s := leT) (fun _ _ _ _ => rfl), zip_snd h]
end
section
variable {a : Type} [Py a] [DecidableEq a] [DatumOrd a] [IsD a] {H : Hp}
def sortV (ws : List V) (xs : List a) : List V := ((ws.zip xs).mergeSort fun p q => leT p.2 q.2).map (·.1)
theorem RL.pairs : ∀ {ws : List V} {xs : List a}, RL H ws xs → ∀ p ∈ ws.zip xs, R H p.1 p.2
  | _, [], _, p, hp => by simp at hp
  | _, x :: xs, h, p, hp => by
    obtain ⟨w, ws, rfl, h1, h2⟩ := RL.cons_ h
    rw [List.zip_cons_cons] at hp
    rcases List.mem_cons.mp hp with rfl | hp
    · exact h1
    · exact RL.pairs h2 p hp
theorem RL.of_pairs : ∀ {ps : List (V × a)}, (∀ p ∈ ps, R H p.1 p.2) → RL H (ps.map (·.1)) (ps.map (·.2))
  | [], _ => RL.nil
  | p :: ps, h => RL.cons (h p List.mem_cons_self) (RL.of_pairs fun q hq => h q (List.mem_cons_of_mem _ hq))
theorem RL.sorted {ws : List V} {xs : List a} (h : RL H ws xs) : RL H (sortV ws xs) (sortT xs) := by
  have q : RL H (sortV ws xs) (((ws.zip xs).mergeSort fun p q => leT p.2 q.2).map (·.2)) := RL.of_pairs fun p hp => h.pairs p (List.mem_mergeSort.mp hp)
  rw [sort_zip h.len] at q
  exact q
end
section
variable {X : Cx} (a : Type) [Py a] [DecidableEq a] [DatumOrd a] [IsD a]
/-- sorted(xs) of a list: a new list -/
def rSortedT : List V → Hp → VK → Prop := fun vs H Q => ∃ (l : Addr) (ws : List V) (xs : List a), vs = [.ref l] ∧ H l = some (.lst ws) ∧ RL H ws xs ∧ ∀ (p : Addr), H p = none → Q (.ref p) (upd H p (.lst (sortV ws xs)))
theorem cr_sortedT [SortB a] (hu : X.A.units + 128 < cLine) (hd : Datum.depth a ≤ 100 := by decide) : CallR X (.builtin "sorted") (rSortedT a) := by
  intro pins s σ H vs us Q I r h
  obtain ⟨l, ws, xs, rfl, hl, hx, k⟩ := h
  obtain ⟨its, rv, hL, hz⟩ := I.list (SqL.of (K := X.K) hl)
  rw [Vals.ref1 r]
  have hlen : ws.length = xs.length := hx.len
  have hE := each_pairs hx rv
  refine PySem.W.sorted_data (bs := ws.zip xs) (enc := fun p => Datum.toD p.2) hL.isList hE (each_imp (fun u p hp => hp.2.holds I hp.1) hE) (PySem.W.AllAlike.of fun p q => DatumOrd.alike p.2 q.2) ?_ (by rw [List.length_zip, ← hlen, Nat.min_self]; exact hz) (fun p _ => ?_) fun out ho he => ?_
  · rcases SortB.ok (a := a) with q | q
    · exact PySem.W.Sortable.tuples fun p => q p.2
    · exact PySem.W.Sortable.others fun p => q p.2
  · have := Datum.depth_le p.2
    omega
  · rw [dataLe_T (fun p : V × a => p.2)] at he
    obtain ⟨q1, q2⟩ := pairs_vals he
    obtain ⟨ep, he'⟩ := PyProof.Rows.sortedAll_at s.heap its out.toArray
    refine ⟨.ref _, upd H (s.heap.objs.size + 1) (.lst _), I.laid (t' := s.toks) (fun _ _ => PyProof.Rows.sortedAll_old) (Nat.le_succ _) ⟨?_, out, ep, q1, he'⟩, rfl, k _ (I.hok.fresh (Nat.le_succ _))⟩
    rw [List.length_map, List.length_mergeSort, List.length_zip, ← hlen, Nat.min_self]
    exact hz
end
end PG

set_option Elab.async false
set_option linter.all false
set_option maxRecDepth 100000
set_option maxHeartbeats 4000000
namespace PG
open PySem PySem.Spec PyProof.Rows L2
open PySem.W (T3 T4 Datum DatumOrd Holds HoldAll EachIs)

instance (i j : Int) : Decidable (CMulW i j) := inferInstanceAs (Decidable (_ < _))
instance (i j : Int) : Decidable (CDivW i j) := inferInstanceAs (Decidable (_ ∧ _))
instance (i j : Int) : Decidable (CPow i j) := inferInstanceAs (Decidable (_ ∧ _ ∧ _))
theorem szl : sizeLine = 16777216 := sizeLine_eq
theorem lt_line {n : Nat} (h : n < 16777216) : n < sizeLine := by rw [szl]; exact h
theorem le_line {n : Nat} (h : n < 16777216) : n ≤ sizeLine := Nat.le_of_lt (lt_line h)
theorem len_line {vs : List V} (h : vs.length < 16777216 := by (show _ < 16777216); simp) : vs.length ≤ sizeLine := le_line h
theorem SqLF {K : PySem.W.Frag} {F H : Hp} {p : Addr} {vs : List V} (s : Same F H) (h : F p = some (.lst vs)) : SqL K H p vs := SqL.of (s _ _ h)
theorem SqTF {K : PySem.W.Frag} {F H : Hp} {p : Addr} {vs : List V} (s : Same F H) (h : F p = some (.tup vs)) : SqT K H p vs := SqT.of (s _ _ h)

/-! ### mirrors of what may go wrong -/
def setI {a : Type} (xs : List a) (i : Int) (y : a) : M (List a) := match ixN xs.length i with
  | some j => .ok (xs.set j y)
  | none => bad
def popI {a : Type} (xs : List a) (i : Int) : M (a × List a) := if xs.length < 16777216 then (match ixN xs.length i with
    | some j => (match xs[j]? with
      | some y => .ok (y, xs.eraseIdx j)
      | none => bad)
    | none => bad) else bad
def popL {a : Type} (xs : List a) : M (a × List a) := match xs[xs.length - 1]? with
  | some y => .ok (y, xs.dropLast)
  | none => bad
def appL {a : Type} (xs : List a) (y : a) : M (List a) := if xs.length < 16777216 then .ok (xs ++ [y]) else bad
def rangeL (lo hi : Int) : List Int := (List.range (hi - lo).toNat).map fun (i : Nat) => lo + (i : Int)
def okR (i : Int) : Prop := -1000000 ≤ i ∧ i ≤ 1000000
instance (i : Int) : Decidable (okR i) := inferInstanceAs (Decidable (_ ∧ _))
theorem okR.lo {i : Int} (h : okR i) : -(2 ^ 62) ≤ i := by obtain ⟨a, b⟩ := h; omega
theorem okR.hi {i : Int} (h : okR i) : i < 2 ^ 62 := by obtain ⟨a, b⟩ := h; omega
theorem rangeL_get {lo hi : Int} {i : Nat} (h : i < (hi - lo).toNat) : (rangeL lo hi).drop i = (lo + (i : Int)) :: (rangeL lo hi).drop (i + 1) := by
  unfold rangeL
  rw [List.drop_eq_getElem_cons (by simpa using h)]
  simp
theorem rangeL_end {lo hi : Int} : (rangeL lo hi).drop (hi - lo).toNat = [] := by
  rw [List.drop_eq_nil_iff]
  unfold rangeL
  simp
section
variable {a b : Type} {Q : a → Prop} {E : String → Prop} {H : Hp}
theorem wp_setI {xs : List b} {i : Int} {y : b} {k : List b → M a} (h : wp (setI xs i y >>= k) Q E) : ∃ j, ixN xs.length i = some j ∧ wp (k (xs.set j y)) Q E := by
  unfold setI at h
  cases e : ixN xs.length i with
  | none => rw [e] at h; exact h.elim
  | some j => rw [e] at h; exact ⟨j, rfl, h⟩
theorem wp_popI {xs : List b} {i : Int} {k : b × List b → M a} (h : wp (popI xs i >>= k) Q E) : ∃ j y, seqIndex? i xs.length = some j ∧ -(2 ^ 63) ≤ i ∧ i < 2 ^ 63 ∧ xs[j]? = some y ∧ wp (k (y, xs.eraseIdx j)) Q E := by
  unfold popI at h
  by_cases hl : xs.length < 16777216
  · rw [if_pos hl] at h
    cases e : ixN xs.length i with
    | none => rw [e] at h; exact h.elim
    | some j =>
      rw [e] at h
      have h : wp ((match xs[j]? with
        | some y => .ok (y, xs.eraseIdx j)
        | none => bad) >>= k) Q E := h
      cases e2 : xs[j]? with
      | none => rw [e2] at h; exact h.elim
      | some y =>
        rw [e2] at h
        obtain ⟨q1, q2, q3, q4⟩ := ixN_seq e
        exact ⟨j, y, q1, by omega, by omega, e2, h⟩
  · rw [if_neg hl] at h
    exact h.elim
theorem wp_popL {xs : List b} {k : b × List b → M a} (h : wp (popL xs >>= k) Q E) : ∃ y, xs[xs.length - 1]? = some y ∧ wp (k (y, xs.dropLast)) Q E := by
  unfold popL at h
  cases e : xs[xs.length - 1]? with
  | none => rw [e] at h; exact h.elim
  | some y => rw [e] at h; exact ⟨y, rfl, h⟩
theorem wp_appL {xs : List b} {y : b} {k : List b → M a} (h : wp (appL xs y >>= k) Q E) : xs.length < sizeLine ∧ wp (k (xs ++ [y])) Q E := by
  unfold appL at h
  by_cases hl : xs.length < 16777216
  · rw [if_pos hl] at h
    exact ⟨lt_line hl, h⟩
  · rw [if_neg hl] at h
    exact h.elim
end
/-! loops, by what is left to be done -/
section
variable {i s r a c : Type} {Q : a → Prop} {E : String → Prop}
theorem loopN_L {b : i → s → M s} {xs : List i} {x : s} {k : s → M a} (h : wp (loopN b xs x >>= k) Q E) :
    ∃ L : List i → s → Prop, L xs x ∧ (∀ y ys x, L (y :: ys) x → wp (b y x) (fun x' => L ys x') E) ∧ ∀ x, L [] x → wp (k x) Q E := by
  refine ⟨fun ys x => wp (loopN b ys x >>= k) Q E, h, fun y ys x hx => ?_, fun x hx => hx⟩
  have hx : wp (loopN b (y :: ys) x >>= k) Q E := hx
  rw [wp_bind] at hx
  have hx : wp (b y x >>= fun x' => loopN b ys x') (fun x => wp (k x) Q E) E := hx
  rw [wp_bind] at hx
  cases e : b y x with
  | ok z =>
    rw [e] at hx
    exact wp_bind.mpr hx
  | error e2 =>
    rw [e] at hx
    cases e2 <;> exact hx
theorem loopM_L {b : i → s → M (Fl s r)} {xs : List i} {x : s} {k : Fl s r → M a} (h : wp (loopM b xs x >>= k) Q E) :
    ∃ L : List i → s → Prop, L xs x ∧ (∀ y ys x, L (y :: ys) x → wp (b y x) (fun f => match f with
      | .nx x' => L ys x'
      | .rt z => wp (k (.rt z)) Q E) E) ∧ ∀ x, L [] x → wp (k (.nx x)) Q E := by
  refine ⟨fun ys x => wp (loopM b ys x >>= k) Q E, h, fun y ys x hx => ?_, fun x hx => hx⟩
  have hx : wp (loopM b (y :: ys) x >>= k) Q E := hx
  rw [wp_bind] at hx
  cases e : b y x with
  | ok z =>
    have hx : wp (b y x >>= fun f => match f with
      | .nx x' => loopM b ys x'
      | .rt z => .ok (.rt z)) (fun x => wp (k x) Q E) E := hx
    rw [e] at hx
    cases z with
    | nx z => exact wp_bind.mpr hx
    | rt z => exact hx
  | error e2 =>
    have hx : wp (b y x >>= fun f => match f with
      | .nx x' => loopM b ys x'
      | .rt z => .ok (.rt z)) (fun x => wp (k x) Q E) E := hx
    rw [e] at hx
    cases e2 <;> exact hx
theorem whileN_L {c : s → M Bool} {b : s → M s} {n : Nat} {x : s} {k : s → M a} (h : wp (whileN c b n x >>= k) Q E) :
    ∃ L : Nat → s → Prop, L n x ∧ ∀ m x, L m x → wp (c x) (fun t => if t = true then ∃ m', m' < m ∧ wp (b x) (fun x' => L m' x') E else wp (k x) Q E) E := by
  refine ⟨fun n x => wp (whileN c b n x >>= k) Q E, h, fun m x hx => ?_⟩
  cases m with
  | zero => exact hx.elim
  | succ m =>
    have hx : wp ((c x >>= fun t => if t = true then b x >>= fun x' => whileN c b m x' else .ok x) >>= k) Q E := hx
    rw [wp_bind, wp_bind] at hx
    cases e : c x with
    | error e2 => rw [e] at hx; cases e2 <;> exact hx
    | ok t =>
      rw [e] at hx
      cases t with
      | false => exact hx
      | true =>
        refine ⟨m, Nat.lt_succ_self m, ?_⟩
        have hx : wp (b x >>= fun x' => whileN c b m x') (fun x => wp (k x) Q E) E := hx
        rw [wp_bind] at hx
        cases e : b x with
        | error e2 => rw [e] at hx; cases e2 <;> exact hx
        | ok z =>
          rw [e] at hx
          exact wp_bind.mpr hx
theorem whileM_L {c : s → M Bool} {b : s → M (Fl s r)} {n : Nat} {x : s} {k : Fl s r → M a} (h : wp (whileM c b n x >>= k) Q E) :
    ∃ L : Nat → s → Prop, L n x ∧ ∀ m x, L m x → wp (c x) (fun t => if t = true then ∃ m', m' < m ∧ wp (b x) (fun f => match f with
      | .nx x' => L m' x'
      | .rt z => wp (k (.rt z)) Q E) E else wp (k (.nx x)) Q E) E := by
  refine ⟨fun n x => wp (whileM c b n x >>= k) Q E, h, fun m x hx => ?_⟩
  cases m with
  | zero => exact hx.elim
  | succ m =>
    have hx : wp ((c x >>= fun t => if t = true then b x >>= fun
      | .nx x' => whileM c b m x'
      | .rt z => .ok (.rt z)
    else .ok (.nx x)) >>= k) Q E := hx
    rw [wp_bind, wp_bind] at hx
    cases e : c x with
    | error e2 => rw [e] at hx; cases e2 <;> exact hx
    | ok t =>
      rw [e] at hx
      cases t with
      | false => exact hx
      | true =>
        refine ⟨m, Nat.lt_succ_self m, ?_⟩
        have hx : wp (b x >>= fun
          | .nx x' => whileM c b m x'
          | .rt z => .ok (.rt z)) (fun x => wp (k x) Q E) E := hx
        rw [wp_bind] at hx
        cases e : b x with
        | error e2 => rw [e] at hx; cases e2 <;> exact hx
        | ok z =>
          rw [e] at hx
          cases z with
          | nx z => exact wp_bind.mpr hx
          | rt z => exact hx
/-- a comprehension: what it has made so far, then the items left; no exception leaves it -/
def compX (b : i → s → M (Option c × s)) : List i → List c → s → M (List c × s)
  | [], acc, x => .ok (acc, x)
  | y :: ys, acc, x => nox (b y x) >>= fun p => compX b ys (match p.1 with
    | some z => acc ++ [z]
    | none => acc) p.2
/-- the list is short enough -/
def compS (b : i → s → M (Option c × s)) (xs : List i) (x : s) : M (List c × s) := chk (xs.length < 16777216) >>= fun _ => compX b xs [] x
theorem compX_L {b : i → s → M (Option c × s)} {k : List c × s → M a} : ∀ {xs : List i} {acc : List c} {x : s}, wp (compX b xs acc x >>= k) Q E →
    ∃ L : List i → List c → s → Prop, L xs acc x ∧ (∀ y ys acc x, L (y :: ys) acc x → wp (b y x) (fun p => L ys (match p.1 with
      | some z => acc ++ [z]
      | none => acc) p.2) (fun _ => False)) ∧ ∀ acc x, L [] acc x → wp (k (acc, x)) Q E := by
  intro xs acc x h
  refine ⟨fun ys acc x => wp (compX b ys acc x >>= k) Q E, h, fun y ys acc x hx => ?_, fun acc x hx => hx⟩
  have hx : wp ((nox (b y x) >>= fun p => compX b ys (match p.1 with
    | some z => acc ++ [z]
    | none => acc) p.2) >>= k) Q E := hx
  rw [wp_bind] at hx
  obtain ⟨p, e, hx⟩ := wp_nox hx
  rw [e]
  exact wp_bind.mpr hx
theorem compS_L {b : i → s → M (Option c × s)} {k : List c × s → M a} {xs : List i} {x : s} (h : wp (compS b xs x >>= k) Q E) : xs.length < 16777216 ∧
    ∃ L : List i → List c → s → Prop, L xs [] x ∧ (∀ y ys acc x, L (y :: ys) acc x → wp (b y x) (fun p => L ys (match p.1 with
      | some z => acc ++ [z]
      | none => acc) p.2) (fun _ => False)) ∧ ∀ acc x, L [] acc x → wp (k (acc, x)) Q E := by
  unfold compS at h
  rw [wp_bind] at h
  obtain ⟨h1, h2⟩ := wp_chk h
  exact ⟨h1, compX_L (wp_bind.mpr h2)⟩
end
theorem drop_at {a : Type} {xs : List a} {i : Nat} {x : a} (h : xs[i]? = some x) : xs.drop i = x :: xs.drop (i + 1) := by
  obtain ⟨h1, h2⟩ := List.getElem?_eq_some_iff.mp h
  rw [List.drop_eq_getElem_cons h1, h2]
theorem drop_end {a : Type} {xs : List a} {vs : List V} (h : vs.length = xs.length) : xs.drop vs.length = [] := by
  rw [h, List.drop_length]

/-! ### a def as it stands -/
structure Df (K : PySem.W.Frag) (mg : Str → Option Value) (x qual : Str) (st : Stmt) (ps : List Str) : Prop where
  ex : ∃ f fd, Fun K x qual st f fd ∧ mg x = some (.ref f) ∧ Binds K fd ps []
structure Ca (P : Program) (w : World) (K : PySem.W.Frag) (mg : Str → Option Value) (base : Heap) (x : Str) (k : Nat) (ps : List Str) (sp : Sp) : Prop where
  ex : ∃ f fd, FnOk P w K mg base (L2.CX P w) k f fd ps sp ∧ mg x = some (.ref f) ∧ PySem.W.keepIn K (.ref f) = true ∧ Binds K fd ps []
/-- an exception class of the program -/
structure Xc (K : PySem.W.Frag) (mg : Str → Option Value) (x : Str) (C : Addr) : Prop where
  g : mg x = some (.ref C)
  x : PySem.W.excIn K C [.type "ValueError", .type "Exception", .type "BaseException", .type "object"] "ValueError.__new__" = true
  k : PySem.W.keepIn K (.ref C) = true
  b : PySem.W.subIn K (.ref C) (.type "BaseException") = some true
  t : PySem.W.typeIn K (.ref C) = some (.type "type")
section
variable {P : Program} {w : World} {K : PySem.W.Frag} {mg : Str → Option Value} {base : Heap}
theorem Ca.mk' {x qual : Str} {st : Stmt} {N ps : List Str} {k : Nat} {sp : Sp} (D : Df K mg x qual st ps) (S : FnScope N ps (defScope st)) (len : ∀ vs H Q E, sp vs H Q E → vs.length = ps.length)
    (hbody : ∀ (qual' : Str) (f : Addr) (cdv : Value) (A : Around) (outer : List Env) (s : Shared) (H : Hp) (vs : List V) (Q : VK) (E : XK), Room k (A.deeper (envOfC qual (defScope st) s.heap.objs.size f cdv)) → sp vs H Q E →
      ∃ t, PSs (cxOf (L2.CX P w) P w K mg base N qual (defScope st) f cdv A outer s H E) (defBody st) t ∧ t { nx := fun _ H' => Q .non H', rt := Q } (start N vs) H) : Ca P w K mg base x (k + 1) ps sp := by
  obtain ⟨f, fd, F, m, b⟩ := D.ex
  exact ⟨f, fd, F.okX S len fun cdv A outer s H vs Q E hr h => hbody qual f cdv A outer s H vs Q E hr h, m, F.kp, b⟩
end
section
variable {X : Cx}
/-- len of a list or tuple -/
def rLenT : List V → Hp → VK → Prop := fun vs H Q => ∃ (l : Addr) (ws : List V) (n : Nat), vs = [.ref l] ∧ (H l = some (.lst ws) ∨ H l = some (.tup ws)) ∧ ws.length = n ∧ Q (.int n) H
theorem call_lenT : CallR X (.builtin "len") rLenT := by
  intro pins s σ H vs us Q I r h
  obtain ⟨l, ws, n, e, hl, rfl, k⟩ := h
  refine call_len_seq pins s σ H vs us Q I r ⟨l, ws, e, ?_, k⟩
  rcases hl with hl | hl
  · exact .inl (SqL.of hl)
  · exact .inr (SqT.of hl)
end

section
variable {Z : Ent} {F F' H H' : Hp} {cs : List (Addr × HO)} {p a : Addr} {o o' : HO}
theorem Ow.putE (O : Ow Z F cs H) (h : H p = none) (o : HO) : ∃ F', Ow Z F' cs (upd H p o) ∧ Same F F' ∧ F' p = some o := ⟨_, O.put h, O.putS h, upd_same⟩
theorem Ow.was (O : Ow Z F cs H) (h : H p = none) : Z.H p = none := by
  cases q : Z.H p with
  | none => rfl
  | some u => exact absurd h (O.g.t p (by rw [q]; simp))
theorem Ow.frzE (O : Ow Z F cs H) (i : Nat) (e : cs[i]? = some (a, o)) (hz : Z.H a = none) : ∃ F', Ow Z F' (cs.eraseIdx i) H ∧ Same F F' ∧ F' a = some o := ⟨_, O.frz i e hz, O.frzS i e, upd_same⟩
/-- a cell that a call made -/
theorem Ow.got (O : Ow Z F cs H) (O' : Ow Z F' cs' H') (hk : cs'.map (·.1) = cs.map (·.1)) (hn : H p = none) (hf : F' p = none) (h : H' p = some o) (ht : noTup o = true := by rfl) : Ow Z F' ((p, o) :: cs') H' :=
  O'.add O (fun c hc => by rw [← hk]; exact List.mem_map.mpr ⟨c, hc, rfl⟩) hn hf h ht
end
theorem rangeL_get0 {n : Int} {i : Nat} (h : i < n.toNat) : (rangeL 0 n).drop i = (0 + (i : Int)) :: (rangeL 0 n).drop (i + 1) := rangeL_get (by simpa using h)
theorem rangeL_end0 {n : Int} : (rangeL 0 n).drop n.toNat = [] := by
  have := rangeL_end (lo := 0) (hi := n)
  simpa using this
theorem iteD {c A B : Prop} [Decidable c] (h1 : c → A) (h2 : ¬ c → B) : if decide c = true then A else B := by
  by_cases h : c
  · rw [decide_eq_true h, if_pos rfl]; exact h1 h
  · rw [decide_eq_false h, if_neg Bool.false_ne_true]; exact h2 h
theorem iteN {c A B : Prop} [Decidable c] (h1 : c → B) (h2 : ¬ c → A) : if (!decide c) = true then A else B := by
  by_cases h : c
  · rw [decide_eq_true h]; exact h1 h
  · rw [decide_eq_false h]; exact h2 h
theorem iteB {b : Bool} {A B : Prop} (h1 : b = true → A) (h2 : ¬ b = true → B) : if b = true then A else B := by
  cases b with
  | true => exact h1 rfl
  | false => exact h2 Bool.false_ne_true
theorem iteBN {b : Bool} {A B : Prop} (h1 : b = true → B) (h2 : ¬ b = true → A) : if (!b) = true then A else B := by
  cases b with
  | true => exact h1 rfl
  | false => exact h2 Bool.false_ne_true
theorem iteNT {A B : Prop} (h : B) : if (!true) = true then A else B := h
theorem iteNF {A B : Prop} (h : A) : if (!false) = true then A else B := h
theorem wp_if {a : Type} {Q : a → Prop} {E : String → Prop} {c : Prop} [Decidable c] {x y : M a} (h : wp (if c then x else y) Q E) (hc : c) : wp x Q E := by
  rw [if_pos hc] at h
  exact h
theorem wp_el {a : Type} {Q : a → Prop} {E : String → Prop} {c : Prop} [Decidable c] {x y : M a} (h : wp (if c then x else y) Q E) (hc : ¬ c) : wp y Q E := by
  rw [if_neg hc] at h
  exact h

theorem hu128_of {A : Around} {k : Nat} (hr : Room k A) : A.units + 128 < cLine := by have := hr.un; omega
def cutL {a : Type} (xs : List a) (lo hi : Option Int) : List a := (xs.drop (HT.sIx xs.length 0 lo)).take (HT.sIx xs.length xs.length hi - HT.sIx xs.length 0 lo)
theorem RL.cutL {a : Type} [Py a] {H : Hp} {vs : List V} {xs : List a} (h : RL H vs xs) (lo hi : Option Int) : RL H (cutV vs lo hi) (PG.cutL xs lo hi) := h.cut lo hi
theorem RL.last {a : Type} [Py a] {H : Hp} {vs : List V} {xs : List a} {y : a} (h : RL H vs xs) (e : xs[xs.length - 1]? = some y) : ∃ w, vs[vs.length - 1]? = some w ∧ R H w y := by
  obtain ⟨w, e1, h1⟩ := h.get e
  exact ⟨w, by rw [h.len]; exact e1, h1⟩

theorem okR.rg1 {n : Int} (h : okR n) : RgOk 0 n := by
  obtain ⟨a, b⟩ := h
  exact ⟨by omega, by omega, by omega, by omega, by omega⟩
theorem rgV_eq (a b : Int) : rgV a b = (rangeL a b).map V.int := by
  unfold rgV rangeL
  rw [List.map_map]
  rfl
theorem RL.rg {H : Hp} {a b : Int} : RL H (rgV a b) (rangeL a b) := by
  rw [rgV_eq]
  exact RL.of_ints

theorem comp_len {b : Type} {w vs : List V} {xs : List b} {i : Nat} {x : V} (la : w.length ≤ i) (hi : vs[i]? = some x) (hl : vs.length = xs.length) (c : xs.length < 16777216) : w.length < sizeLine := by
  have := (List.getElem?_eq_some_iff.mp hi).1
  exact lt_line (by omega)
theorem rangeL_length (lo hi : Int) : (rangeL lo hi).length = (hi - lo).toNat := by
  unfold rangeL
  simp
theorem comp_lenR {w : List V} {lo hi : Int} {i n : Nat} (la : w.length ≤ i) (h : i < n) (e : (hi - lo).toNat = n) (c : (rangeL lo hi).length < 16777216) : w.length < sizeLine := by
  rw [rangeL_length] at c
  exact lt_line (by omega)
theorem tYes_ {σ : L2.St} {H : Hp} {Q : Bool → Hp → Prop} (h : Q true H) : tYes σ H Q := h

/-! lists of own lists of ints -/
abbrev LC := Addr × List Int
def lcell (c : LC) : Addr × HO := (c.1, .lst (c.2.map V.int))
theorem Ow.perm {Z : Ent} {F H : Hp} {cs cs' : List (Addr × HO)} (O : Ow Z F cs H) (h : cs.Perm cs') : Ow Z F cs' H where
  g := O.g
  cf := fun c hc => O.cf c (h.mem_iff.mpr hc)
  ch := fun c hc => O.ch c (h.mem_iff.mpr hc)
  nd := (h.map _).nodup_iff.mp O.nd
  ca := fun c hc => O.ca c (h.mem_iff.mpr hc)
  nt := fun c hc => O.nt c (h.mem_iff.mpr hc)
theorem Ow.sub {Z : Ent} {F H : Hp} {cs cs' : List (Addr × HO)} (O : Ow Z F cs H) (h : cs'.Sublist cs) : Ow Z F cs' H where
  g := O.g
  cf := fun c hc => O.cf c (h.subset hc)
  ch := fun c hc => O.ch c (h.subset hc)
  nd := O.nd.sublist (h.map _)
  ca := fun c hc => O.ca c (h.subset hc)
  nt := fun c hc => O.nt c (h.subset hc)
/-- a new list of new lists -/
structure OwnLL (H F' H' : Hp) (p : Addr) (ps : List LC) : Prop where
  pn : H p = none
  pf : F' p = none
  ph : H' p = some (.lst (ps.map fun c => V.ref c.1))
  qn : ∀ c ∈ ps, H c.1 = none
  qf : ∀ c ∈ ps, F' c.1 = none
  qh : ∀ c ∈ ps, H' c.1 = some (.lst (c.2.map V.int))
  nd : (p :: ps.map (·.1)).Nodup
theorem OwnLL.frz {F H F' H' : Hp} {p : Addr} {ps : List LC} {as : List Addr} (G : Gr as F H F' H') (L : OwnLL H F' H' p ps) :
    ∃ F2, Gr as F H F2 H' ∧ F2 p = none ∧ RL F2 (ps.map fun c => V.ref c.1) (ps.map (·.2)) := by
  refine ⟨fun b => if b ∈ ps.map (·.1) then H' b else F' b, ⟨fun b o e => ?_, fun b o e => ?_, G.k, G.t, fun b e => ?_, G.u⟩, ?_, ?_⟩
  · have h1 := G.f b o e
    by_cases hb : b ∈ ps.map (·.1)
    · obtain ⟨c, hc, rfl⟩ := List.mem_map.mp hb
      rw [L.qf c hc] at h1
      cases h1
    · show (if b ∈ ps.map (·.1) then H' b else F' b) = some o
      rw [if_neg hb]
      exact h1
  · have e : (if b ∈ ps.map (·.1) then H' b else F' b) = some o := e
    by_cases hb : b ∈ ps.map (·.1)
    · rw [if_pos hb] at e
      exact e
    · rw [if_neg hb] at e
      exact G.s b o e
  · show (if b ∈ ps.map (·.1) then H' b else F' b) = F b ∨ _
    have hb : b ∉ ps.map (·.1) := fun hb => by
      obtain ⟨c, hc, rfl⟩ := List.mem_map.mp hb
      exact e (L.qn c hc)
    rw [if_neg hb]
    exact G.n b e
  · show (if p ∈ ps.map (·.1) then H' p else F' p) = none
    rw [if_neg (List.nodup_cons.mp L.nd).1]
    exact L.pf
  · have all : ∀ l : List LC, (∀ c ∈ l, c ∈ ps) → RL (fun b => if b ∈ ps.map (·.1) then H' b else F' b) (l.map fun c => V.ref c.1) (l.map (·.2)) := by
      intro l
      induction l with
      | nil => intro _; exact RL.nil
      | cons c l ih =>
        intro h
        have hc := h c List.mem_cons_self
        refine RL.cons (R.lst (vs := c.2.map V.int) ?_ RL.of_ints) (ih fun d hd => h d (List.mem_cons_of_mem _ hd))
        show (if c.1 ∈ ps.map (·.1) then H' c.1 else F' c.1) = _
        rw [if_pos (List.mem_map.mpr ⟨c, hc, rfl⟩)]
        exact L.qh c hc
    exact all ps fun _ h => h
theorem FnOk.impC {P : Program} {w : World} {K : PySem.W.Frag} {mg : Str → Option Value} {base : Heap} {x : Str} {k : Nat} {ps : List Str} {sp sp' : Sp} (F : Ca P w K mg base x k ps sp) (h : ∀ vs H Q E, sp' vs H Q E → sp vs H Q E) : Ca P w K mg base x k ps sp' := by
  obtain ⟨f, fd, G, m, kp, b⟩ := F.ex
  exact ⟨f, fd, G.imp h, m, kp, b⟩
theorem wp_mono {a : Type} {Q Q' : a → Prop} {E : String → Prop} {m : M a} (h : wp m Q E) (f : ∀ r, Q r → Q' r) : wp m Q' E := wp_tail h (fun r _ q => f r q) fun _ e => e
/-- a scalar call that reads a cell: the cell is as it was, and nothing of the call is kept -/
theorem Ow.borrow {Z : Ent} {F F1 F' H H' : Hp} {cs : List (Addr × HO)} (O : Ow Z F cs H) (s1 : Same F F1) (g : Gr [] F1 H F' H') : Ow Z F cs H' where
  g := ⟨O.g.f, (s1.trans g.f).trans g.s, fun b o hb e => g.k b o (fun h => nomatch h) (O.g.k b o hb e), fun b e => g.t b (O.g.t b e), O.g.n, fun b xs e => by
    rcases g.u b xs e with z | z
    · refine .inl ?_
      cases q : Z.H b with
      | none => rfl
      | some u => exact absurd z (O.g.t b (by rw [q]; simp))
    · exact O.g.u b xs z⟩
  cf := O.cf
  ch := fun c hc => g.k _ _ (fun h => nomatch h) (O.ch c hc)
  nd := O.nd
  ca := O.ca
  nt := O.nt
theorem Ow.lend {Z : Ent} {F H : Hp} {cs : List (Addr × HO)} {a : Addr} {o : HO} (O : Ow Z F cs H) (i : Nat) (e : cs[i]? = some (a, o)) : ∃ F1, Same F F1 ∧ Pre F1 [] H ∧ F1 a = some o := by
  have m := List.mem_of_getElem? e
  refine ⟨upd F a o, Same.new (O.cf _ m), ⟨fun b u q => ?_, (fun _ h => nomatch h), (fun _ h => nomatch h), List.nodup_nil, fun _ h => nomatch h⟩, upd_same⟩
  by_cases hb : b = a
  · subst hb; rw [upd_same] at q; rw [← q]; exact O.ch _ m
  · rw [upd_ne hb] at q; exact O.s b u q

abbrev lrefs (ps : List LC) : List V := ps.map fun (c : LC) => V.ref c.1

def ret {a : Type} (x : a) : M a := .ok x
theorem wp_ret {a b : Type} {Q : a → Prop} {E : String → Prop} {x : b} {k : b → M a} (h : wp (ret x >>= k) Q E) : ∃ y, y = x ∧ wp (k y) Q E := ⟨x, rfl, h⟩

/-- tuples that stand may be read -/
theorem Ow.tups {Z : Ent} {F H : Hp} {cs : List (Addr × HO)} (O : Ow Z F cs H) (bs : List Addr) (h : ∀ b ∈ bs, ∃ xs, H b = some (.tup xs)) : ∃ F', Ow Z F' cs H ∧ Same F F' ∧ ∀ b ∈ bs, F' b = H b := by
  refine ⟨fun b => if b ∈ bs then H b else F b, ⟨⟨fun b o e => ?_, fun b o e => ?_, O.g.k, O.g.t, fun b e => ?_, O.g.u⟩, fun c hc => ?_, O.ch, O.nd, O.ca, O.nt⟩, fun b o e => ?_, fun b hb => if_pos hb⟩
  · have h1 := O.g.f b o e
    show (if b ∈ bs then H b else F b) = some o
    by_cases hb : b ∈ bs
    · rw [if_pos hb]; exact O.s b o h1
    · rw [if_neg hb]; exact h1
  · have e : (if b ∈ bs then H b else F b) = some o := e
    by_cases hb : b ∈ bs
    · rw [if_pos hb] at e; exact e
    · rw [if_neg hb] at e; exact O.s b o e
  · show (if b ∈ bs then H b else F b) = Z.F b ∨ _
    by_cases hb : b ∈ bs
    · obtain ⟨xs, hx⟩ := h b hb
      rcases O.g.u b xs hx with z | z
      · exact absurd z e
      · exact .inr ⟨xs, z⟩
    · rw [if_neg hb]; exact O.g.n b e
  · show (if c.1 ∈ bs then H c.1 else F c.1) = none
    by_cases hb : c.1 ∈ bs
    · obtain ⟨xs, hx⟩ := h c.1 hb
      have hn := O.nt c hc
      rw [O.ch c hc] at hx
      rw [Option.some.inj hx] at hn
      cases hn
    · rw [if_neg hb]; exact O.cf c hc
  · show (if b ∈ bs then H b else F b) = some o
    by_cases hb : b ∈ bs
    · rw [if_pos hb]; exact O.s b o e
    · rw [if_neg hb]; exact e
end PG

set_option Elab.async false
set_option linter.all false
set_option maxRecDepth 100000
set_option maxHeartbeats 4000000
namespace PG
open PySem PySem.Spec PyProof.Rows L2
open PySem.W (T3 T4 Datum DatumOrd Holds HoldAll EachIs)

theorem u1_of {n : Nat} (h : n + 64 < cLine) : n + 1 < cLine := Nat.lt_of_le_of_lt (Nat.add_le_add_left (by decide) _) h
/-! ### dicts: what stands for a key -/
class DK (κ : Type) (K' : outParam Type) where
  kk : κ → K'
  inj : ∀ a b, kk a = kk b → a = b
instance : DK Int Key := ⟨Sum.inl, fun _ _ h => Sum.inl.inj h⟩
instance : DK Str Key := ⟨Sum.inr, fun _ _ h => Sum.inr.inj h⟩
instance : DK (Int × Int) (List Key) := ⟨fun p => [.inl p.1, .inl p.2], fun a b h => by
  injection h with h1 h2
  injection h2 with h2 _
  exact Prod.ext (Sum.inl.inj h1) (Sum.inl.inj h2)⟩
section
variable {κ K' β : Type} [DK κ K'] [Py β]
inductive RD (F : Hp) : List (K' × V) → List (κ × β) → Prop
  | nil : RD F [] []
  | cons {k : κ} {v : V} {y : β} {kvs : List (K' × V)} {xs : List (κ × β)} : R F v y → RD F kvs xs → RD F ((DK.kk k, v) :: kvs) ((k, y) :: xs)
variable {F F' : Hp}
theorem RD.mono {kvs : List (K' × V)} {xs : List (κ × β)} (h : RD F kvs xs) (s : Same F F') : RD F' kvs xs := by
  induction h with
  | nil => exact .nil
  | cons h _ ih => exact .cons (h.mono s) ih
theorem RD.len {kvs : List (K' × V)} {xs : List (κ × β)} (h : RD F kvs xs) : kvs.length = xs.length := by
  induction h with
  | nil => rfl
  | cons h _ ih => rw [List.length_cons, List.length_cons, ih]
theorem RD.keys {kvs : List (K' × V)} {xs : List (κ × β)} (h : RD F kvs xs) : kvs.map (·.1) = (xs.map (·.1)).map DK.kk := by
  induction h with
  | nil => rfl
  | cons h _ ih => rw [List.map_cons, List.map_cons, List.map_cons, ih]
end
section
variable {κ K' β : Type} [DK κ K'] [DecidableEq κ] [DecidableEq K'] [Py β] {F F' : Hp}
def dGet (xs : List (κ × β)) (k : κ) : Option β := (xs.find? fun p => decide (p.1 = k)).map (·.2)
def dPut (xs : List (κ × β)) (k : κ) (y : β) : List (κ × β) :=
  if (xs.any fun p => decide (p.1 = k)) = true then xs.map (fun p => if p.1 = k then (p.1, y) else p) else xs ++ [(k, y)]
def dHas (xs : List (κ × β)) (k : κ) : Bool := (dGet xs k).isSome
theorem kk_dec {a b : κ} : decide ((DK.kk a : K') = DK.kk b) = decide (a = b) := by
  by_cases h : a = b
  · subst h; simp
  · rw [decide_eq_false h, decide_eq_false fun z => h (DK.inj a b z)]
theorem dGet_pos {p : κ × β} {r : List (κ × β)} {k : κ} (e : p.1 = k) : dGet (p :: r) k = some p.2 := by simp [dGet, List.find?_cons, e]
theorem dGet_neg {p : κ × β} {r : List (κ × β)} {k : κ} (e : ¬ p.1 = k) : dGet (p :: r) k = dGet r k := by simp [dGet, List.find?_cons, e]
theorem RD.get {kvs : List (K' × V)} {xs : List (κ × β)} (h : RD F kvs xs) (k : κ) :
    (dGet xs k = none ∧ valV kvs (DK.kk k) = none) ∨ ∃ y v, dGet xs k = some y ∧ valV kvs (DK.kk k) = some v ∧ R F v y := by
  induction h with
  | nil => exact .inl ⟨rfl, rfl⟩
  | @cons j v y kvs xs h hs ih =>
    by_cases e : j = k
    · exact .inr ⟨y, v, dGet_pos e, valV_pos (by rw [e]), h⟩
    · rw [dGet_neg (p := (j, y)) e, valV_neg (fun z => e (DK.inj j k z))]
      exact ih
theorem RD.some {kvs : List (K' × V)} {xs : List (κ × β)} (h : RD F kvs xs) {k : κ} {y : β} (e : dGet xs k = some y) : ∃ v, valV kvs (DK.kk k) = some v ∧ R F v y := by
  rcases h.get k with ⟨a, _⟩ | ⟨y', v, a, b, c⟩
  · rw [e] at a; cases a
  · rw [e] at a; cases a; exact ⟨v, b, c⟩
theorem RD.is {kvs : List (K' × V)} {xs : List (κ × β)} (h : RD F kvs xs) (k : κ) : (valV kvs (DK.kk k)).isSome = dHas xs k := by
  unfold dHas
  rcases h.get k with ⟨a, b⟩ | ⟨y', v, a, b, c⟩
  · rw [a, b]; rfl
  · rw [a, b]; rfl
theorem RD.map {kvs : List (K' × V)} {xs : List (κ × β)} (h : RD F kvs xs) (k : κ) {v : V} {y : β} (hv : R F v y) :
    RD F (kvs.map fun kv => if kv.1 = DK.kk k then (kv.1, v) else kv) (xs.map fun p => if p.1 = k then (p.1, y) else p) := by
  induction h with
  | nil => exact .nil
  | @cons j u z kvs xs h hs ih =>
    rw [List.map_cons, List.map_cons]
    by_cases e : j = k
    · rw [if_pos e, if_pos (show (DK.kk j, u).1 = DK.kk k by rw [e])]
      exact .cons hv ih
    · rw [if_neg e, if_neg (show ¬ (DK.kk j, u).1 = DK.kk k from fun z => e (DK.inj j k z))]
      exact .cons h ih
theorem RD.snoc {kvs : List (K' × V)} {xs : List (κ × β)} (h : RD F kvs xs) (k : κ) {v : V} {y : β} (hv : R F v y) : RD F (kvs ++ [(DK.kk k, v)]) (xs ++ [(k, y)]) := by
  induction h with
  | nil => exact .cons hv .nil
  | cons h _ ih => exact .cons h ih
theorem RD.any {kvs : List (K' × V)} {xs : List (κ × β)} (h : RD F kvs xs) (k : κ) : (kvs.any fun kv => decide (kv.1 = DK.kk k)) = (xs.any fun p => decide (p.1 = k)) := by
  induction h with
  | nil => rfl
  | @cons j u z kvs xs h hs ih => rw [List.any_cons, List.any_cons, ih, kk_dec]
theorem RD.put {kvs : List (K' × V)} {xs : List (κ × β)} (h : RD F kvs xs) (k : κ) {v : V} {y : β} (hv : R F v y) : RD F (putK kvs (DK.kk k) v) (dPut xs k y) := by
  unfold putK dPut
  rw [h.any k]
  by_cases e : (xs.any fun p => decide (p.1 = k)) = true
  · rw [if_pos e, if_pos e]; exact h.map k hv
  · rw [if_neg e, if_neg e]; exact h.snoc k hv
def putD (xs : List (κ × β)) (k : κ) (y : β) : M (List (κ × β)) := if xs.length < 16777216 then .ok (dPut xs k y) else bad
theorem wp_putD {a : Type} {Q : a → Prop} {E : String → Prop} {xs : List (κ × β)} {j : κ} {y : β} {k : List (κ × β) → M a} (h : wp (putD xs j y >>= k) Q E) : xs.length < sizeLine ∧ wp (k (dPut xs j y)) Q E := by
  unfold putD at h
  by_cases hl : xs.length < 16777216
  · rw [if_pos hl] at h
    exact ⟨lt_line hl, h⟩
  · rw [if_neg hl] at h
    exact h.elim
end
/-- a dict that is read alone -/
class DO (K' : Type) where
  ho : List (K' × V) → HO
instance : DO Key := ⟨.dK⟩
instance : DO (List Key) := ⟨.dT⟩
section
variable {κ K' β : Type} [DK κ K'] [Py β] [DO K'] {F F' H : Hp} {v : V} {a b : Addr}
def RDv (F : Hp) (v : V) (xs : List (κ × β)) : Prop := ∃ (a : Addr) (kvs : List (K' × V)), v = .ref a ∧ F a = some (DO.ho kvs) ∧ RD F kvs xs
theorem RDv.mono {xs : List (κ × β)} (h : RDv F v xs) (s : Same F F') : RDv F' v xs := by
  obtain ⟨a, kvs, e, h1, h2⟩ := h
  exact ⟨a, kvs, e, s _ _ h1, h2.mono s⟩
theorem RDv.mk {xs : List (κ × β)} {kvs : List (K' × V)} (h : F a = some (DO.ho kvs)) (hr : RD F kvs xs) : RDv F (.ref a) xs := ⟨a, kvs, rfl, h, hr⟩
end
section
variable {β : Type} [Py β] {F H : Hp} {a b : Addr}
theorem dget_T {kvs : List (List Key × V)} {i j : Int} {v : V} (e : H a = some (.dT kvs)) (eb : H b = some (.tup [.int i, .int j])) (hv : valV kvs (DK.kk (i, j)) = some v) : DGet H a (.ref b) (some v) := by
  rw [← hv]
  exact DGet.t (k := [.inl i, .inl j]) e eb
theorem dget_I {kvs : List (Key × V)} {i : Int} {v : V} (e : H a = some (.dK kvs)) (hv : valV kvs (DK.kk i) = some v) : DGet H a (.int i) (some v) := by
  rw [← hv]
  exact DGet.k (k := .inl i) e
theorem dget_S {kvs : List (Key × V)} {i : Str} {v : V} (e : H a = some (.dK kvs)) (hv : valV kvs (DK.kk i) = some v) : DGet H a (.str i) (some v) := by
  rw [← hv]
  exact DGet.k (k := .inr i) e
theorem din_T {kvs : List (List Key × V)} {i j : Int} {xs : List ((Int × Int) × β)} (e : H a = some (.dT kvs)) (eb : H b = some (.tup [.int i, .int j])) (hr : RD F kvs xs) : ∃ o, DGet H a (.ref b) o ∧ o.isSome = dHas xs (i, j) :=
  ⟨_, DGet.t (k := [.inl i, .inl j]) e eb, hr.is (i, j)⟩
theorem din_I {kvs : List (Key × V)} {i : Int} {xs : List (Int × β)} (e : H a = some (.dK kvs)) (hr : RD F kvs xs) : ∃ o, DGet H a (.int i) o ∧ o.isSome = dHas xs i :=
  ⟨_, DGet.k (k := .inl i) e, hr.is i⟩
theorem din_S {kvs : List (Key × V)} {i : Str} {xs : List (Str × β)} (e : H a = some (.dK kvs)) (hr : RD F kvs xs) : ∃ o, DGet H a (.str i) o ∧ o.isSome = dHas xs i :=
  ⟨_, DGet.k (k := .inr i) e, hr.is i⟩
theorem dput_T {kvs : List (List Key × V)} {i j : Int} {v : V} (e : H a = some (.dT kvs)) (eb : H b = some (.tup [.int i, .int j])) (hl : kvs.length < sizeLine) : DPut H a (.ref b) v (upd H a (.dT (putK kvs (DK.kk (i, j)) v))) := DPut.t (k := [.inl i, .inl j]) e eb hl
theorem dput_I {kvs : List (Key × V)} {i : Int} {v : V} (e : H a = some (.dK kvs)) (hl : kvs.length < sizeLine) : DPut H a (.int i) v (upd H a (.dK (putK kvs (DK.kk i) v))) := DPut.k (k := .inl i) e hl
theorem dput_S {kvs : List (Key × V)} {i : Str} {v : V} (e : H a = some (.dK kvs)) (hl : kvs.length < sizeLine) : DPut H a (.str i) v (upd H a (.dK (putK kvs (DK.kk i) v))) := DPut.k (k := .inr i) e hl
end
/-! sorted(d), the keys pairs of whole numbers -/
theorem keys_tups {H : Hp} {kvs : List (List Key × V)} {bs : List Addr} (h : IsKeys H kvs bs) : ∀ b ∈ bs, ∃ xs, H b = some (.tup xs) := by
  unfold IsKeys at h
  induction h with
  | nil => intro b hb; simp at hb
  | cons h t ih =>
    intro c hc
    rcases List.mem_cons.mp hc with rfl | hc
    · exact ⟨_, h⟩
    · exact ih c hc
theorem keys_rl {H : Hp} {kvs : List (List Key × V)} {bs : List Addr} (h : IsKeys H kvs bs) : ∀ {ks : List (Int × Int)}, kvs.map (·.1) = ks.map DK.kk → RL H (bs.map V.ref) ks := by
  unfold IsKeys at h
  induction h with
  | nil =>
    intro ks e
    cases ks with
    | nil => exact RL.nil
    | cons k ks => simp at e
  | cons h t ih =>
    intro ks e
    cases ks with
    | nil => simp at e
    | cons k ks =>
      rw [List.map_cons, List.map_cons] at e
      injection e with e1 e2
      rw [e1] at h
      exact RL.cons (R.t2 h R.int R.int) (ih e2)
theorem keys_in {H F : Hp} {kvs : List (List Key × V)} {bs : List Addr} {ks : List (Int × Int)} (h : IsKeys H kvs bs) (hf : ∀ b ∈ bs, F b = H b) (e : kvs.map (·.1) = ks.map DK.kk) : RL F (bs.map V.ref) ks := by
  refine keys_rl ?_ e
  unfold IsKeys at h ⊢
  clear e
  induction h with
  | nil => exact .nil
  | @cons x b xs bs h t ih =>
    refine .cons ?_ (ih fun c hc => hf c (List.mem_cons_of_mem _ hc))
    rw [hf b List.mem_cons_self]
    exact h
section
variable {X : Cx}
theorem cr_sortedDT (hcalm : X.calm = true) (hu : X.A.units + 128 < cLine) : CallR X (.builtin "sorted") (fun xs H Q => ∃ (d : Addr) (kvs : List (List Key × V)) (ks : List (Int × Int)), xs = [.ref d] ∧ H d = some (.dT kvs) ∧ kvs.map (·.1) = ks.map DK.kk ∧
    ∀ (bs : List Addr) (p : Addr), IsKeys H kvs bs → H p = none → Q (.ref p) (upd H p (.lst (sortV (bs.map V.ref) ks)))) := by
  intro pins s σ H xs us Q I r q
  obtain ⟨d, kvs, ks', ex, hd, hks, q⟩ := q
  subst ex
  obtain ⟨u, eu, rx⟩ := vals1 r
  subst eu
  cases rx
  obtain ⟨z, hs, ks, pr, o, es, ep, ho, hx, hdt, he, hn⟩ := (show ObjOk X.prog X.w H s.heap d (.dT kvs) from I.hok d _ hd)
  have l1 : es.size = ks.length := size_of_entries he
  have l2 : kvs.length = ks.length := Paired.length pr
  refine Calls.call_function_entry PyProof.Rows.kind_sorted PyProof.Rows.plain_sorted PyProof.Rows.entry_sorted (PyProof.Rows.args_sorted1 _) ?_
  unfold Builtin.«sorted»
  refine wpAny_bind (m := checkCount "sorted" 1 1 _) (wpAny_pure ?_)
  refine wpAny_bind (PySem.W.kdu_collect (A := X.A.in1) (kdl_raw hs hx hdt) (I.ok.hd hcalm) ho (by omega) fun h' tk acc kp it => ?_)
  have ea : acc.toList = ks.map fun x => Value.ref x.2.1 := by
    have hl : acc.toList.length = ks.length := by rw [Array.length_toList, it.1]; exact l1
    apply List.ext_getElem?
    intro j
    rw [List.getElem?_map]
    cases hj : acc.toList[j]? with
    | none =>
      have h1 := List.getElem?_eq_none_iff.mp hj
      rw [List.getElem?_eq_none (by omega)]
      all_goals rfl
    | some v =>
      obtain ⟨en, hen, hv⟩ := it.2 j v (by rw [← Array.getElem?_toList]; exact hj)
      have qe := entry_at he j
      rw [hen] at qe
      cases hb : ks[j]? with
      | none =>
        rw [hb] at qe
        exact nomatch (show some en = none from qe)
      | some b =>
        rw [hb] at qe
        have e2 : en = entryOfKey (tupleKind (mixKind X.prog X.w)) b := Option.some.inj qe
        rw [hv, e2]
        all_goals rfl
  have eb : acc.toList = (ks.map fun (x : List Key × Addr × Value) => x.2.1).map Value.ref := by rw [ea, List.map_map]; all_goals rfl
  have rv : Vals ((ks.map fun (x : List Key × Addr × Value) => x.2.1).map V.ref) acc.toList := by rw [eb]; exact vals_refs _
  have hik : IsKeys H kvs (ks.map fun (x : List Key × Addr × Value) => x.2.1) := isKeys_of pr
  have hrl := keys_rl hik hks
  have hlen : ((ks.map fun (x : List Key × Addr × Value) => x.2.1).map V.ref).length = ks'.length := hrl.len
  have hal : acc.toList.length = ks.length := by rw [ea, List.length_map]
  have I1 : Inv X pins σ H { s with heap := h', toks := tk } := I.kept kp
  have hE := each_pairs hrl rv
  have hR : EachIs (fun u (p : V × (Int × Int)) => ∃ as, PySem.Reads h' u (Datum.toD p.2) as) acc.toList (((ks.map fun (x : List Key × Addr × Value) => x.2.1).map V.ref).zip ks') := each_imp (fun u p hp => hp.2.holds I1 hp.1) hE
  have hoL : (h'.push (seqObj "list" acc.toList.toArray 0)).get? h'.objs.size = some (seqObj "list" acc.toList.toArray 0) := Heap.get?_push_size _ rfl
  have hz : acc.toList.length ≤ sizeLine := by rw [hal]; omega
  refine wpAny_bind (wpAny_newList ?_ hz)
  show wpAny _ _ _ _ _ { s with heap := h'.push (seqObj "list" acc.toList.toArray 0), toks := tk }
  have er' : EachIs (fun v (p : V × (Int × Int)) => ∃ as, PySem.Reads (PySem.W.sortingHeap (h'.push (seqObj "list" acc.toList.toArray 0)) h'.objs.size acc.toList) v (Datum.toD p.2) as) acc.toList (((ks.map fun (x : List Key × Addr × Value) => x.2.1).map V.ref).zip ks') :=
    hR.mono fun _ _ ⟨as, r⟩ => ⟨as, PyProof.Rows.Reads.keeps (fun b o e => PySem.W.sortingHeap_old (Nat.ne_of_lt (Heap.lt_size e)) (Heap.get?_push_of_some _ e)) r⟩
  have hal2 : PySem.W.AllAlike ((((ks.map fun (x : List Key × Addr × Value) => x.2.1).map V.ref).zip ks').map fun p => Datum.toD p.2) := PySem.W.AllAlike.of fun p q => DatumOrd.alike p.2 q.2
  refine wpAny_bind (wpAny_holding (wpAny_call_entry PyProof.Rows.slot_list_sort ⟨_, hoL, rfl⟩ PyProof.Rows.entry_list_sort
    (PySem.W.list_sort_vals (κ := PySem.W.dataKind (PySem.W.sortingHeap (h'.push (seqObj "list" acc.toList.toArray 0)) h'.objs.size acc.toList) ((((ks.map fun (x : List Key × Addr × Value) => x.2.1).map V.ref).zip ks').map fun p => Datum.toD p.2)) (s := { s with heap := h'.push (seqObj "list" acc.toList.toArray 0), toks := tk }) hoL
      (PySem.W.SortsAt.data (s := { s with heap := PySem.W.sortingHeap (h'.push (seqObj "list" acc.toList.toArray 0)) h'.objs.size acc.toList, toks := tk }) (PySem.W.each_map (R := fun v d => ∃ as, PySem.Reads (PySem.W.sortingHeap (h'.push (seqObj "list" acc.toList.toArray 0)) h'.objs.size acc.toList) v d as) (fun (p : V × (Int × Int)) => Datum.toD p.2) er') hal2 ?_ ?_) hz ⟨_, rfl, ?_⟩)
    (PyProof.Rows.args_list_sort _)))
  · exact PySem.W.Sortable.tuples fun p => ⟨_, _, rfl⟩
  · intro dd hdd
    obtain ⟨p, _, rfl⟩ := List.mem_map.mp hdd
    have hdp : Datum.depth (Int × Int) ≤ 100 := by decide
    have := Datum.depth_le p.2
    have hA : X.A.in1.in1.units ≤ X.A.units + 2 := by simp [Around.in1]
    omega
  · have he2 := PySem.W.sortVals_data (R := fun (u : Value) (p : V × (Int × Int)) => RelV p.1 u ∧ R H p.1 p.2) (enc := fun p => Datum.toD p.2) false hE er' hal2
    rw [dataLe_T (fun p : V × (Int × Int) => p.2)] at he2
    obtain ⟨q1, q2⟩ := pairs_vals he2
    obtain ⟨e', he'⟩ := PyProof.Rows.sortedHeap_at (vs := acc.toList) (out := (PySem.W.sortVals (PySem.W.dataKind (PySem.W.sortingHeap (h'.push (seqObj "list" acc.toList.toArray 0)) h'.objs.size acc.toList) ((((ks.map fun (x : List Key × Addr × Value) => x.2.1).map V.ref).zip ks').map fun p => Datum.toD p.2)) false acc.toList acc.toList).toArray) hoL
    refine wpAny_pure ⟨_, rfl, .ref h'.objs.size, upd H h'.objs.size (.lst (sortV ((ks.map fun (x : List Key × Addr × Value) => x.2.1).map V.ref) ks')), I1.laid (t' := tk) (fun b u e => ?_) (Nat.le_refl _)
      (show ObjOk X.prog X.w _ _ _ (.lst _) from ⟨?_, _, e', q1, he'⟩), rfl, q _ _ hik (I1.hok.fresh (Nat.le_refl _))⟩
    · have hb : b < h'.objs.size := Heap.lt_size e
      rw [PyProof.Rows.sortedHeap_old (Nat.ne_of_lt hb) (by rw [size_push']; exact Nat.lt_succ_of_lt hb)]
      exact Heap.get?_push_of_some _ e
    · unfold sortV
      rw [List.length_map, List.length_mergeSort, List.length_zip, hlen, Nat.min_self, ← hlen, List.length_map, List.length_map]
      omega
end
end PG

set_option Elab.async false
set_option linter.all false
set_option maxRecDepth 100000
set_option maxHeartbeats 4000000
namespace PG
open PySem PySem.Spec PyProof.Rows L2
open PySem.W (T3 T4 Datum DatumOrd Holds HoldAll EachIs)

/-! ### a list of two things of two kinds -/
structure HL2 (a b : Type) where
  a : a
  b : b
  deriving DecidableEq
theorem HL2.same {a b : Type} : ∀ {p q : HL2 a b}, p.a = q.a → p.b = q.b → p = q
  | ⟨_, _⟩, ⟨_, _⟩, rfl, rfl => rfl
section
variable {α β : Type} [DecidableEq α] [Datum α] [DecidableEq β] [Datum β]
instance : Datum (HL2 α β) where
  toD p := .list [Datum.toD p.a, Datum.toD p.b]
  plain p := by simp only [PyData.plain, PyData.plainAll, Datum.plain, Bool.and_self]
  eqv p q := by
    simp only [PyData.eqv, PyData.eqvAll]
    rw [Datum.eqv, Datum.eqv, Bool.and_true, ← Bool.decide_and]
    exact decide_eq_decide.mpr ⟨fun e => HL2.same e.1 e.2, fun e => by rw [e]; exact ⟨rfl, rfl⟩⟩
  depth := max (Datum.depth α) (Datum.depth β) + 1
  depth_le p := by
    simp only [PyData.depth, PyData.depthAll]
    have h0 := Datum.depth_le p.a
    have h1 := Datum.depth_le p.b
    omega
end
instance {a b : Type} [Py a] [Py b] : Py (HL2 a b) := ⟨fun p => .list [Py.toD p.a, Py.toD p.b]⟩
section
variable {a b : Type} [Py a] [DecidableEq a] [Datum a] [IsD a] [Py b] [DecidableEq b] [Datum b] [IsD b]
instance : IsD (HL2 a b) := ⟨fun p => by show PyData.list [_, _] = PyData.list [_, _]; rw [IsD.eq, IsD.eq]⟩
end
theorem R.hl2 {a b : Type} [Py a] [Py b] {H : Hp} {p : Addr} {x : HL2 a b} {v1 v2 : V} (ha : H p = some (.lst [v1, v2])) (h1 : R H v1 x.a) (h2 : R H v2 x.b) : R H (.ref p) x := Rep.lst ha (.cons h1 (.cons h2 .nil))
/-! ### data without lists within -/
class NoL (a : Type) [Py a] : Prop where
  mv : ∀ (F F' : Hp), (∀ b xs, F b = some (.tup xs) → F' b = some (.tup xs)) → ∀ (v : V) (x : a), R F v x → R F' v x
instance : NoL Int := ⟨fun _ _ _ _ _ h => by rw [R.int_ h]; exact R.int⟩
instance : NoL Bool := ⟨fun _ _ _ _ _ h => by rw [R.bl_ h]; exact R.bl⟩
instance : NoL Str := ⟨fun _ _ _ _ _ h => by rw [R.str_ h]; exact R.str⟩
instance {a b : Type} [Py a] [Py b] [NoL a] [NoL b] : NoL (a × b) := ⟨fun _ _ t _ _ h => by
  obtain ⟨p, v1, v2, rfl, hp, h1, h2⟩ := R.t2_ h
  exact R.t2 (t _ _ hp) (NoL.mv _ _ t _ _ h1) (NoL.mv _ _ t _ _ h2)⟩
instance {a b c : Type} [Py a] [Py b] [Py c] [NoL a] [NoL b] [NoL c] : NoL (T3 a b c) := ⟨fun _ _ t _ _ h => by
  obtain ⟨p, v1, v2, v3, rfl, hp, h1, h2, h3⟩ := R.t3_ h
  exact R.t3 (t _ _ hp) (NoL.mv _ _ t _ _ h1) (NoL.mv _ _ t _ _ h2) (NoL.mv _ _ t _ _ h3)⟩
theorem RL.mv {a : Type} [Py a] [NoL a] {F F' : Hp} (t : ∀ b xs, F b = some (.tup xs) → F' b = some (.tup xs)) : ∀ {vs : List V} {xs : List a}, RL F vs xs → RL F' vs xs
  | _, [], h => by rw [RL.nil_ h]; exact RL.nil
  | _, x :: xs, h => by
    obtain ⟨w, ws, rfl, h1, h2⟩ := RL.cons_ h
    exact RL.cons (NoL.mv _ _ t _ _ h1) (RL.mv t h2)
/-! ### cells lent to a call -/
open Classical in
noncomputable def lendF (as : List Addr) (F H : Hp) : Hp := fun b => if b ∈ as then H b else F b
open Classical in
noncomputable def backF (as : List Addr) (F : Hp) : Hp := fun b => if b ∈ as then none else F b
section
variable {Z : Ent} {F F' H H' : Hp} {cs : List (Addr × HO)} {p a q : Addr} {o o' : HO} {as : List Addr}
theorem inA_nil : ∀ b ∈ ([] : List Addr), ∃ o, (b, o) ∈ cs := fun _ h => nomatch h
theorem inA_cons (i : Nat) (e : cs[i]? = some (a, o)) (h : ∀ b ∈ as, ∃ o, (b, o) ∈ cs) : ∀ b ∈ a :: as, ∃ o, (b, o) ∈ cs := fun b hb => by
  rcases List.mem_cons.mp hb with rfl | hb
  · exact ⟨o, List.mem_of_getElem? e⟩
  · exact h b hb
theorem lendF_at (h : a ∈ as) : lendF as F H a = H a := if_pos h
theorem Ow.lendS (O : Ow Z F cs H) (hin : ∀ b ∈ as, ∃ o, (b, o) ∈ cs) : Same F (lendF as F H) := fun b u e => by
  by_cases hb : b ∈ as
  · obtain ⟨o, hc⟩ := hin b hb
    have := O.cf _ hc
    have e' : F b = none := this
    rw [e'] at e; cases e
  · show (if b ∈ as then H b else F b) = _
    rw [if_neg hb]; exact e
theorem Ow.lendP (O : Ow Z F cs H) (hin : ∀ b ∈ as, ∃ o, (b, o) ∈ cs) : Pre (lendF as F H) [] H := by
  refine ⟨fun b u e => ?_, (fun _ h => nomatch h), (fun _ h => nomatch h), List.nodup_nil, fun _ h => nomatch h⟩
  have e : (if b ∈ as then H b else F b) = some u := e
  by_cases hb : b ∈ as
  · rw [if_pos hb] at e; exact e
  · rw [if_neg hb] at e; exact O.s b u e
theorem Ow.unlend (O : Ow Z F cs H) (hin : ∀ b ∈ as, ∃ o, (b, o) ∈ cs) (g : Gr [] (lendF as F H) H F' H') :
    Ow Z (backF as F') cs H' ∧ Same F (backF as F') ∧ (∀ b xs, F' b = some (.tup xs) → backF as F' b = some (.tup xs)) ∧ ∀ b, F' b = none → backF as F' b = none := by
  have inF : ∀ b, b ∉ as → ∀ u, F b = some u → F' b = some u := fun b hb u e => g.f b u (by
    show (if b ∈ as then H b else F b) = _
    rw [if_neg hb]; exact e)
  have nF : ∀ b ∈ as, F b = none := fun b hb => by obtain ⟨o, hc⟩ := hin b hb; exact O.cf _ hc
  have sF : Same F (backF as F') := fun b u e => by
    show (if b ∈ as then none else F' b) = _
    by_cases hb : b ∈ as
    · rw [nF b hb] at e; cases e
    · rw [if_neg hb]; exact inF b hb u e
  refine ⟨⟨⟨O.g.f.trans sF, fun b u e => ?_, fun b u hb e => g.k b u (fun h => nomatch h) (O.g.k b u hb e), fun b e => g.t b (O.g.t b e), fun b e => ?_, fun b xs e => ?_⟩, fun c hc => ?_, fun c hc => g.k _ _ (fun h => nomatch h) (O.ch c hc), O.nd, O.ca, O.nt⟩, sF, fun b xs e => ?_, fun b e => ?_⟩
  · have e : (if b ∈ as then none else F' b) = some u := e
    by_cases hb : b ∈ as
    · rw [if_pos hb] at e; cases e
    · rw [if_neg hb] at e; exact g.s b u e
  · show (if b ∈ as then none else F' b) = _ ∨ _
    by_cases hb : b ∈ as
    · rw [if_pos hb]
      rcases O.g.n b e with h0 | h0
      · rw [nF b hb] at h0; exact .inl h0
      · exact .inr h0
    · rw [if_neg hb]
      rcases O.g.n b e with h0 | h0
      · rcases g.n b (O.g.t b e) with h1 | ⟨xs, hx⟩
        · refine .inl (h1.trans ?_)
          show (if b ∈ as then H b else F b) = _
          rw [if_neg hb]; exact h0
        · rcases O.g.u b xs hx with z | z
          · exact absurd z e
          · exact .inr ⟨xs, z⟩
      · exact .inr h0
  · rcases g.u b xs e with z | z
    · refine .inl ?_
      cases q : Z.H b with
      | none => rfl
      | some u => exact absurd z (O.g.t b (by rw [q]; simp))
    · exact O.g.u b xs z
  · show (if c.1 ∈ as then none else F' c.1) = none
    by_cases hb : c.1 ∈ as
    · rw [if_pos hb]
    · rw [if_neg hb]
      have hl : lendF as F H c.1 = none := by
        show (if c.1 ∈ as then H c.1 else F c.1) = _
        rw [if_neg hb]; exact O.cf c hc
      exact g.none (O.ch c hc) (O.nt c hc) hl
  · show (if b ∈ as then none else F' b) = _
    by_cases hb : b ∈ as
    · obtain ⟨o, hc⟩ := hin b hb
      have h1 : lendF as F H b = some o := by
        show (if b ∈ as then H b else F b) = _
        rw [if_pos hb]; exact O.ch _ hc
      have h2 := g.f b o h1
      rw [e] at h2
      have h3 := O.nt _ hc
      have h3 : noTup o = true := h3
      rw [← Option.some.inj h2] at h3
      cases h3
    · rw [if_neg hb]; exact e
  · show (if b ∈ as then none else F' b) = _
    by_cases hb : b ∈ as
    · rw [if_pos hb]
    · rw [if_neg hb]; exact e
theorem Ow.fresh (O : Ow Z F cs H) (h : H p = none) : p ∉ cs.map (·.1) := fun hm => by
  obtain ⟨c, hc, e⟩ := List.mem_map.mp hm
  have z := O.ch c hc
  rw [e, h] at z
  cases z
theorem Ow.add' (O : Ow Z F cs H) (hm : p ∉ cs.map (·.1)) (hz : Z.H p = none) (hf : F p = none) (h : H p = some o) (ht : noTup o = true := by rfl) : Ow Z F ((p, o) :: cs) H where
  g := O.g
  cf := fun c hc => by
    rcases List.mem_cons.mp hc with rfl | hc
    · exact hf
    · exact O.cf c hc
  ch := fun c hc => by
    rcases List.mem_cons.mp hc with rfl | hc
    · exact h
    · exact O.ch c hc
  nd := by
    rw [List.map_cons, List.nodup_cons]
    exact ⟨hm, O.nd⟩
  ca := fun c hc => by
    rcases List.mem_cons.mp hc with rfl | hc
    · exact .inr hz
    · exact O.ca c hc
  nt := fun c hc => by
    rcases List.mem_cons.mp hc with rfl | hc
    · exact ht
    · exact O.nt c hc
theorem Ow.ne (O : Ow Z F cs H) (i j : Nat) (hij : i ≠ j) (ei : cs[i]? = some (a, o)) (ej : cs[j]? = some (q, o')) : a ≠ q := fun e => by
  subst e
  have h1 : (cs.map (·.1))[i]? = some a := by rw [List.getElem?_map, ei]; rfl
  have h2 : (cs.map (·.1))[j]? = some a := by rw [List.getElem?_map, ej]; rfl
  exact hij (nd_ix O.nd h1 h2)
end
theorem nmem2 {p q : Addr} {l : List Addr} (h : p ≠ q) (h2 : p ∉ l) : p ∉ q :: l := fun m => by
  rcases List.mem_cons.mp m with e | m
  · exact h e
  · exact h2 m
/-! ### while -/
inductive Ws (s r : Type) where
  | go (x : s)
  | stop (x : s)
  | rt (z : r)
def whL {s r : Type} (b : s → M (Ws s r)) : Nat → s → M (Fl s r)
  | 0, _ => bad
  | n + 1, x => b x >>= fun
    | .go x' => whL b n x'
    | .stop x' => .ok (.nx x')
    | .rt z => .ok (.rt z)
theorem whL_L {s r a : Type} {Q : a → Prop} {E : String → Prop} {b : s → M (Ws s r)} {n : Nat} {x : s} {k : Fl s r → M a} (h : wp (whL b n x >>= k) Q E) :
    ∃ (L : Nat → s → Prop) (X : s → Prop), L n x ∧ (∀ m x, L m x → wp (b x) (fun w => match w with
      | .go x' => ∃ m', m' < m ∧ L m' x'
      | .stop x' => X x'
      | .rt z => wp (k (.rt z)) Q E) E) ∧ ∀ x, X x → wp (k (.nx x)) Q E := by
  refine ⟨fun n x => wp (whL b n x >>= k) Q E, fun x => wp (k (.nx x)) Q E, h, fun m x hx => ?_, fun x hx => hx⟩
  cases m with
  | zero => exact hx.elim
  | succ m =>
    have hx : wp ((b x >>= fun
      | .go x' => whL b m x'
      | .stop x' => .ok (.nx x')
      | .rt z => .ok (.rt z)) >>= k) Q E := hx
    rw [wp_bind, wp_bind] at hx
    cases e : b x with
    | error e2 => rw [e] at hx; cases e2 <;> exact hx
    | ok w =>
      rw [e] at hx
      cases w with
      | go x' => exact ⟨m, Nat.lt_succ_self m, wp_bind.mpr hx⟩
      | stop x' => exact hx
      | rt z => exact hx
theorem while_P {c : TT} {tb : TS} {D : Ends} {σ : L2.St} {H : Hp} (W : Nat → L2.St → Hp → Prop) (X : L2.St → Hp → Prop) (n : Nat) (h0 : W n σ H) (exit : ∀ σ H, X σ H → D.nx σ H)
    (turn : (∀ σ H, X σ H → D.nx σ H) → ∀ m σ H, W m σ H → c σ H fun b H1 => if b = true then ∃ N : L2.St → Hp → Prop, (∀ σ' H', N σ' H' → ∃ m', m' < m ∧ W m' σ' H') ∧ tb { D with nx := N, ct := N, bk := D.nx } σ H1 else D.nx σ H1) : tWhile c tb D σ H :=
  ⟨W, ⟨n, h0⟩, turn exit⟩
/-! ### a < b < c < d -/
section
variable {X : Cx} {a b c d : Expr} {ta tb tc td : TE} {pos : Pos}
def tChain3 (r r' r'' : R2) (ta tb tc td : TE) : TE := fun σ H Q => ta σ H fun x H1 => tb σ H1 fun y H2 => r x y H2 fun z H3 => ∃ k, z = .bl k ∧
  (if k = true then tc σ H3 fun w' H4 => r' y w' H4 fun z' H5 => ∃ k', z' = .bl k' ∧ (if k' = true then td σ H5 fun u' H6 => r'' w' u' H6 Q else Q (.bl false) H5) else Q (.bl false) H3)
theorem pt_chain3 {op op' op'' : CmpOp} {r r' r'' : R2} (ho : OpR X (compareOp op) r) (ho' : OpR X (compareOp op') r') (ho'' : OpR X (compareOp op'') r'') (ha : PE X a ta) (hb : PE X b tb) (hc : PE X c tc) (hd : PE X d td)
    (hm : lastMarks [op, op', op''] [b, c, d] = false := by with_unfolding_all rfl) : PT X (.Compare a [op, op', op''] [b, c, d] pos) (tTest (tChain3 r r' r'' ta tb tc td)) := by
  refine ⟨fun pins s σ H Q I h => ?_⟩
  refine isTrue_chain (thn (ha.run pins s σ H _ I h) fun v s1 ⟨x, H1, I1, r1, q1⟩ => test_link (thn (hb.run pins s1 σ H1 _ I1 q1) fun u s2 ⟨y, H2, I2, r2, q2⟩ =>
    thn (ho pins s2 σ H2 x y v u _ I2 r1 r2 q2) fun d1 s3 ⟨z, H3, I3, r3, k, e, q3⟩ => ?_)) hm
  subst e
  cases r3
  refine wpAny_truthy_bool ?_
  cases k with
  | false =>
    obtain ⟨k', e', q'⟩ := q3
    cases e'
    exact ite_ff ⟨H3, I3, q'⟩
  | true =>
    refine ite_tt (test_link (thn (hc.run pins s3 σ H3 _ I3 q3) fun w' s4 ⟨z', H4, I4, r4, q4⟩ => thn (ho' pins s4 σ H4 y z' u w' _ I4 r2 r4 q4) fun d2 s5 ⟨z2, H5, I5, r5, k2, e2, q5⟩ => ?_))
    subst e2
    cases r5
    refine wpAny_truthy_bool ?_
    cases k2 with
    | false =>
      obtain ⟨k', e', q'⟩ := q5
      cases e'
      exact ite_ff ⟨H5, I5, q'⟩
    | true =>
      refine ite_tt (test_last (thn (hd.run pins s5 σ H5 _ I5 q5) fun u' s6 ⟨z3, H6, I6, r6, q6⟩ => thn (ho'' pins s6 σ H6 z' z3 w' u' _ I6 r4 r6 q6) fun d3 s7 ⟨z4, H7, I7, r7, k3, e3, q7⟩ => ?_))
      subst e3
      cases r7
      exact wpAny_truthy_bool ⟨H7, I7, q7⟩
end
/-! ### list.index of whole numbers -/
def ixI (xs : List Int) (y : Int) : M Int := if y ∈ xs then .ok ((xs.findIdx (· == y) : Nat) : Int) else bad
theorem wp_ixI {a : Type} {Q : a → Prop} {E : String → Prop} {xs : List Int} {y : Int} {k : Int → M a} (h : wp (ixI xs y >>= k) Q E) : ∃ j, xs.findIdx (· == y) = j ∧ xs[j]? = some y ∧ (∀ (m : Nat) z, m < j → xs[m]? = some z → z ≠ y) ∧ wp (k (j : Int)) Q E := by
  unfold ixI at h
  by_cases hm : y ∈ xs
  · rw [if_pos hm] at h
    have hlt : xs.findIdx (· == y) < xs.length := List.findIdx_lt_length_of_exists ⟨y, hm, by simp⟩
    refine ⟨_, rfl, ?_, fun m z hmj hz e => ?_, h⟩
    · rw [List.getElem?_eq_getElem hlt]
      have := List.findIdx_getElem (w := hlt)
      rw [eq_of_beq this]
    · have := List.not_of_lt_findIdx hmj
      obtain ⟨hl, hz⟩ := List.getElem?_eq_some_iff.mp hz
      rw [hz, e] at this
      simp at this
  · rw [if_neg hm] at h; exact h.elim
theorem all_flat_int : ∀ xs : List Int, (xs.map V.int).all flatV = true
  | [] => rfl
  | x :: xs => by rw [List.map_cons, List.all_cons, all_flat_int xs]; rfl
theorem int_noeq {xs : List Int} {y : Int} {j : Nat} (h : ∀ (m : Nat) z, m < j → xs[m]? = some z → z ≠ y) : ∀ (m : Nat) (z' : V), m < j → (xs.map V.int)[m]? = some z' → eqV z' (.int y) = false := fun m z' hm hz => by
  rw [List.getElem?_map] at hz
  cases e : xs[m]? with
  | none => rw [e] at hz; cases hz
  | some z =>
    rw [e] at hz
    have hz : V.int z = z' := Option.some.inj hz
    subst hz
    have := h m z hm e
    show (z == y) = false
    simpa using this
theorem int_at {xs : List Int} {y : Int} {j : Nat} (h : xs[j]? = some y) : (xs.map V.int)[j]? = some (.int y) := by rw [List.getElem?_map, h]; rfl
theorem int_eq {y : Int} : eqV (.int y) (.int y) = true := by show (y == y) = true; simp
/-! ### dict(list of pairs), the keys whole numbers -/
section
variable {β : Type} [Py β] {F H : Hp}
def mergeD (xs : List (Int × β)) : List (Int × β) := xs.foldl (fun acc p => dPut acc p.1 p.2) []
theorem merge_rd {kvs : List (Key × V)} {xs : List (Int × β)} (hs : RD F kvs xs) : ∀ {acc : List (Key × V)} {ac : List (Int × β)}, RD F acc ac → RD F (mergeK acc kvs) (xs.foldl (fun acc p => dPut acc p.1 p.2) ac) := by
  induction hs with
  | nil => intro acc ac h; exact h
  | @cons k v y kvs xs hv _ ih =>
    intro acc ac h
    exact ih (h.put k hv)
theorem pairs_of_rl {K : PySem.W.Frag} (s : Same F H) : ∀ {vs : List V} {xs : List (Int × β)}, RL F vs xs → ∃ (ps : List Addr) (kvs : List (Key × V)), vs = ps.map V.ref ∧ Paired (fun p kv => SqT K H p [kV kv.1, kv.2]) ps kvs ∧ RD F kvs xs
  | _, [], h => ⟨[], [], RL.nil_ h, .nil, .nil⟩
  | _, x :: xs, h => by
    obtain ⟨w, ws, rfl, h1, h2⟩ := RL.cons_ h
    obtain ⟨ps, kvs, e, hp, hr⟩ := pairs_of_rl (K := K) s h2
    obtain ⟨p, v1, v2, rfl, hp1, h3, h4⟩ := R.t2_ h1
    rw [R.int_ h3] at hp1
    exact ⟨p :: ps, (.inl x.1, v2) :: kvs, by rw [e]; rfl, .cons (SqT.of (s _ _ hp1)) hp, .cons (k := x.1) h4 hr⟩
end
/-! ### the same rules, the fragment told outright (within a comprehension) -/
section
variable {X : Cx} {K : PySem.W.Frag}
theorem ixTupK (h : X.K = K) : IxR X (rIxT K) := by rw [← h]; exact ix_tup
theorem ixListK (h : X.K = K) : IxR X (rIxL K) := by rw [← h]; exact ix_list
theorem listOfK (h : X.K = K) : CallR X (.type "list") (fun xs H Q => ∃ p ys, xs = [.ref p] ∧ (SqL K H p ys ∨ SqT K H p ys) ∧ ∀ l, H l = none → Q (.ref l) (upd H l (.lst ys))) := by rw [← h]; exact call_list_of
theorem isiK (h : X.K = K) : CallR X (.builtin "isinstance") (rIsi K) := by rw [← h]; exact call_isi
theorem slListK (h : X.K = K) : SlR X (rSlL K) := by rw [← h]; exact sl_list
theorem indexK (h : X.K = K) : MtR X "list.index" (rIndex K) := by rw [← h]; exact mt_index
end
/-! ### enumerate in a comprehension -/
def enumL {b : Type} (xs : List b) : List (Int × b) := xs.zipIdx.map fun p => ((p.2 : Int), p.1)
theorem enumL_get {b : Type} {xs : List b} {i : Nat} {x : b} (h : xs[i]? = some x) : (enumL xs).drop i = ((i : Int), x) :: (enumL xs).drop (i + 1) := by
  apply drop_at
  unfold enumL
  rw [List.getElem?_map, List.getElem?_zipIdx, h]
  simp
theorem enumL_len {b : Type} {xs : List b} : (enumL xs).length = xs.length := by unfold enumL; simp
theorem enumL_end {b : Type} {xs : List b} {vs : List V} (h : vs.length = xs.length) : (enumL xs).drop vs.length = [] := by
  rw [h, ← enumL_len, List.drop_length]
theorem comp_lenE {b : Type} {w vs : List V} {xs : List b} {i : Nat} (la : w.length ≤ i) (hi : i < vs.length) (hl : vs.length = xs.length) (c : (enumL xs).length < 16777216) : w.length < sizeLine := by
  rw [enumL_len] at c
  exact lt_line (by omega)
theorem zip_at {a b : Type} {xs : List a} {ys : List b} {i : Nat} {x : a} {y : b} (h : xs[i]? = some x) (h2 : ys[i]? = some y) : (xs.zip ys).drop i = (x, y) :: (xs.zip ys).drop (i + 1) := by
  apply drop_at
  rw [List.getElem?_zip_eq_some]
  exact ⟨h, h2⟩
theorem zip_end {a b : Type} {xs : List a} {ys : List b} {vs ws : List V} (h : vs.length = xs.length) (h2 : ws.length = ys.length) : (xs.zip ys).drop (min vs.length ws.length) = [] := by
  rw [h, h2, ← List.length_zip, List.drop_length]
theorem comp_lenZ {a b : Type} {w vs ws : List V} {xs : List a} {ys : List b} {i : Nat} (la : w.length ≤ i) (hi : i < min vs.length ws.length) (h : vs.length = xs.length) (h2 : ws.length = ys.length) (c : (xs.zip ys).length < 16777216) : w.length < sizeLine := by
  rw [List.length_zip, ← h, ← h2] at c
  exact lt_line (by omega)
section
variable {X : Cx} {K : PySem.W.Frag}
theorem cr_sumK (hc : X.calm = true) (h : X.K = K) : CallR X (.builtin "sum") (rSum K) := by rw [← h]; exact cr_sum hc
end
end PG

set_option Elab.async false
set_option linter.all false
set_option maxRecDepth 100000
set_option maxHeartbeats 4000000
namespace PG
open PySem PySem.Spec PyProof.Rows L2
open PySem.W (T3 T4 Datum DatumOrd Holds HoldAll EachIs)
/-! ### sums: ("number", n), (word, n), (word,), (word, a, b) -/
inductive Sm where
  | num (w : Str) (n : Int)
  | nam (w : Str)
  | two (w : Str) (a b : Sm)
  deriving DecidableEq
def Sm.d : Sm → PyData
  | .num w n => .tuple [.str w, .int n]
  | .nam w => .tuple [.str w]
  | .two w a b => .tuple [.str w, a.d, b.d]
instance : Py Sm := ⟨Sm.d⟩
def Sm.word : Sm → Str
  | .num w _ => w
  | .nam w => w
  | .two w _ _ => w
def Sm.int? : Sm → Option Int
  | .num _ n => some n
  | _ => none
def Sm.two? : Sm → Option (Sm × Sm)
  | .two _ a b => some (a, b)
  | _ => none
section
variable {F : Hp} {v : V} {p : Addr} {x : Sm}
theorem R.sm_ (h : R F v x) : ∃ p ws, v = .ref p ∧ F p = some (.tup (V.str x.word :: ws)) := by
  cases x with
  | num w n =>
    obtain ⟨p, v1, v2, e, hp, h1, h2⟩ := R.t2_ (show R (a := Str × Int) F v (w, n) from h)
    rw [R.str_ h1] at hp
    exact ⟨p, [v2], e, hp⟩
  | nam w =>
    have h' : Rep F v (.tuple [.str w]) := h
    cases h' with
    | tup ha hs =>
      cases hs with
      | cons h1 hs =>
        cases hs
        cases h1
        exact ⟨_, _, rfl, ha⟩
  | two w a b =>
    obtain ⟨p, v1, v2, v3, e, hp, h1, h2, h3⟩ := R.t3_ (show R (a := T3 Str Sm Sm) F v ⟨w, a, b⟩ from h)
    rw [R.str_ h1] at hp
    exact ⟨p, [v2, v3], e, hp⟩
theorem R.sm_int {n : Int} (h : R F v x) (e : x.int? = some n) : ∃ p w, v = .ref p ∧ F p = some (.tup [V.str w, V.int n]) := by
  cases x with
  | num w m =>
    obtain ⟨p, v1, v2, e1, hp, h1, h2⟩ := R.t2_ (show R (a := Str × Int) F v (w, m) from h)
    rw [R.str_ h1, R.int_ h2] at hp
    have e : some m = some n := e
    cases e
    exact ⟨p, w, e1, hp⟩
  | nam w => cases e
  | two w a b => cases e
theorem R.sm_two {q : Sm × Sm} (h : R F v x) (e : x.two? = some q) : ∃ p w va vb, v = .ref p ∧ F p = some (.tup [V.str w, va, vb]) ∧ R F va q.1 ∧ R F vb q.2 := by
  cases x with
  | num w m => cases e
  | nam w => cases e
  | two w a b =>
    obtain ⟨p, v1, v2, v3, e1, hp, h1, h2, h3⟩ := R.t3_ (show R (a := T3 Str Sm Sm) F v ⟨w, a, b⟩ from h)
    rw [R.str_ h1] at hp
    have e : some (a, b) = some q := e
    cases e
    exact ⟨p, w, v2, v3, e1, hp, h2, h3⟩
theorem R.of_num {q : Str × Int} (h : R F v q) : R F v (Sm.num q.1 q.2) := h
theorem R.of_two {q : T3 Str Sm Sm} (h : R F v q) : R F v (Sm.two q.a q.b q.c) := h
theorem R.of_nam {w : Str} (h : F p = some (.tup [V.str w])) : R F (.ref p) (Sm.nam w) := Rep.tup h (.cons (.str w) .nil)
end
/-! ### a whole number or a list of such -/
inductive IL where
  | i (n : Int)
  | l (xs : List Int)
instance : Py IL := ⟨fun
  | .i n => Py.toD n
  | .l xs => Py.toD xs⟩
def IL.i? : IL → Option Int
  | .i n => some n
  | _ => none
def IL.l? : IL → Option (List Int)
  | .l xs => some xs
  | _ => none
section
variable {F : Hp} {v : V}
theorem R.il_i {x : IL} {n : Int} (h : R F v x) (e : x.i? = some n) : R F v n := by
  cases x with
  | i m => have e : some m = some n := e; cases e; exact h
  | l xs => cases e
theorem R.il_l {x : IL} {xs : List Int} (h : R F v x) (e : x.l? = some xs) : R F v xs := by
  cases x with
  | i m => cases e
  | l ys => have e : some ys = some xs := e; cases e; exact h
theorem R.of_i {n : Int} (h : R F v n) : R F v (IL.i n) := h
theorem R.of_l {xs : List Int} (h : R F v xs) : R F v (IL.l xs) := h
end
section
variable {β : Type} [Py β] {F : Hp}
def mergeDS (xs : List (Str × β)) : List (Str × β) := xs.foldl (fun acc p => dPut acc p.1 p.2) []
theorem merge_rdS {kvs : List (Key × V)} {xs : List (Str × β)} (hs : RD F kvs xs) : ∀ {acc : List (Key × V)} {ac : List (Str × β)}, RD F acc ac → RD F (mergeK acc kvs) (xs.foldl (fun acc p => dPut acc p.1 p.2) ac) := by
  induction hs with
  | nil => intro acc ac h; exact h
  | @cons k v y kvs xs hv _ ih =>
    intro acc ac h
    exact ih (h.put k hv)
end
section
variable {X : Cx} {K : PySem.W.Frag} {pos : Pos}
theorem slTupK (h : X.K = K) : SlR X (rSlT K) := by rw [← h]; exact sl_tup
theorem pgLstK (h : X.K = K) {es : List Expr} {k : Nat} {t : TGs} {n : Nat} (hc : X.calm = true) (hp : PGs X es t)
    (hn : (assignEach es X.env).length = n := by rfl) (hst : (assignEach es X.env).findIdx? (·.1) = none := by rfl) : PG X (.Tuple es k pos) (gLst K n t) := by rw [← h]; exact pg_lst hc hp hn hst
end
theorem RL.two {a : Type} [Py a] {F : Hp} {vs : List V} {xs : List a} (h : RL F vs xs) (e : xs.length = 2) : ∃ v1 v2 x1 x2, vs = [v1, v2] ∧ xs = [x1, x2] ∧ R F v1 x1 ∧ R F v2 x2 := by
  match xs, e with
  | [x1, x2], _ =>
    obtain ⟨w, ws, rfl, h1, h2⟩ := RL.cons_ h
    obtain ⟨w2, ws2, rfl, h3, h4⟩ := RL.cons_ h2
    rw [RL.nil_ h4]
    exact ⟨w, w2, x1, x2, rfl, rfl, h1, h3⟩
/-- a list of just two -/
def two2 {a : Type} (xs : List a) : M (a × a) := match xs with
  | [x, y] => .ok (x, y)
  | _ => bad
theorem wp_two2 {a b : Type} {Q : a → Prop} {E : String → Prop} {xs : List b} {k : b × b → M a} (h : wp (two2 xs >>= k) Q E) : ∃ x y, xs = [x, y] ∧ wp (k (x, y)) Q E := by
  match xs, h with
  | [x, y], h => exact ⟨x, y, rfl, h⟩
  | [], h => exact h.elim
  | [_], h => exact h.elim
  | _ :: _ :: _ :: _, h => exact h.elim
theorem sl3 (a b c : V) : ¬ (HT.sIx [a, b, c].length 0 (some (1 : Int)) = 0 ∧ HT.sIx [a, b, c].length [a, b, c].length none = [a, b, c].length) := fun h => absurd h.1 (by show ¬ (HT.sIx 3 0 (some (1 : Int)) = 0); decide)
theorem intB {X : Cx} : CallR X (.type "int") (fun xs H Q => ∃ k, xs = [.bl k] ∧ Q (.int (if k then 1 else 0)) H) := fun pins s σ H xs us Q I r h => call_int1 pins s σ H xs us Q I r (.inr h)
theorem atI0 {a : Type} (x : a) (xs : List a) : L2.atI (x :: xs) (0 : Int) = some x := by
  unfold L2.atI ixN
  rw [if_pos (by omega), if_pos (by rw [List.length_cons]; omega)]
  rfl
end PG

set_option Elab.async false
set_option linter.all false
set_option maxRecDepth 100000
set_option maxHeartbeats 4000000
namespace PG
open PySem PySem.Spec PyProof.Rows L2
open PySem.W (T3 T4 Datum DatumOrd Holds HoldAll EachIs)
/-! ### == of data of any depth, the depth asked outright -/
class DatumX (a : Type) [Py a] [DecidableEq a] : Prop where
  plain : ∀ x : a, (Py.toD x).plain = true
  eqv : ∀ x y : a, PyData.eqv (Py.toD x) (Py.toD y) = decide (x = y)
instance (priority := 50) {a : Type} [Py a] [DecidableEq a] [Datum a] [IsD a] : DatumX a := ⟨fun x => by rw [IsD.eq]; exact Datum.plain x, fun x y => by rw [IsD.eq, IsD.eq]; exact Datum.eqv x y⟩
theorem Sm.pl : ∀ x : Sm, x.d.plain = true
  | .num w n => by simp [Sm.d, PyData.plain, PyData.plainAll]
  | .nam w => by simp [Sm.d, PyData.plain, PyData.plainAll]
  | .two w a b => by simp [Sm.d, PyData.plain, PyData.plainAll, Sm.pl a, Sm.pl b]
theorem ev23 (w w' : Str) (n : PyData) (x y : PyData) : PyData.eqv (.tuple [.str w, n]) (.tuple [.str w', x, y]) = false := by simp [PyData.eqv, PyData.eqvAll]
theorem ev32 (w w' : Str) (n : PyData) (x y : PyData) : PyData.eqv (.tuple [.str w', x, y]) (.tuple [.str w, n]) = false := by simp [PyData.eqv, PyData.eqvAll]
theorem ev13 (w w' : Str) (x y : PyData) : PyData.eqv (.tuple [.str w]) (.tuple [.str w', x, y]) = false := by simp [PyData.eqv, PyData.eqvAll]
theorem ev31 (w w' : Str) (x y : PyData) : PyData.eqv (.tuple [.str w', x, y]) (.tuple [.str w]) = false := by simp [PyData.eqv, PyData.eqvAll]
theorem Sm.ev : ∀ x y : Sm, PyData.eqv x.d y.d = decide (x = y)
  | .num w n, .num w' n' => by
    simp only [Sm.d, PyData.eqv, PyData.eqvAll, Bool.and_true]
    rw [PySem.W.beq_decide, PySem.W.beq_decide, ← Bool.decide_and]
    exact decide_eq_decide.mpr (by rw [Sm.num.injEq])
  | .num w n, .nam w' => by simp [Sm.d, PyData.eqv, PyData.eqvAll]
  | .num w n, .two w' a b => (ev23 w w' (.int n) a.d b.d).trans (by simp)
  | .nam w, .num w' n => by simp [Sm.d, PyData.eqv, PyData.eqvAll]
  | .nam w, .nam w' => by
    simp only [Sm.d, PyData.eqv, PyData.eqvAll, Bool.and_true]
    rw [PySem.W.beq_decide]
    exact decide_eq_decide.mpr (by rw [Sm.nam.injEq])
  | .nam w, .two w' a b => (ev13 w w' a.d b.d).trans (by simp)
  | .two w a b, .num w' n => (ev32 w' w (.int n) a.d b.d).trans (by simp)
  | .two w a b, .nam w' => (ev31 w' w a.d b.d).trans (by simp)
  | .two w a b, .two w' a' b' => by
    simp only [Sm.d, PyData.eqv, PyData.eqvAll, Bool.and_true]
    rw [PySem.W.beq_decide, Sm.ev a a', Sm.ev b b', ← Bool.decide_and, ← Bool.decide_and]
    exact decide_eq_decide.mpr (by rw [Sm.two.injEq])
instance : DatumX Sm := ⟨Sm.pl, Sm.ev⟩
section
variable {a b c d : Type} [Py a] [DecidableEq a] [DatumX a] [Py b] [DecidableEq b] [DatumX b] [Py c] [DecidableEq c] [DatumX c] [Py d] [DecidableEq d] [DatumX d]
theorem plainX : ∀ xs : List a, PyData.plainAll (xs.map Py.toD) = true
  | [] => rfl
  | x :: xs => by
    rw [List.map_cons, PyData.plainAll, DatumX.plain x, plainX xs]
    rfl
theorem eqvX : ∀ xs ys : List a, PyData.eqvAll (xs.map Py.toD) (ys.map Py.toD) = decide (xs = ys)
  | [], [] => by simp only [List.map_nil, PyData.eqvAll, decide_true]
  | [], _ :: _ => by simp [PyData.eqvAll]
  | _ :: _, [] => by simp [PyData.eqvAll]
  | x :: xs, y :: ys => by
    rw [List.map_cons, List.map_cons, PyData.eqvAll, DatumX.eqv x y, eqvX xs ys, ← Bool.decide_and]
    exact decide_eq_decide.mpr (by rw [List.cons.injEq])
instance : DatumX (List a) := ⟨fun xs => by show PyData.plain (.list (xs.map Py.toD)) = true; simp only [PyData.plain]; exact plainX xs, fun xs ys => by show PyData.eqv (.list (xs.map Py.toD)) (.list (ys.map Py.toD)) = _; simp only [PyData.eqv]; exact eqvX xs ys⟩
theorem T4.sm {p q : T4 a b c d} : p = q ↔ p.a = q.a ∧ p.b = q.b ∧ p.c = q.c ∧ p.d = q.d := by
  cases p; cases q
  simp
instance : DatumX (T4 a b c d) := ⟨fun p => by show PyData.plain (.tuple [_, _, _, _]) = true; simp only [PyData.plain, PyData.plainAll, DatumX.plain, Bool.and_self], fun p q => by
  show PyData.eqv (.tuple [_, _, _, _]) (.tuple [_, _, _, _]) = _
  simp only [PyData.eqv, PyData.eqvAll]
  rw [DatumX.eqv, DatumX.eqv, DatumX.eqv, DatumX.eqv, Bool.and_true, ← Bool.decide_and, ← Bool.decide_and, ← Bool.decide_and]
  exact decide_eq_decide.mpr T4.sm.symm⟩
end
def dep {a : Type} [Py a] (x : a) : Nat := (Py.toD x).depth
section
variable {X : Cx} (a : Type) [Py a] [DecidableEq a] [DatumX a]
def rEqX : R2 := fun x y H Q => ∃ p q : a, R H x p ∧ R H y q ∧ min (dep p) (dep q) ≤ 60 ∧ Q (.bl (decide (p = q))) H
def rNeX : R2 := fun x y H Q => ∃ p q : a, R H x p ∧ R H y q ∧ min (dep p) (dep q) ≤ 60 ∧ Q (.bl (decide (p ≠ q))) H
theorem op_eqX (hu : X.A.units + 64 < cLine) : OpR X (compareOp .Eq) (rEqX a) := by
  intro pins s σ H x y v u Q I rx ry h
  obtain ⟨p, q, hp, hq, hd, k⟩ := h
  obtain ⟨as, ra⟩ := Dp.reads I _ _ _ (Rep.dp _ _ hp) rx
  obtain ⟨bs, rb⟩ := Dp.reads I _ _ _ (Rep.dp _ _ hq) ry
  have hd' : min (Py.toD p).depth (Py.toD q).depth ≤ 60 := hd
  exact PySem.SeqAt.eq_plain ra rb (DatumX.plain p) (DatumX.plain q) (by omega) (by rw [DatumX.eqv p q]; exact ⟨.bl _, H, I, rfl, k⟩)
theorem op_neX (hu : X.A.units + 64 < cLine) : OpR X (compareOp .NotEq) (rNeX a) := by
  intro pins s σ H x y v u Q I rx ry h
  obtain ⟨p, q, hp, hq, hd, k⟩ := h
  obtain ⟨as, ra⟩ := Dp.reads I _ _ _ (Rep.dp _ _ hp) rx
  obtain ⟨bs, rb⟩ := Dp.reads I _ _ _ (Rep.dp _ _ hq) ry
  have hd' : min (Py.toD p).depth (Py.toD q).depth ≤ 60 := hd
  exact PySem.SeqAt.ne_plain ra rb (DatumX.plain p) (DatumX.plain q) (by omega) (by rw [DatumX.eqv p q, ← decide_not]; exact ⟨.bl _, H, I, rfl, k⟩)
end
/-! ### a tuple of things of one kind, of any length -/
structure Tp (a : Type) where
  l : List a
instance {a : Type} [Py a] : Py (Tp a) := ⟨fun t => .tuple (t.l.map Py.toD)⟩
section
variable {a : Type} [Py a] {F : Hp} {v : V}
theorem R.tp_ {x : Tp a} (h : R F v x) : ∃ p vs, v = .ref p ∧ F p = some (.tup vs) ∧ RL F vs x.l := by
  have h' : Rep F v (.tuple (x.l.map Py.toD)) := h
  cases h' with
  | tup ha hs => exact ⟨_, _, rfl, ha, hs⟩
theorem R.tp2 {q : a × a} (h : R F v q) : R F v (Tp.mk [q.1, q.2]) := h
theorem R.tp3 {q : T3 a a a} (h : R F v q) : R F v (Tp.mk [q.a, q.b, q.c]) := h
theorem R.tp1 {w : Str} (h : R F v (Sm.nam w)) : R F v (Tp.mk [w]) := h
end
end PG

set_option Elab.async false
set_option linter.all false
set_option maxRecDepth 100000
set_option maxHeartbeats 4000000
namespace PG
open PySem PySem.Spec PyProof.Rows L2
open PySem.W (T3 T4 Datum DatumOrd Holds HoldAll EachIs)
/-! ### dict(a list of pairs), the keys tuples -/
def mergeT (kvs more : List (List Key × V)) : List (List Key × V) := more.foldl (fun m q => putK m q.1 q.2) kvs
theorem mergeT_kt {H : Hp} {kvs : List (List Key × V)} {xs : List (List Key × Addr × Value)} (r : KT H kvs xs) : ∀ {m : List (List Key × V)} {ms : List (List Key × Addr × Value)}, KT H m ms →
    KT H (mergeT m kvs) (storedAllH ms xs) := by
  induction r with
  | nil => intro m ms h; exact h
  | @cons p q ps qs h t ih =>
    intro m ms hm
    obtain ⟨e, hb, rv⟩ := h
    have := ih (KT.put hm q.1 (b := q.2.1) (by rw [← e]; exact hb) rv)
    unfold mergeT storedAllH at *
    rw [List.foldl_cons, List.foldl_cons, e]
    exact this
def PairT (K : PySem.W.Frag) (H : Hp) (p : Addr × Addr) (q : List Key × V) : Prop := SqT K H p.1 [.ref p.2, q.2] ∧ H p.2 = some (.tup (q.1.map kV))
theorem kt_at {H : Hp} {kvs : List (List Key × V)} {xs : List (List Key × Addr × Value)} (r : KT H kvs xs) : ∀ x ∈ xs, H x.2.1 = some (.tup (x.1.map kV)) := by
  induction r with
  | nil => exact fun x hx => nomatch hx
  | cons h _ ih => intro x hx; rcases List.mem_cons.mp hx with rfl | hx; · rw [← h.1]; exact h.2.1
                   · exact ih x hx
theorem ne_of_none {H : Hp} {b c : Addr} {o : HO} (e : H c = some o) (n : H b = none) : c ≠ b := fun z => by rw [z, n] at e; exact nomatch e
section
variable {X : Cx}
theorem tripT {pins : List (Addr × Obj)} {σ : L2.St} {H : Hp} {s : Shared} (I : Inv X pins σ H s) {ps : List (Addr × Addr)} {kvs : List (List Key × V)} (h : Paired (PairT X.K H) ps kvs) :
    ∃ xs : List (List Key × Addr × Value), KT H kvs xs ∧ xs.length = ps.length ∧ ∀ (j : Nat) q, xs[j]? = some q → ∃ b, ps[j]? = some b ∧ b.2 = q.2.1 ∧ IsTup s.heap b.1 #[.ref q.2.1, q.2.2] := by
  induction h with
  | nil => exact ⟨[], .nil, rfl, fun j q e => by simp at e⟩
  | @cons p kv ps' kvs' h t ih =>
    obtain ⟨xs, r, hl, hx⟩ := ih
    obtain ⟨h1, h2⟩ := h
    obtain ⟨its, rv, ht, _⟩ := I.tuple h1
    obtain ⟨u, y, ei, ru, ry⟩ := vals2 rv
    subst ei
    cases ru
    refine ⟨(kv.1, p.2, y) :: xs, .cons ⟨rfl, h2, ry⟩ r, by simp [hl], fun j q e => ?_⟩
    cases j with
    | zero =>
      have e' : (kv.1, p.2, y) = q := Option.some.inj e
      subst e'
      exact ⟨p, rfl, rfl, ht⟩
    | succ j => exact (hx j q (by simpa using e)).imp fun b z => ⟨by simpa using z.1, z.2⟩
theorem refs_pT : ∀ {ps : List (Addr × Addr)} {us : List Value}, Vals (ps.map fun p => V.ref p.1) us → us = ps.map fun p => Value.ref p.1
  | [], us, r => by rw [List.map_nil] at r; cases r; rfl
  | p :: ps, us, r => by
    rw [List.map_cons] at r
    cases r with
    | cons h t => cases h; rw [List.map_cons, ← refs_pT t]
theorem call_dictT (hcalm : X.calm = true) (hu : X.A.units + 64 < cLine) : CallR X (.type "dict") (fun xs H Q => ∃ (a : Addr) (ps : List (Addr × Addr)) (kvs : List (List Key × V)), xs = [.ref a] ∧
    SqL X.K H a (ps.map fun p => V.ref p.1) ∧ Paired (PairT X.K H) ps kvs ∧ ∀ p, H p = none → Q (.ref p) (upd H p (.dT (mergeT [] kvs)))) := by
  intro pins s σ H zs us Q I r q
  obtain ⟨a, ps, kvs, ez, hq, hp, q⟩ := q
  subst ez
  obtain ⟨u, eu, rx⟩ := vals1 r
  subst eu
  cases rx
  obtain ⟨its, rv, pl, hz⟩ := I.list hq
  have ei := refs_pT rv
  subst ei
  obtain ⟨xs, rel, hl, hx⟩ := tripT I hp
  obtain ⟨o, n, ho, hc, hd, hdat⟩ := pl
  have hz' : ps.length ≤ sizeLine := by simpa using hz
  have hkey : ∀ x ∈ xs, (tupleKind (mixKind X.prog X.w)).is s.heap x.1 x.2.1 := fun x hxm => key_of I.hok (kt_at rel x hxm)
  have hps : ∀ (j : Nat) (k v : Value), (xs.map fun x => (Value.ref x.2.1, x.2.2))[j]? = some (k, v) → ∃ q, xs[j]? = some q ∧ k = .ref q.2.1 ∧ v = q.2.2 := fun j k v e => by
    rw [List.getElem?_map] at e
    cases hq' : xs[j]? with
    | none => rw [hq'] at e; exact nomatch e
    | some q' => rw [hq'] at e; cases e; exact ⟨q', rfl, rfl, rfl⟩
  refine call_dict_pairsH (knd := tupleKind (mixKind X.prog X.w)) (ps := xs)
    (PairArg.list a _ (fun j => ((ps[j]?).map (·.1)).getD 0) (xs.map fun x => (Value.ref x.2.1, x.2.2))) (I.ok.hd hcalm) (show X.A.units + 1 + 1 < cLine by omega)
    ⟨⟨o, n, ho, hc, hd, hdat⟩, ⟨by simp [hl], fun j k v e => ?_⟩⟩ ⟨by simp, fun i k v e => ?_⟩ (fun h' hk x hxm => ?_) (by simpa [hl] using hz') fun h' tk hd' hk => ?_
  · obtain ⟨q', e1, rfl, rfl⟩ := hps j k v e
    obtain ⟨b, e2, _, ht⟩ := hx j q' e1
    have e3 : ((ps[j]?).map (·.1)).getD 0 = b.1 := by rw [e2]; rfl
    show _ ∧ PairAt s.heap (((ps[j]?).map (·.1)).getD 0) _ _
    rw [e3]
    exact ⟨by show _ = some (Value.ref (((ps[j]?).map (·.1)).getD 0)); rw [e3]; simp [e2], .inl ht⟩
  · obtain ⟨q', e1, rfl, rfl⟩ := hps i k v e
    exact ⟨q'.1, q'.2.1, e1, rfl⟩
  · obtain ⟨o', its', n', h1, h2⟩ := hkey x hxm
    exact ⟨o', its', n', hk _ _ (Nat.ne_of_lt (Heap.lt_size h1)) (fun z => nomatch z) h1, h2⟩
  · have hm : (s.heap.objs.size == sysModules) = false := beq_eq_false_iff_ne.mpr (Nat.ne_of_gt I.big)
    have hlen : (mergeT [] kvs).length ≤ sizeLine := by
      have h1 := Paired.length (mergeT_kt rel (m := []) (ms := []) .nil)
      have h2 := storedAllH_length xs ([] : List (List Key × Addr × Value))
      rw [List.length_nil, Nat.zero_add] at h2
      rw [h1]
      exact Nat.le_trans h2 (by rw [hl]; exact hz')
    obtain ⟨q', es, ep, g1, g2, g3, g4, _, g5⟩ := hd'
    refine ⟨.ref s.heap.objs.size, upd H s.heap.objs.size (.dT (mergeT [] kvs)), I.laid (t' := tk) (fun b o' e => hk b o' (fun z => nomatch z) e) (Nat.le_refl _) ⟨hlen, hm, _, (mergeT_kt rel .nil).keeps fun c ys ec => ?_, q', es, ep, g1, g2, g3, g4, g5⟩,
      rfl, q _ (I.hok.fresh (Nat.le_refl _))⟩
    rw [upd_ne (ne_of_none ec (I.hok.fresh (Nat.le_refl _)))]
    exact ec
end
section
variable {β : Type} [Py β] {F H : Hp}
def mergeDT (xs : List ((Int × Int) × β)) : List ((Int × Int) × β) := xs.foldl (fun m p => dPut m p.1 p.2) []
theorem mergeT_rd {kvs : List (List Key × V)} {xs : List ((Int × Int) × β)} (hs : RD F kvs xs) : ∀ {m : List (List Key × V)} {ms : List ((Int × Int) × β)}, RD F m ms → RD F (mergeT m kvs) (xs.foldl (fun m p => dPut m p.1 p.2) ms) := by
  induction hs with
  | nil => intro m ms h; exact h
  | @cons k v y kvs xs hv _ ih =>
    intro m ms h
    exact ih (h.put k hv)
theorem pairsT_of_rl {K : PySem.W.Frag} (s : Same F H) : ∀ {vs : List V} {xs : List ((Int × Int) × β)}, RL F vs xs → ∃ (ps : List (Addr × Addr)) (kvs : List (List Key × V)),
    vs = (ps.map fun p => V.ref p.1) ∧ Paired (PairT K H) ps kvs ∧ RD F kvs xs
  | _, [], h => ⟨[], [], RL.nil_ h, .nil, .nil⟩
  | _, x :: xs, h => by
    obtain ⟨w, ws, rfl, h1, h2⟩ := RL.cons_ h
    obtain ⟨ps, kvs, e, hp, hr⟩ := pairsT_of_rl (K := K) s h2
    obtain ⟨p, v1, v2, rfl, hp1, h3, h4⟩ := R.t2_ h1
    obtain ⟨b, w1, w2, rfl, hb, h5, h6⟩ := R.t2_ h3
    rw [R.int_ h5, R.int_ h6] at hb
    exact ⟨(p, b) :: ps, ([.inl x.1.1, .inl x.1.2], v2) :: kvs, by rw [e]; rfl, .cons ⟨SqT.of (s _ _ hp1), s _ _ hb⟩ hp, .cons (k := x.1) h4 hr⟩
end
/-! ### max and min of a list -/
def mxI : List Int → Option Int
  | [] => none
  | x :: xs => match mxI xs with
    | none => some x
    | some m => some (if m < x then x else m)
def mnI : List Int → Option Int
  | [] => none
  | x :: xs => match mnI xs with
    | none => some x
    | some m => some (if x < m then x else m)
theorem mxI_none : ∀ {xs : List Int}, mxI xs = none → xs = []
  | [], _ => rfl
  | x :: xs, h => by
    unfold mxI at h
    cases e : mxI xs <;> rw [e] at h <;> exact nomatch h
theorem mnI_none : ∀ {xs : List Int}, mnI xs = none → xs = []
  | [], _ => rfl
  | x :: xs, h => by
    unfold mnI at h
    cases e : mnI xs <;> rw [e] at h <;> exact nomatch h
theorem mxI_is : ∀ {xs : List Int} {m : Int}, mxI xs = some m → m ∈ xs ∧ ∀ y ∈ xs, y ≤ m
  | [], _, h => nomatch h
  | x :: xs, m, h => by
    unfold mxI at h
    cases e : mxI xs with
    | none =>
      rw [e] at h
      cases h
      rw [mxI_none e]
      exact ⟨List.mem_cons_self, fun y hy => by rw [List.mem_singleton.mp hy]; exact Int.le_refl _⟩
    | some n =>
      rw [e] at h
      obtain ⟨h1, h2⟩ := mxI_is e
      have h : (if n < x then x else n) = m := Option.some.inj h
      by_cases z : n < x
      · rw [if_pos z] at h
        subst h
        refine ⟨List.mem_cons_self, fun y hy => ?_⟩
        rcases List.mem_cons.mp hy with hy | hy
        · omega
        · have := h2 y hy; omega
      · rw [if_neg z] at h
        subst h
        refine ⟨List.mem_cons_of_mem _ h1, fun y hy => ?_⟩
        rcases List.mem_cons.mp hy with hy | hy
        · omega
        · exact h2 y hy
theorem mnI_is : ∀ {xs : List Int} {m : Int}, mnI xs = some m → m ∈ xs ∧ ∀ y ∈ xs, m ≤ y
  | [], _, h => nomatch h
  | x :: xs, m, h => by
    unfold mnI at h
    cases e : mnI xs with
    | none =>
      rw [e] at h
      cases h
      rw [mnI_none e]
      exact ⟨List.mem_cons_self, fun y hy => by rw [List.mem_singleton.mp hy]; exact Int.le_refl _⟩
    | some n =>
      rw [e] at h
      obtain ⟨h1, h2⟩ := mnI_is e
      have h : (if x < n then x else n) = m := Option.some.inj h
      by_cases z : x < n
      · rw [if_pos z] at h
        subst h
        refine ⟨List.mem_cons_self, fun y hy => ?_⟩
        rcases List.mem_cons.mp hy with hy | hy
        · omega
        · have := h2 y hy; omega
      · rw [if_neg z] at h
        subst h
        refine ⟨List.mem_cons_of_mem _ h1, fun y hy => ?_⟩
        rcases List.mem_cons.mp hy with hy | hy
        · omega
        · exact h2 y hy
theorem mxI_uq {xs : List Int} {m n : Int} (h : mxI xs = some m) (h1 : n ∈ xs) (h2 : ∀ y ∈ xs, y ≤ n) : m = n := by
  have a := mxI_is h
  have b := a.2 n h1
  have c := h2 m a.1
  omega
theorem mnI_uq {xs : List Int} {m n : Int} (h : mnI xs = some m) (h1 : n ∈ xs) (h2 : ∀ y ∈ xs, n ≤ y) : m = n := by
  have a := mnI_is h
  have b := a.2 n h1
  have c := h2 m a.1
  omega
section
variable {X : Cx} {K : PySem.W.Frag}
theorem cr_maxK (hc : X.calm = true) (h : X.K = K) : CallR X (.builtin "max") (rMax K) := by rw [← h]; exact cr_max hc
theorem cr_minK (hc : X.calm = true) (h : X.K = K) : CallR X (.builtin "min") (rMin K) := by rw [← h]; exact cr_min hc
end
end PG

set_option Elab.async false
set_option linter.all false
set_option maxRecDepth 100000
set_option maxHeartbeats 4000000
namespace PG
open PySem PySem.Spec PyProof.Rows L2
open PySem.W (T3 T4 Datum DatumOrd Holds HoldAll EachIs)
/-! ### an exception that was caught and is kept: tracked from then on -/
def excAt (cls : Value) (d : Option Addr) (a : Addr) : Heap → Prop := fun h => ∃ o vs, h.get? a = some o ∧ Zc cls d o ∧ o.data = .fields vs
def excO (cls : Value) (d : Option Addr) (a : Addr) : HO := .ext (excAt cls d a)
section
variable {X : Cx} {pins : List (Addr × Obj)} {σ : L2.St} {H : Hp} {s : Shared}
theorem adopt {a : Addr} {cls : Value} {d : Option Addr} (I : L2.Inv X pins σ H s) (ha : H a = none) (hp : excAt cls d a s.heap) (h0 : X.s_0.heap.get? a = none) (nL : a ≠ X.env.locals) (np : ∀ p ∈ X.pn ++ pins, p.1 ≠ a) :
    L2.Inv X pins σ (upd H a (excO cls d a)) s := by
  obtain ⟨o, vs, ho, hz, hd⟩ := id hp
  have keep : ∀ {b : Addr} {u : HO}, H b = some u → upd H a (excO cls d a) b = some u := fun {b u} q => (upd_ne (ne_of_none q ha)).trans q
  have bare : ∀ {b : Addr}, b ≠ a → H b = none → upd H a (excO cls d a) b = none := fun {b} z q => (upd_ne z).trans q
  refine ⟨I.ok, I.os, I.bare, ⟨I.base.keep, I.base.slot, fun b u q n hx => bare (fun z => ?_) (I.base.free b u q n hx), I.base.there, fun b xs q => keep (I.base.tups b xs q), fun b u v q => keep (I.base.frzs b u v q), fun b ps q => ?_⟩, I.loc, I.cell, bare (Ne.symm nL) I.free, fun y k e => bare (fun z => ?_) (I.freeC y k e), fun p hq => ?_, ?_, I.len⟩
  · rw [z, h0] at q; exact nomatch q
  · obtain ⟨more, r⟩ := I.base.tbls b ps q
    exact ⟨more, keep r⟩
  · obtain ⟨v, w, hw, hv⟩ := I.cell y k e
    rw [z, ho] at hw
    cases hw
    rw [hd] at hv
    exact nomatch hv
  · obtain ⟨q1, q2, q3⟩ := I.pin p hq
    exact ⟨q1, bare (np p hq) q2, q3⟩
  · exact L2.HOk.laidN I.hok (fun _ _ q => q) ha ⟨hp, ⟨o, ho⟩, fun g1 g2 x k => x.imp fun o' y => y.imp fun vs' z => ⟨k _ z.1, z.2⟩⟩
end
/-- what the clause 'except x as n', whose suite keeps the exception, wishes -/
def wKeep (K : PySem.W.Frag) (c : Value) (i : Nat) (ts : Addr → TS) (out : WX) (D : Ends) : WX := fun cls d σ H =>
  ∃ b, PySem.W.exmOne K cls c = some b ∧ (b = true → ∀ a, H a = none → ts a { nx := fun σ' H' => D.nx (σ'.set i none) (upd H' a (excO cls d a)), rt := fun _ _ => False, bk := fun _ _ => False, ct := fun _ _ => False } (σ.set i (some (.ref a))) H) ∧ (b = false → out cls d σ H)
section
variable {X : Cx} {x n : Str} {c : Value} {i : Nat} {body suite : List Stmt} {b1 : Stmt} {np q1 q2 : Pos} {tb : WX → TS} {ts : Addr → TS} {out : WX}
theorem ps_try_keep (hs : X.stack = X.env :: X.outer) (hf : X.env.frame = some X.env.locals) (hex : X.ex = []) (hN : X.N.Nodup) (hi : X.N[i]? = some n) (hl : X.env.kindOf n = some .local) (hc : Names X x c) (tk : Takes X out)
    (hb : ∀ (W : WX) (pn : List (Addr × Obj)) (xe : Value → Shared → Prop), Takes (X.tr pn xe) W → PassesOwn (model X.prog X.w) X.A X.env xe → PSs (X.tr pn xe) body (tb W))
    (hsu : ∀ (a : Addr) (o : Obj) (pn : List (Addr × Obj)), PSs (X.suite a ((a, o) :: pn)) (b1 :: suite) (ts a)) :
    PS X (.Try body [.ExceptHandler (some (.Name x np)) (some n) (b1 :: suite) q1] [] [] q2) (fun D σ H => tb (wKeep X.K c i ts out D) D σ H) := by
  refine ⟨fun pins s σ H D I wish => wpAny_Try_except ?_⟩
  have ok := I.ok
  have hfr : X.A.frames = some (X.env :: X.outer) := ok.frames.trans (by rw [hs])
  have run := (hb (wKeep X.K c i ts out D) (X.pn ++ pins) (fun e g1 => wpAny (model X.prog X.w) X.A (noteFrame e X.env) (fun _ g2 => wpAny (model X.prog X.w) X.A (setFlight e none)
    (fun _ g3 => wpAny (model X.prog X.w) X.A (handleBy e X.env [.ExceptHandler (some (.Name x np)) (some n) (b1 :: suite) q1]) (SP X pins D) X.xe g3) X.xe g2) X.xe g1)
    (fun u g ⟨a, B, sI, ps, τ, G, cls, d, eu, J0, nb, up, sky, na, eos, ag, b, hb1, yes, no⟩ => by
      subst eu
      have J : L2.Inv X pins τ G sI := J0.ofTry ok
      show wpAny (model X.prog X.w) X.A (noteFrame (.ref a) X.env) _ _ _
      refine Sky.land Zc.steady hfr hf (show Sky B (X.env :: X.outer) a (Zc cls d) X.env.locals g.heap by rw [← hs]; exact sky) fun k1 fl1 up1 => ?_
      have J1 : L2.Inv X pins τ G { g with heap := k1 } := J.landed nb fl1.1 (up.trans up1) eos ag
      obtain ⟨o1, vs1, ho1, hz1, hd1⟩ := fl1.there
      have off : a ∉ frs (X.env :: X.outer) := fun hm => by
        obtain ⟨_, o', eo, hnf⟩ := fl1.2.2.1.mem hm
        rw [ho1] at eo
        cases eo
        exact hnf _ hd1
      have nL : a ≠ X.env.locals := fun z => off (List.mem_filterMap.mpr ⟨X.env, List.mem_cons_self, by rw [hf, z]⟩)
      have nF : a ∉ X.fs := fun hm => by
        obtain ⟨e, he, q⟩ := List.mem_filterMap.mp hm
        exact off (List.mem_filterMap.mpr ⟨e, List.mem_cons_of_mem _ he, q⟩)
      have young : ∀ o, sI.heap.get? a ≠ some o := fun o q => by
        have z := nb a o q (by rw [hs]; exact off)
        rw [fl1.2.1] at z
        exact nomatch z
      have h0 : X.s_0.heap.get? a = none := by
        cases q : X.s_0.heap.get? a with
        | none => rfl
        | some o =>
          obtain ⟨o', z⟩ := J.base.there a o q (by rw [hex]; exact fun z => nomatch z)
          exact (young _ z).elim
      have offp : ∀ p ∈ X.pn ++ pins, p.1 ≠ a := fun p hp z => young p.2 (by rw [← z]; exact (J.pin p hp).1)
      have S1 := J1.suite ho1 hd1 na nL nF
      refine wpAny_handleBy_cons (codeAny_handlers_test ?_) (fun q => nomatch q)
      have look : PySem.W.Looks (model X.prog X.w) k1 (typeOf (.ref a)) cls := fun _ _ _ _ k q => wpAny_typeOf_ref (k _ _ ho1) (by rw [hz1.1]; exact q)
      have match_ := PySem.W.exm_one (M := model X.prog X.w) J1.kIn look hb1
      have named : ∀ {Q : Value → Shared → Prop} {E : Value → Shared → Prop}, Q c { g with heap := k1 } → wpAny (model X.prog X.w) (X.A.mark (some (.ref a))) (eval (.Name x np) X.env) Q E { g with heap := k1 } := fun {Q E} q => by
        obtain ⟨hg, hdbg, hm | ⟨hm, hv, hnn⟩⟩ := hc
        · exact ld_glob (X := X.suite a ((a, o1) :: (X.pn ++ pins))) S1 hg hm q hdbg
        · exact ld_blt (X := X.suite a ((a, o1) :: (X.pn ++ pins))) S1 hg hm hv q hnn hdbg
      refine named (match_.here ?_)
      cases b with
      | true =>
        refine codeAny_handlers_suite_as (HandSPX.lands_againZ fl1 fun k2 fl2 up2 => ?_)
        have J2 : L2.Inv X pins τ G { g with heap := k2 } := J.landed nb fl2.1 ((up.trans up1).trans up2) eos ag
        obtain ⟨o2, vs2, ho2, hz2, hd2⟩ := fl2.there
        refine store_ok (X := X.suite a ((a, o2) :: (X.pn ++ pins))) (v := .ref a) (J2.suite ho2 hd2 na nL nF) hN hi (.inl hl) rfl (fun g5 S5 => ?_) (.inr hl)
        refine wpAny_mono ((hsu a o2 (X.pn ++ pins)).run [] g5 _ G _ S5 (yes rfl a na)) (fun f g6 hsp => ?_) (fun _ _ z => z.elim)
        cases f with
        | next =>
          obtain ⟨τ6, G6, S6, q6⟩ := hsp
          refine gone_ok (X := X.suite a ((a, o2) :: (X.pn ++ pins))) S6 hN hi hl fun g7 S7 => ?_
          obtain ⟨hget, hn7, _⟩ := S7.pin (a, o2) (List.mem_append_left _ List.mem_cons_self)
          exact ⟨_, _, adopt (S7.unsuite ok) hn7 ⟨o2, vs2, hget, hz2, hd2⟩ h0 nL offp, q6⟩
        | brk => obtain ⟨_, _, _, q6⟩ := hsp; exact q6.elim
        | cont => obtain ⟨_, _, _, q6⟩ := hsp; exact q6.elim
        | ret u => obtain ⟨_, _, _, _, _, q6⟩ := hsp; exact q6.elim
      | false =>
        refine wpAny_handleBy_nil ?_
        obtain ⟨_, _, _, o3, vs3, T, oT, ts3, he, hz, hd, h1, hr⟩ := id fl1
        unfold PySem.passOn
        refine wpAny_bind (wpAny_field he hd h1 ?_)
        rw [if_neg (by simp : ¬ ((Value.ref T == Value.none) = true))]
        have up_ : wpAny (model X.prog X.w) X.A (setFlight (.ref a) X.env.frame) (fun _ g4 => wpAny (model X.prog X.w) X.A (throw (.ref a) : Sem Flow) (SP X pins D) X.xe g4) X.xe { g with heap := k1 } := by
          rw [hf]
          exact HandSPX.setFlight_upZ fl1 fun k2 fl2 up2 => wpAny_throw (tk _ _ ⟨a, B, sI, pins, τ, G, cls, d, rfl, J, nb, (up.trans up1).trans up2, .inr (.inr (by rw [hs]; exact fl2)), na, eos, ag, no rfl⟩)
        first
          | exact wpAny_bind up_
          | exact wpAny_bind (wpAny_pure (wpAny_bind up_)))
    PassesOwn.looking).run [] s σ H D (I.toTry _) wish
  refine wpAny_mono run (fun f g hsp => ?_) (fun _ _ z => z)
  cases f with
  | next => obtain ⟨τ, G, J, q⟩ := hsp; exact wpAny_execs_nil ⟨τ, G, J.ofTry ok, q⟩
  | brk => obtain ⟨τ, G, J, q⟩ := hsp; exact ⟨τ, G, J.ofTry ok, q⟩
  | cont => obtain ⟨τ, G, J, q⟩ := hsp; exact ⟨τ, G, J.ofTry ok, q⟩
  | ret u => obtain ⟨v, τ, G, J, r, q⟩ := hsp; exact ⟨v, τ, G, J.ofTry ok, r, q⟩
end
/-! ### isinstance of what was caught -/
section
variable {X : Cx}
theorem inst_of {a D : Addr} {h : Heap} (x : excAt (.ref D) none a h) : ∃ o, PySem.W.InstAt h a o D none := by
  obtain ⟨⟨oc, od, oda, osl⟩, vs, hg, ⟨h1, h2⟩, h3⟩ := x
  dsimp only at h1 h2 h3
  subst h1 h2 h3
  exact ⟨_, hg, rfl, rfl, trivial⟩
/-- whose class is t: what was caught, or a value of a built-in type -/
inductive KX (K : PySem.W.Frag) (H : Hp) : V → Value → Prop where
  | exc {a D : Addr} (e : H a = some (excO (.ref D) none a)) (c : ExcC K D) : KX K H (.ref a) (.ref D)
  | base {x : V} {t : Value} (h : TyX K H x t) : KX K H x t
theorem kx_of {pins : List (Addr × Obj)} {σ : L2.St} {H : Hp} {s : Shared} {x : V} {u t : Value} (I : L2.Inv X pins σ H s) (rx : RelV x u) (k : KX X.K H x t) : ∃ P : Heap → Prop, PySem.W.KitX X.K u t P ∧ P s.heap ∧ u ≠ .builtin "__main__.__loader__#opaque" := by
  cases k with
  | @exc a D e C =>
    cases (show u = Value.ref a from rx)
    obtain ⟨o, J⟩ := inst_of (show excAt (.ref D) none a s.heap from (I.hok a _ e).1)
    exact ⟨_, PySem.W.handS_kitx_exc C.hg C.hk C.hs C.hd C.ha C.hn C.ht C.hm, J, fun z => nomatch z⟩
  | base h => exact kit_of I rx h
def rIsU (K : PySem.W.Frag) : List V → Hp → VK → Prop := fun xs H Q => ∃ (x c : V) (t u : Value) (b : Bool), xs = [x, c] ∧ ClsV c u ∧ KX K H x t ∧ PySem.W.kitOne K t u = some b ∧ Q (.bl b) H
theorem isuK {K : PySem.W.Frag} (hK : X.K = K) : CallR X (.builtin "isinstance") (rIsU K) := by
  subst hK
  intro pins s σ H xs us Q I r ⟨x, c, t, u, b, ex, hc, k, e, q⟩
  subst ex
  obtain ⟨u1, u2, rfl, r1, r2⟩ := vals2 r
  cases hc.eq r2
  obtain ⟨P, Z, p, hx⟩ := kx_of I r1 k
  exact PySem.W.kia_one Z I.kIn p e hx fun tk => ⟨.bl b, H, I.tok tk, rfl, q⟩
def rIsUT (K : PySem.W.Frag) : List V → Hp → VK → Prop := fun xs H Q => ∃ (x : V) (tp : Addr) (cs : List V) (t : Value) (ws : List Value) (b : Bool), xs = [x, .ref tp] ∧ H tp = some (.tup cs) ∧ Paired ClsV cs ws ∧ KX K H x t ∧ PySem.W.kitAny K t ws = some b ∧ Q (.bl b) H
theorem isutK {K : PySem.W.Frag} (hK : X.K = K) : CallR X (.builtin "isinstance") (rIsUT K) := by
  subst hK
  intro pins s σ H xs us Q I r ⟨x, tp, cs, t, ws, b, ex, hT, hc, k, e, q⟩
  subst ex
  obtain ⟨u1, u2, rfl, r1, r2⟩ := vals2 r
  cases (show u2 = Value.ref tp from r2)
  obtain ⟨P, Z, p, hx⟩ := kx_of I r1 k
  obtain ⟨_, its, rv, ⟨oc, od, dt, sl⟩, h1, h2, n, h3⟩ := (show ObjOk X.prog X.w H s.heap tp (.tup cs) from I.hok tp _ hT)
  have e3 := ClsV.all hc rv
  subst e3
  dsimp only at h2 h3
  subst h2 h3
  exact PySem.W.kia_tup Z I.kIn p h1 e hx fun tk => ⟨.bl b, H, I.tok tk, rfl, q⟩
end
theorem kit_own {K : PySem.W.Frag} {t : Value} {C : Addr} {b : Bool} (hd : PySem.W.hasDictIn K C = true) (ht : PySem.W.typeIn K (.ref C) = some (.type "type")) (hs : PySem.W.subIn K t (.ref C) = some b) (ho : PySem.W.subIn K (.ref C) (.ref C) = some true) : PySem.W.kitOne K t (.ref C) = some b := by
  obtain ⟨cd, hc, _⟩ := PySem.W.any_some hd
  unfold PySem.W.kitOne PySem.W.kitCls
  by_cases z : (t == .ref C) = true
  · rw [if_pos z]
    have z := beq_iff_eq.mp z
    subst z
    exact ho.symm.trans hs
  · rw [if_neg z]
    show (if ((PySem.W.clsIn K C).isSome && PySem.W.typeIn K (.ref C) == some (.type "type")) = true then _ else _) = _
    rw [if_pos (by rw [hc, ht]; rfl)]
    exact hs
theorem kit_blt {K : PySem.W.Frag} {D : Addr} {T : String} {b : Bool} (hm : PySem.W.kitMeta T = true) (hs : PySem.W.subIn K (.ref D) (.type T) = some b) : PySem.W.kitOne K (.ref D) (.type T) = some b := by
  unfold PySem.W.kitOne PySem.W.kitCls
  rw [if_neg (by simp)]
  show (if PySem.W.kitMeta T = true then _ else _) = _
  rw [if_pos hm]
  exact hs
theorem any_no {K : PySem.W.Frag} {t c : Value} {cs : List Value} {r : Bool} (h : PySem.W.kitOne K t c = some false) (hr : PySem.W.kitAny K t cs = some r) : PySem.W.kitAny K t (c :: cs) = some r := kitAny_cons h (fun _ => hr) fun z => nomatch z
theorem any_yes {K : PySem.W.Frag} {t c : Value} {cs : List Value} (h : PySem.W.kitOne K t c = some true) : PySem.W.kitAny K t (c :: cs) = some true := kitAny_cons h (fun z => nomatch z) fun _ => rfl
/-! ### a call within a try -/
def tCallW (sp : Sp) (W : WX) (t : TA) : TE := fun σ H Q => t σ H fun vs H1 => sp vs H1 Q fun cls d H' => W cls d σ H'
theorem pe_callW {X : Cx} {k : Nat} {f : Addr} {fd : FuncData} {ps : List Str} {sp : Sp} {W : WX} {x : Str} {p pos : Pos} {e : Expr} {es : List Expr} {t : TA} (F : FnOk X.prog X.w X.K X.mg X.base (L2.CX X.prog X.w) k f fd ps sp) (hr : Room k X.A) (hg : Gl X x) (hm : X.mg x = some (.ref f)) (hk : PySem.W.keepIn X.K (.ref f) = true) (hb : Binds X.K fd ps [])
    (tk : Takes X W) (ha : PA X (e :: es) t) (hdb : (x == ("__debug__" : Str)) = false := by decide) (he : starEach (e :: es) X.env = (false, eval e X.env) :: starEach es X.env := by rfl) (hpl : (backTo pos (starEach es X.env)).any (·.1) = false := by rfl) :
    PE X (.Call (.Name x p) (e :: es) [] pos) (tCallW sp W t) := by
  refine ⟨fun pins s σ H Q I h => wpAny_Call_Name_kw (ld_glob I hg hm ?_ hdb)⟩
  refine PySem.W.callWith_K (h₀ := X.base) I.ok.mod.kin hk (thn (ha.run pos pins s σ H _ I h) fun us g ⟨vs, G, J, r, q⟩ => ⟨J.kIn, ?_⟩) he hpl
  have hl : us.length = ps.length := by rw [← r.length]; exact F.len _ _ _ _ q
  refine wpAny_call (codeAny_mono (F.run X.A X.stack g G ⟨us, []⟩ us vs Q (fun cls d H' => W cls d σ H') hr J.env0 (by have := hb g us J.kIn (by simpa using hl); simpa using this) r q) fun res g' hq => ?_)
  cases res with
  | error z => exact tk _ _ (XE.of_call J (fun _ _ _ h => h) hq)
  | ok fl =>
    cases fl with
    | ret u => exact J.after hq
    | next => exact hq.elim
    | brk => exact hq.elim
    | cont => exact hq.elim
/-- try: m, except one of those of L: k1, else k0 -/
def tryK {a : Type} (L : List String) (m : M Unit) (k0 : M a) (k1 : String → M a) : M a := match m with
  | .ok _ => k0
  | .error .bad => bad
  | .error (.exc n) => if n ∈ L then k1 n else bad
theorem wp_tryK {b : Type} {L : List String} {m : M Unit} {k0 : M b} {k1 : String → M b} {Q : b → Prop} {E : String → Prop} (h : wp (tryK L m k0 k1) Q E) : wp m (fun _ => wp k0 Q E) fun n => n ∈ L ∧ wp (k1 n) Q E := by
  cases m with
  | ok x => exact h
  | error e =>
    cases e with
    | bad => exact h
    | exc n =>
      by_cases z : n ∈ L
      · have e : tryK L (.error (.exc n)) k0 k1 = k1 n := if_pos z
        rw [e] at h
        exact ⟨z, h⟩
      · have e : tryK L (.error (.exc n)) k0 k1 = bad := if_neg z
        rw [e] at h
        exact h.elim
theorem wp_okE {a : Type} {x : a} {Q : a → Prop} {E : String → Prop} (h : wp (.ok x : M a) Q E) : Q x := h
theorem Ow.exc {Z : Ent} {F H H1 : Hp} {cs : List (Addr × HO)} (O : Ow Z F cs H) (k : Kp [] H H1) : Ow Z F cs H1 where
  g := {
    f := O.g.f
    s := fun b o e => k.k b o (fun z => nomatch z) (O.g.s b o e)
    k := fun b o hb e => k.k b o (fun z => nomatch z) (O.g.k b o hb e)
    t := fun b h => k.t b (O.g.t b h)
    n := O.g.n
    u := fun b xs e => by
      cases q : H b with
      | none =>
        left
        cases z : Z.H b with
        | none => rfl
        | some o => exact (O.g.t b (by rw [z]; exact fun w => nomatch w) q).elim
      | some o =>
        have := k.k b o (fun z => nomatch z) q
        rw [e] at this
        cases this
        exact O.g.u b xs q }
  cf := O.cf
  ch := fun c hc => k.k _ _ (fun z => nomatch z) (O.ch c hc)
  nd := O.nd
  ca := O.ca
  nt := O.nt
theorem mem1 {n a : String} (h : n ∈ [a]) : n = a := List.mem_singleton.mp h
theorem mem2 {n a b : String} (h : n ∈ [a, b]) : n = a ∨ n = b := by simpa using h
/-! ### lists of truths: count, index -/
theorem RL.bools {H : Hp} : ∀ {vs : List V} {xs : List Bool}, RL H vs xs → vs = xs.map V.bl
  | _, [], h => RL.nil_ h
  | _, x :: xs, h => by
    obtain ⟨w, ws, rfl, h1, h2⟩ := RL.cons_ h
    rw [R.bl_ h1, RL.bools h2]
    rfl
def cntB (k : Bool) : List Bool → Int
  | [] => 0
  | y :: r => (if y = k then 1 else 0) + cntB k r
theorem cnt_in (k : Bool) : ∀ bs : List Bool, PySem.Spec.countIn (.bool k) (bs.map PyData.bool) = cntB k bs
  | [] => rfl
  | b :: bs => by
    show (if same (PyData.bool b) (PyData.bool k) = true then (1 : Int) else 0) + PySem.Spec.countIn _ _ = _
    rw [cnt_in k bs]
    cases b <;> cases k <;> rfl
theorem bools_vals : ∀ {bs : List Bool} {its : List Value}, Vals (bs.map V.bl) its → its = bs.map Value.bool
  | [], its, r => by rw [List.map_nil] at r; cases r; rfl
  | b :: bs, its, r => by
    rw [List.map_cons] at r
    cases r with
    | cons h t => cases h; rw [List.map_cons, ← bools_vals t]
theorem reads_bools {hp : Heap} : ∀ bs : List Bool, ReadsAll hp (bs.map Value.bool) (bs.map PyData.bool) []
  | [] => .nil
  | b :: bs => .cons (as := []) (bs := []) (.bool b) (reads_bools bs)
def rCntB (K : PySem.W.Frag) : V → List V → Hp → VK → Prop := fun x xs H Q => ∃ (a : Addr) (bs : List Bool) (k : Bool), x = .ref a ∧ xs = [.bl k] ∧ SqL K H a (bs.map V.bl) ∧ Q (.int (cntB k bs)) H
theorem countBK {X : Cx} {K : PySem.W.Frag} (hK : X.K = K) : MtR X "list.count" (rCntB K) := by
  subst hK
  intro pins s σ H x xs v us Q I rx r ⟨a, bs, k, ex, exs, hs, q⟩
  subst ex exs
  cases rx
  obtain ⟨u, rfl, ru⟩ := vals1 r
  cases ru
  obtain ⟨its, rv, pl, _⟩ := I.list hs
  cases bools_vals rv
  refine count_list_bools (hp := s.heap) (xs := bs.map PyData.bool) pl.isList (reads_bools bs) (List.all_eq_true.mpr fun y hy => ?_) ?_
  · obtain ⟨b, _, rfl⟩ := List.mem_map.mp hy
    rfl
  · rw [cnt_in]
    exact ⟨.int (cntB k bs), H, I.tok _, ⟨_, rfl⟩, q⟩
def ixB (xs : List Bool) (y : Bool) : M Int := if y ∈ xs then .ok ((xs.findIdx (· == y) : Nat) : Int) else bad
theorem wp_ixB {a : Type} {Q : a → Prop} {E : String → Prop} {xs : List Bool} {y : Bool} {k : Int → M a} (h : wp (ixB xs y >>= k) Q E) : ∃ j, xs.findIdx (· == y) = j ∧ xs[j]? = some y ∧ (∀ (m : Nat) z, m < j → xs[m]? = some z → z ≠ y) ∧ wp (k (j : Int)) Q E := by
  unfold ixB at h
  by_cases hm : y ∈ xs
  · rw [if_pos hm] at h
    have hlt : xs.findIdx (· == y) < xs.length := List.findIdx_lt_length_of_exists ⟨y, hm, by simp⟩
    refine ⟨_, rfl, ?_, fun m z hmj hz e => ?_, h⟩
    · rw [List.getElem?_eq_getElem hlt]
      have := List.findIdx_getElem (w := hlt)
      rw [eq_of_beq this]
    · have := List.not_of_lt_findIdx hmj
      obtain ⟨hl, hz⟩ := List.getElem?_eq_some_iff.mp hz
      rw [hz, e] at this
      simp at this
  · rw [if_neg hm] at h; exact h.elim
theorem all_flat_bl : ∀ xs : List Bool, (xs.map V.bl).all flatV = true
  | [] => rfl
  | x :: xs => by rw [List.map_cons, List.all_cons, all_flat_bl xs]; rfl
theorem bl_noeq {xs : List Bool} {y : Bool} {j : Nat} (h : ∀ (m : Nat) z, m < j → xs[m]? = some z → z ≠ y) : ∀ (m : Nat) (z' : V), m < j → (xs.map V.bl)[m]? = some z' → eqV z' (.bl y) = false := fun m z' hm hz => by
  rw [List.getElem?_map] at hz
  cases e : xs[m]? with
  | none => rw [e] at hz; cases hz
  | some z =>
    rw [e] at hz
    have hz : V.bl z = z' := Option.some.inj hz
    subst hz
    have := h m z hm e
    revert this
    cases z <;> cases y <;> intro this <;> first | rfl | exact (this rfl).elim
theorem bl_at {xs : List Bool} {y : Bool} {j : Nat} (h : xs[j]? = some y) : (xs.map V.bl)[j]? = some (.bl y) := by rw [List.getElem?_map, h]; rfl
theorem bl_eq {y : Bool} : eqV (.bl y) (.bl y) = true := by cases y <;> rfl
/-- x in xs, of data that are no scalars -/
def inD {a : Type} [DecidableEq a] (x : a) (xs : List a) : Prop := x ∈ xs
instance {a : Type} [DecidableEq a] (x : a) (xs : List a) : Decidable (inD x xs) := @List.instDecidableMemOfLawfulBEq a instBEqOfDecidableEq _ x xs
theorem iteDx {c A B : Prop} {i : Decidable c} (h1 : c → A) (h2 : ¬ c → B) : if @decide c i = true then A else B := @iteD c A B i h1 h2
theorem iteNx {c A B : Prop} {i : Decidable c} (h1 : c → B) (h2 : ¬ c → A) : if (!@decide c i) = true then A else B := @iteN c A B i h1 h2
theorem sl43 (a b c d : V) : ¬ (HT.sIx [a, b, c, d].length 0 none = 0 ∧ HT.sIx [a, b, c, d].length [a, b, c, d].length (some (3 : Int)) = [a, b, c, d].length) := fun h => absurd h.2 (by show ¬ (HT.sIx 4 4 (some (3 : Int)) = 4); decide)
theorem dgetD_S {β : Type} [Py β] {F H : Hp} {a : Addr} {kvs : List (Key × V)} {i : Str} {xs : List (Str × β)} {z : V} {y : β} (e : H a = some (.dK kvs)) (hr : RD F kvs xs) (hz : R F z y) : ∃ o, DGet H a (.str i) o ∧ R F (o.getD z) ((dGet xs i).getD y) := by
  refine ⟨valV kvs (.inr i), DGet.k (k := .inr i) e, ?_⟩
  rcases hr.get i with ⟨h1, h2⟩ | ⟨u, v, h1, h2, h3⟩
  · rw [h1, show valV kvs (.inr i) = none from h2]; exact hz
  · rw [h1, show valV kvs (.inr i) = some v from h2]; exact h3
end PG

set_option Elab.async false
set_option linter.all false
set_option maxRecDepth 100000
set_option maxHeartbeats 4000000
namespace PG
open PySem PySem.Spec PyProof.Rows L2
open PySem.W (T3 T4 Datum DatumOrd Holds HoldAll EachIs)
/-! ### a list of lists that are all ours: the outer cell and the inner ones, any number of them, behind the other cells -/
abbrev LCV := Addr × List V
def lcV (c : LCV) : Addr × HO := (c.1, .lst c.2)
def llC (p : Addr) (ps : List LCV) : List (Addr × HO) := (p, .lst (ps.map fun c => V.ref c.1)) :: ps.map lcV
/-- the inner lists stand for these -/
inductive LLR {a : Type} [Py a] (F : Hp) : List LCV → List (List a) → Prop
  | nil : LLR F [] []
  | cons {c : LCV} {xs : List a} {ps : List LCV} {p : List (List a)} : RL F c.2 xs → LLR F ps p → LLR F (c :: ps) (xs :: p)
section
variable {a : Type} [Py a] {F F' : Hp}
theorem LLR.mono {ps : List LCV} {p : List (List a)} (h : LLR F ps p) (s : Same F F') : LLR F' ps p := by
  induction h with
  | nil => exact .nil
  | cons h _ ih => exact .cons (h.mono s) ih
theorem LLR.len {ps : List LCV} {p : List (List a)} (h : LLR F ps p) : ps.length = p.length := by
  induction h with
  | nil => rfl
  | cons _ _ ih => rw [List.length_cons, List.length_cons, ih]
theorem LLR.got {ps : List LCV} {p : List (List a)} (h : LLR F ps p) : ∀ {j : Nat} {xs : List a}, p[j]? = some xs → ∃ c, ps[j]? = some c ∧ RL F c.2 xs := by
  induction h with
  | nil => intro j xs e; simp at e
  | @cons c ys ps p h _ ih =>
    intro j xs e
    cases j with
    | zero =>
      have e : ys = xs := Option.some.inj e
      subst e
      exact ⟨c, rfl, h⟩
    | succ j => exact ih e
theorem LLR.set {ps : List LCV} {p : List (List a)} (h : LLR F ps p) {w : List V} {xs : List a} (hw : RL F w xs) (q : Addr) : ∀ j : Nat, LLR F (ps.set j (q, w)) (p.set j xs) := by
  induction h with
  | nil => intro j; exact .nil
  | cons h hs ih =>
    intro j
    cases j with
    | zero => exact .cons hw hs
    | succ j => exact .cons h (ih j)
theorem LLR.snoc {ps : List LCV} {p : List (List a)} (h : LLR F ps p) {w : List V} {xs : List a} (hw : RL F w xs) (q : Addr) : LLR F (ps ++ [(q, w)]) (p ++ [xs]) := by
  induction h with
  | nil => exact .cons hw .nil
  | cons h _ ih => exact .cons h ih
end
section
variable {Z : Ent} {F H : Hp} {S : List (Addr × HO)} {p : Addr} {ps : List LCV} {c : LCV} {j : Nat}
theorem ref_set (hj : ps[j]? = some c) (w : List V) : ((ps.set j (c.1, w)).map fun c => V.ref c.1) = ps.map fun c => V.ref c.1 := by
  refine List.ext_getElem? fun i => ?_
  rw [List.getElem?_map, List.getElem?_map, List.getElem?_set]
  by_cases h : j = i
  · subst h
    rw [if_pos rfl, hj]
    rw [if_pos (List.getElem?_eq_some_iff.mp hj).1]
    rfl
  · rw [if_neg h]
theorem llC_at (hj : ps[j]? = some c) : (S ++ llC p ps)[S.length + 1 + j]? = some (c.1, .lst c.2) := by
  rw [List.getElem?_append_right (by omega)]
  show (llC p ps)[S.length + 1 + j - S.length]? = _
  rw [show S.length + 1 + j - S.length = j + 1 by omega]
  show (ps.map lcV)[j]? = _
  rw [List.getElem?_map, hj]
  rfl
theorem llC_top : (S ++ llC p ps)[S.length]? = some (p, .lst (ps.map fun c => V.ref c.1)) := by
  rw [List.getElem?_append_right (Nat.le_refl _), Nat.sub_self]
  rfl
theorem Ow.llAt (O : Ow Z F (S ++ llC p ps) H) (hj : ps[j]? = some c) : H c.1 = some (.lst c.2) := O.at _ (llC_at hj)
theorem Ow.llTop (O : Ow Z F (S ++ llC p ps) H) : H p = some (.lst (ps.map fun c => V.ref c.1)) := O.at _ llC_top
/-- one of the inner lists becomes w -/
theorem Ow.llSet (O : Ow Z F (S ++ llC p ps) H) (hj : ps[j]? = some c) (w : List V) : Ow Z F (S ++ llC p (ps.set j (c.1, w))) (upd H c.1 (.lst w)) := by
  have z := O.set (S.length + 1 + j) (.lst w) (llC_at hj)
  have e : (S ++ llC p ps).set (S.length + 1 + j) (c.1, .lst w) = S ++ llC p (ps.set j (c.1, w)) := by
    rw [List.set_append_right _ _ (by omega), show S.length + 1 + j - S.length = j + 1 by omega]
    unfold llC
    rw [ref_set hj w, List.set_cons_succ, List.map_set]
    rfl
  rw [e] at z
  exact z
/-- a new inner list goes behind -/
theorem Ow.llPush {q : Addr} {w : List V} (O : Ow Z F ((q, .lst w) :: (S ++ llC p ps)) H) : Ow Z F (S ++ llC p (ps ++ [(q, w)])) (upd H p (.lst ((ps.map fun c => V.ref c.1) ++ [V.ref q]))) := by
  have z := O.set (S.length + 1) (.lst ((ps.map fun c => V.ref c.1) ++ [V.ref q])) (show ((q, HO.lst w) :: (S ++ llC p ps))[S.length + 1]? = some (p, _) from llC_top)
  refine z.perm ?_
  have e : ((q, HO.lst w) :: (S ++ llC p ps)).set (S.length + 1) (p, .lst ((ps.map fun c => V.ref c.1) ++ [V.ref q])) = (q, HO.lst w) :: (S ++ ((p, .lst ((ps.map fun c => V.ref c.1) ++ [V.ref q])) :: ps.map lcV)) := by
    rw [List.set_cons_succ, List.set_append_right _ _ (Nat.le_refl _), Nat.sub_self]
    rfl
  rw [e]
  unfold llC
  rw [List.map_append, List.map_append]
  show ((q, HO.lst w) :: (S ++ ((p, HO.lst ((ps.map fun c => V.ref c.1) ++ [V.ref q])) :: ps.map lcV))).Perm (S ++ ((p, HO.lst ((ps.map fun c => V.ref c.1) ++ [V.ref q])) :: (ps.map lcV ++ [(q, HO.lst w)])))
  have e2 : S ++ ((p, HO.lst ((ps.map fun c => V.ref c.1) ++ [V.ref q])) :: (ps.map lcV ++ [(q, HO.lst w)])) = (S ++ ((p, HO.lst ((ps.map fun c => V.ref c.1) ++ [V.ref q])) :: ps.map lcV)) ++ [(q, HO.lst w)] := by
    rw [List.append_assoc, List.cons_append]
  rw [e2]
  exact (List.perm_append_singleton _ _).symm
/-- an empty one: a new outer list -/
theorem Ow.llNew (O : Ow Z F ((p, .lst []) :: S) H) : Ow Z F (S ++ llC p []) H := O.perm (List.perm_append_singleton _ _).symm
theorem Ow.frzM {A B : List (Addr × HO)} {b : Addr} {o : HO} (O : Ow Z F (A ++ (b, o) :: B) H) (hz : Z.H b = none) : ∃ F', Ow Z F' (A ++ B) H ∧ Same F F' ∧ F' b = some o := by
  have e : (A ++ (b, o) :: B)[A.length]? = some (b, o) := by rw [List.getElem?_append_right (Nat.le_refl _), Nat.sub_self]; rfl
  obtain ⟨F', O', s, h⟩ := O.frzE A.length e hz
  rw [List.eraseIdx_append_of_length_le (Nat.le_refl _), Nat.sub_self] at O'
  exact ⟨F', O', s, h⟩
theorem Ow.frzAll {a : Type} [Py a] : ∀ {ps : List LCV} {F : Hp} {A : List (Addr × HO)} {xs : List (List a)}, Ow Z F (A ++ ps.map lcV) H → (∀ c ∈ ps, Z.H c.1 = none) → LLR F ps xs →
    ∃ F', Ow Z F' A H ∧ Same F F' ∧ RL F' (ps.map fun c => V.ref c.1) xs
  | [], F, A, xs, O, _, r => by
    cases r
    rw [List.map_nil, List.append_nil] at O
    exact ⟨F, O, Same.refl _, RL.nil⟩
  | c :: ps, F, A, xs, O, hz, r => by
    cases r with
    | @cons _ x _ q h1 h2 =>
      obtain ⟨F1, O1, s1, g1⟩ := Ow.frzM (A := A) (B := ps.map lcV) (b := c.1) (o := .lst c.2) O (hz c List.mem_cons_self)
      obtain ⟨F2, O2, s2, r2⟩ := Ow.frzAll O1 (fun d hd => hz d (List.mem_cons_of_mem _ hd)) (h2.mono s1)
      exact ⟨F2, O2, s1.trans s2, RL.cons (R.lst (s2 _ _ g1) ((h1.mono s1).mono s2)) r2⟩
/-- all of it is read alone from now on -/
theorem Ow.llFrz {a : Type} [Py a] {xs : List (List a)} (O : Ow Z F (S ++ llC p ps) H) (hp : Z.H p = none) (hz : ∀ c ∈ ps, Z.H c.1 = none) (r : LLR F ps xs) : ∃ F', Ow Z F' S H ∧ Same F F' ∧ R F' (.ref p) xs := by
  obtain ⟨F1, O1, s1, g1⟩ := Ow.frzM (A := S) (B := ps.map lcV) (b := p) (o := .lst (ps.map fun c => V.ref c.1)) O hp
  obtain ⟨F2, O2, s2, r2⟩ := Ow.frzAll O1 hz (r.mono s1)
  exact ⟨F2, O2, s1.trans s2, R.lst (s2 _ _ g1) r2⟩
end
section
variable {a : Type} [Py a] {F : Hp}
theorem LLR.atI {ps : List LCV} {p : List (List a)} (h : LLR F ps p) {i : Int} {y : List a} (e : L2.atI p i = some y) :
    ∃ j c, L2.atI (ps.map fun c => V.ref c.1) i = some (V.ref c.1) ∧ ps[j]? = some c ∧ RL F c.2 y ∧ ixN p.length i = some j := by
  unfold L2.atI at e
  cases hx : ixN p.length i with
  | none => rw [hx] at e; exact nomatch e
  | some j =>
    rw [hx] at e
    have e : p[j]? = some y := e
    obtain ⟨c, hc, hr⟩ := h.got e
    refine ⟨j, c, ?_, hc, hr, rfl⟩
    unfold L2.atI
    rw [List.length_map, h.len, hx]
    show (ps.map fun c => V.ref c.1)[j]? = _
    rw [List.getElem?_map, hc]
    rfl
theorem zs_set {H : Hp} {ps : List LCV} {c : LCV} {j : Nat} (h : ∀ d ∈ ps, H d.1 = none) (hj : ps[j]? = some c) (w : List V) : ∀ d ∈ ps.set j (c.1, w), H d.1 = none := fun d hd => by
  rcases List.mem_or_eq_of_mem_set hd with hd | hd
  · exact h d hd
  · rw [hd]; exact h c (List.mem_of_getElem? hj)
theorem zs_snoc {H : Hp} {ps : List LCV} {q : Addr} {w : List V} (h : ∀ d ∈ ps, H d.1 = none) (hq : H q = none) : ∀ d ∈ ps ++ [(q, w)], H d.1 = none := fun d hd => by
  rcases List.mem_append.mp hd with hd | hd
  · exact h d hd
  · rw [List.mem_singleton.mp hd]; exact hq
end
/-! ### a list so many times -/
def repL {a : Type} (k : Int) (xs : List a) : List a := (List.replicate k.toNat xs).flatten
theorem RL.rep {a : Type} [Py a] {H : Hp} {vs : List V} {xs : List a} (h : RL H vs xs) (k : Int) : RL H (repL k vs) (repL k xs) := by
  unfold repL
  induction k.toNat with
  | zero => exact RL.nil
  | succ n ih =>
    rw [List.replicate_succ, List.replicate_succ, List.flatten_cons, List.flatten_cons]
    exact RL.app h ih
def CRep (n : Nat) (k : Int) : Prop := -(2 ^ 63) ≤ k ∧ k < 2 ^ 63 ∧ n * k.toNat < 16777216
instance (n : Nat) (k : Int) : Decidable (CRep n k) := by unfold CRep; infer_instance
theorem R.tpN {a : Type} [Py a] {F : Hp} {p : Addr} {vs : List V} {xs : List a} (h : F p = some (.tup vs)) (r : RL F vs xs) : R F (.ref p) (Tp.mk xs) := by
  show Rep F (.ref p) (.tuple (xs.map Py.toD))
  exact .tup h r
/-! ### what is walked, K told outright (for comprehensions within one another) -/
section
variable {X : Cx} {K : PySem.W.Frag} {tg : Expr}
theorem piListK (h : X.K = K) {l : Expr} {tl : TE} (hl : PE X l tl) : PI X tg l (iList K tl) := by rw [← h]; exact pi_list hl
theorem piTupK (h : X.K = K) {l : Expr} {tl : TE} (hl : PE X l tl) : PI X tg l (iTup K tl) := by rw [← h]; exact pi_tup hl
theorem piEnumK (h : X.K = K) {e : Expr} {ta : TA} (hp : PI X tg e (iEnum X.K ta)) : PI X tg e (iEnum K ta) := by rw [← h]; exact hp
theorem piZipK (h : X.K = K) {e : Expr} {ta : TA} (hp : PI X tg e (iZip X.K ta)) : PI X tg e (iZip K ta) := by rw [← h]; exact hp
end
end PG

set_option Elab.async false
set_option linter.all false
set_option maxRecDepth 100000
set_option maxHeartbeats 4000000
namespace PG
open PySem PySem.Spec PyProof.Rows L2
open PySem.W (T3 T4 Datum DatumOrd Holds HoldAll EachIs)
/-! ### one of two kinds -/
inductive Un (a b : Type) where
  | l (x : a)
  | r (y : b)
  deriving DecidableEq
instance {a b : Type} [Py a] [Py b] : Py (Un a b) := ⟨fun
  | .l x => Py.toD x
  | .r y => Py.toD y⟩
section
variable {a b : Type} [Py a] [Py b] {F : Hp} {v : V}
theorem R.un_l {x : a} (h : R F v x) : R F v (Un.l x : Un a b) := h
theorem R.un_r {y : b} (h : R F v y) : R F v (Un.r y : Un a b) := h
end
instance {a b : Type} [Py a] [Py b] [DecidableEq a] [DecidableEq b] [DatumX (a × b)] : DatumX (Un (a × b) Str) := ⟨fun
  | .l x => DatumX.plain x
  | .r y => by show PyData.plain (.str y) = true; simp only [PyData.plain], fun
  | .l x, .l y => by
    show PyData.eqv (Py.toD x) (Py.toD y) = _
    rw [DatumX.eqv x y]
    exact decide_eq_decide.mpr (by rw [Un.l.injEq])
  | .l x, .r y => by
    show PyData.eqv (.tuple [_, _]) (.str y) = _
    simp [PyData.eqv]
  | .r x, .l y => by
    show PyData.eqv (.str x) (.tuple [_, _]) = _
    simp [PyData.eqv]
  | .r x, .r y => by
    show PyData.eqv (.str x) (.str y) = _
    simp only [PyData.eqv]
    rw [PySem.W.beq_decide]
    exact decide_eq_decide.mpr (by rw [Un.r.injEq])⟩
/-! ### is None -/
class NN (a : Type) [Py a] : Prop where
  nn : ∀ x : a, Py.toD x ≠ .none
instance : NN Int := ⟨fun _ h => nomatch h⟩
instance : NN Bool := ⟨fun _ h => nomatch h⟩
instance : NN Str := ⟨fun _ h => nomatch h⟩
instance : NN Sm := ⟨fun x h => by cases x <;> exact nomatch (show PyData.tuple _ = .none from h)⟩
section
variable {a b c d : Type} [Py a] [Py b] [Py c] [Py d]
instance : NN (List a) := ⟨fun _ h => nomatch (show PyData.list _ = .none from h)⟩
instance : NN (a × b) := ⟨fun _ h => nomatch (show PyData.tuple _ = .none from h)⟩
instance : NN (T3 a b c) := ⟨fun _ h => nomatch (show PyData.tuple _ = .none from h)⟩
instance : NN (T4 a b c d) := ⟨fun _ h => nomatch (show PyData.tuple _ = .none from h)⟩
instance : NN (Tp a) := ⟨fun _ h => nomatch (show PyData.tuple _ = .none from h)⟩
theorem rep_non {F : Hp} {x : PyData} (h : Rep F .non x) : x = .none := by cases h; rfl
theorem isN_opt [NN a] {F : Hp} {v : V} {o : Option a} (h : R F v o) : decide (v = .non) = o.isNone := by
  cases o with
  | none =>
    rw [R.non_ h]
    rfl
  | some x =>
    have h : Rep F v (Py.toD x) := h
    refine decide_eq_false fun e => ?_
    rw [e] at h
    exact NN.nn x (rep_non h)
end
theorem dNon_t : decide (V.non = V.non) = true := decide_eq_true rfl
theorem dNon_f {p : Addr} : decide (V.ref p = V.non) = false := decide_eq_false fun h => nomatch h
/-! ### lists: insert, extend, all -/
def insL {a : Type} (xs : List a) (i : Int) (y : a) : List a := xs.take i.toNat ++ [y] ++ xs.drop i.toNat
theorem RL.ins {a : Type} [Py a] {F : Hp} {vs : List V} {xs : List a} (h : RL F vs xs) (i : Int) {v : V} {y : a} (hy : R F v y) : RL F (insL vs i v) (insL xs i y) := RL.app (RL.app (h.take _) (RL.cons hy RL.nil)) (h.drop _)
def CIns (n : Nat) (i : Int) : Prop := n < 16777216 ∧ 0 ≤ i ∧ i < 2 ^ 63
instance (n : Nat) (i : Int) : Decidable (CIns n i) := by unfold CIns; infer_instance
instance (i j : Int) : Decidable (CPow i j) := by unfold CPow; infer_instance
section
variable {X : Cx} {K : PySem.W.Frag}
theorem cr_allK (hc : X.calm = true) (h : X.K = K) : CallR X (.builtin "all") (rAll K) := by rw [← h]; exact cr_all hc
theorem cr_anyK (hc : X.calm = true) (h : X.K = K) : CallR X (.builtin "any") (rAny K) := by rw [← h]; exact cr_any hc
/-- len of what is read -/
def rLenS (K : PySem.W.Frag) : List V → Hp → VK → Prop := fun vs H Q => ∃ (a : Addr) (xs : List V), vs = [V.ref a] ∧ SqL K H a xs ∧ Q (.int xs.length) H
theorem call_lenS (h : X.K = K) : CallR X (.builtin "len") (rLenS K) := fun pins s σ H xs us Q I r hq => by
  obtain ⟨a, ys, rfl, hs, q⟩ := hq
  subst h
  exact call_len pins s σ H _ us Q I r ⟨.ref a, ys.length, rfl, .inl ⟨ys, hs, rfl⟩, q⟩
end
/-! ### try whose suite binds a name: what follows is handed on as the suite's result -/
def tryF {a : Type} (L : List String) (m : M (Unit → M a)) (k1 : String → M a) : M a := match m with
  | .ok f => f ()
  | .error .bad => bad
  | .error (.exc n) => if n ∈ L then k1 n else bad
theorem wp_tryF {b : Type} {L : List String} {m : M (Unit → M b)} {k1 : String → M b} {Q : b → Prop} {E : String → Prop} (h : wp (tryF L m k1) Q E) : wp m (fun f => wp (f ()) Q E) fun n => n ∈ L ∧ wp (k1 n) Q E := by
  cases m with
  | ok x => exact h
  | error e =>
    cases e with
    | bad => exact h
    | exc n =>
      by_cases z : n ∈ L
      · have e : tryF L (.error (.exc n)) k1 = k1 n := if_pos z
        rw [e] at h
        exact ⟨z, h⟩
      · have e : tryF L (.error (.exc n)) k1 = bad := if_neg z
        rw [e] at h
        exact h.elim
/-! ### xs[::-1]; a, b, c = a list of three -/
section
variable {X : Cx} {K : PySem.W.Frag}
theorem pe_revLK (h : X.K = K) {e : Expr} {te : TE} {k : Nat} {p1 p2 p3 pos : Pos} (he : PE X e te) : PE X (.Subscript e (.Slice none none (some (.UnaryOp .USub (.Constant (.int 1) k p1) p2)) p3) pos) (tRevL K te) := by rw [← h]; exact pe_revL he
end
def two3 {a : Type} (xs : List a) : M (a × a × a) := match xs with
  | [x, y, z] => .ok (x, y, z)
  | _ => bad
theorem wp_two3 {a b : Type} {Q : a → Prop} {E : String → Prop} {xs : List b} {k : b × b × b → M a} (h : wp (two3 xs >>= k) Q E) : ∃ x y z, xs = [x, y, z] ∧ wp (k (x, y, z)) Q E := by
  match xs, h with
  | [x, y, z], h => exact ⟨x, y, z, rfl, h⟩
  | [], h => exact h.elim
  | [_], h => exact h.elim
  | [_, _], h => exact h.elim
  | _ :: _ :: _ :: _ :: _, h => exact h.elim
section
variable {X : Cx} {K : PySem.W.Frag}
theorem bmK (h : X.K = K) {c : Expr} {T : String} {r : V → List V → Hp → VK → Prop} {to : TE} {t : TA} (hp : PE X c (tBM X.K T r to t)) : PE X c (tBM K T r to t) := by rw [← h]; exact hp
theorem bm0K (h : X.K = K) {c : Expr} {T : String} {r : V → List V → Hp → VK → Prop} {to : TE} (hp : PE X c (tBM0 X.K T r to)) : PE X c (tBM0 K T r to) := by rw [← h]; exact hp
end
end PG

set_option Elab.async false
set_option linter.all false
set_option maxRecDepth 100000
set_option maxHeartbeats 4000000
/-! Plain mathematics over the monad M: no program in sight. -/
namespace PG
open PySem L2
open PySem.W (T3 T4 Datum DatumOrd)
section
variable {a b s i : Type}
theorem ok_b (x : a) (k : a → M b) : (Except.ok x >>= k) = k x := rfl
theorem okP_b (x : a) (k : a → M b) : ((Except.ok x : M a) >>= k) = k x := rfl
theorem ret_b (x : a) (k : a → M b) : (ret x >>= k) = k x := rfl
theorem chk_ok {c : Prop} [Decidable c] (h : c) : chk c = .ok () := by unfold chk; rw [if_pos h]
theorem chk_b {c : Prop} [Decidable c] (h : c) (k : Unit → M b) : (chk c >>= k) = k () := by rw [chk_ok h]; rfl
theorem opt_b {o : Option a} {x : a} (h : o = some x) (k : a → M b) : (opt o >>= k) = k x := by rw [h]; rfl
theorem bind_ok {m : M a} {x : a} (h : m = .ok x) (k : a → M b) : (m >>= k) = k x := by rw [h]; rfl
theorem appL_ok {xs : List a} {y : a} (h : xs.length < 16777216) : appL xs y = .ok (xs ++ [y]) := by unfold appL; rw [if_pos h]
theorem ixN_nat {n : Nat} {j : Int} (h0 : 0 ≤ j) (h : j < n) : ixN n j = some j.toNat := by unfold ixN; rw [if_pos h0, if_pos h]
theorem atI_of {xs : List a} {j : Int} {x : a} (h0 : 0 ≤ j) (h : xs[j.toNat]? = some x) : L2.atI xs j = some x := by
  have hl := (List.getElem?_eq_some_iff.mp h).1
  unfold L2.atI
  rw [ixN_nat h0 (by omega)]
  exact h
theorem atI_some {xs : List a} {j : Int} (h0 : 0 ≤ j) (h : j < xs.length) : ∃ x, L2.atI xs j = some x ∧ xs[j.toNat]? = some x := by
  have hl : j.toNat < xs.length := by omega
  exact ⟨xs[j.toNat], atI_of h0 (List.getElem?_eq_getElem hl), List.getElem?_eq_getElem hl⟩
theorem setI_ok {xs : List a} {j : Int} {y : a} (h0 : 0 ≤ j) (h : j < xs.length) : setI xs j y = .ok (xs.set j.toNat y) := by unfold setI; rw [ixN_nat h0 h]
theorem popI_ok {xs : List a} {j : Int} {y : a} (h0 : 0 ≤ j) (h : xs[j.toNat]? = some y) (hl : xs.length < 16777216) : popI xs j = .ok (y, xs.eraseIdx j.toNat) := by
  have h1 := (List.getElem?_eq_some_iff.mp h).1
  unfold popI
  rw [if_pos hl, ixN_nat h0 (by omega)]
  show (match xs[j.toNat]? with
    | some y => (Except.ok (y, xs.eraseIdx j.toNat) : M _)
    | none => bad) = _
  rw [h]
/-- loops by an invariant over the items gone through -/
theorem loopN_inv {f : i → s → M s} (P : List i → s → Prop) : ∀ {xs pre : List i} {x : s}, P pre x → (∀ pre y ys x, xs ++ [] = xs → P pre x → (∃ q, q ++ y :: ys = pre ++ y :: ys) → ∃ x', f y x = .ok x' ∧ P (pre ++ [y]) x') → ∃ x', loopN f xs x = .ok x' ∧ P (pre ++ xs) x' := by
  intro xs
  induction xs with
  | nil => intro pre x h _; exact ⟨x, rfl, by rw [List.append_nil]; exact h⟩
  | cons y ys ih =>
    intro pre x h hs
    obtain ⟨x1, e1, h1⟩ := hs pre y ys x (List.append_nil _) h ⟨pre, rfl⟩
    obtain ⟨x2, e2, h2⟩ := ih (pre := pre ++ [y]) h1 fun pre y ys x _ hp hq => hs pre y ys x (List.append_nil _) hp hq
    refine ⟨x2, ?_, by rw [List.append_assoc] at h2; exact h2⟩
    show (f y x >>= fun x' => loopN f ys x') = _
    rw [e1]
    exact e2
/-- .. with what is known of the items -/
theorem loopN_run {f : i → s → M s} {all : List i} (P : List i → s → Prop) {x : s} (h : P [] x) (hs : ∀ pre y post x, all = pre ++ y :: post → P pre x → ∃ x', f y x = .ok x' ∧ P (pre ++ [y]) x') : ∃ x', loopN f all x = .ok x' ∧ P all x' := by
  have go : ∀ (xs pre : List i) (x : s), all = pre ++ xs → P pre x → ∃ x', loopN f xs x = .ok x' ∧ P (pre ++ xs) x' := by
    intro xs
    induction xs with
    | nil => intro pre x _ h; exact ⟨x, rfl, by rw [List.append_nil]; exact h⟩
    | cons y ys ih =>
      intro pre x e h
      obtain ⟨x1, e1, h1⟩ := hs pre y ys x e h
      obtain ⟨x2, e2, h2⟩ := ih (pre ++ [y]) x1 (by rw [List.append_assoc]; exact e) h1
      refine ⟨x2, ?_, by rw [List.append_assoc] at h2; exact h2⟩
      show (f y x >>= fun x' => loopN f ys x') = _
      rw [e1]
      exact e2
  exact go all [] x rfl h
/-- a loop that goes on at each item -/
theorem loopM_run {r : Type} {f : i → s → M (Fl s r)} {all : List i} (P : List i → s → Prop) {x : s} (h : P [] x) (hs : ∀ pre y post x, all = pre ++ y :: post → P pre x → ∃ x', f y x = .ok (.nx x') ∧ P (pre ++ [y]) x') : ∃ x', loopM f all x = .ok (.nx x') ∧ P all x' := by
  have go : ∀ (xs pre : List i) (x : s), all = pre ++ xs → P pre x → ∃ x', loopM f xs x = .ok (.nx x') ∧ P (pre ++ xs) x' := by
    intro xs
    induction xs with
    | nil => intro pre x _ h; exact ⟨x, rfl, by rw [List.append_nil]; exact h⟩
    | cons y ys ih =>
      intro pre x e h
      obtain ⟨x1, e1, h1⟩ := hs pre y ys x e h
      obtain ⟨x2, e2, h2⟩ := ih (pre ++ [y]) x1 (by rw [List.append_assoc]; exact e) h1
      refine ⟨x2, ?_, by rw [List.append_assoc] at h2; exact h2⟩
      show (f y x >>= fun q => match q with
        | .nx x' => loopM f ys x'
        | .rt z => .ok (.rt z)) = _
      rw [e1]
      exact e2
  exact go all [] x rfl h
/-- .. that has no state -/
theorem loopM_all {r : Type} {f : i → Unit → M (Fl Unit r)} {all : List i} (hs : ∀ y ∈ all, f y () = .ok (.nx ())) : loopM f all () = .ok (.nx ()) := by
  obtain ⟨x, e, _⟩ := loopM_run (f := f) (all := all) (fun _ _ => True) (x := ()) trivial fun pre y post x e _ => ⟨(), by cases x; exact hs y (by rw [e]; simp), trivial⟩
  exact e
theorem compX_run {c : Type} {f : i → s → M (Option c × s)} {all : List i} (P : List i → List c → s → Prop) {x : s} (h : P [] [] x)
    (hs : ∀ pre y post acc x, all = pre ++ y :: post → P pre acc x → ∃ o x', f y x = .ok (o, x') ∧ P (pre ++ [y]) (match o with
      | some z => acc ++ [z]
      | none => acc) x') : ∃ acc x', compX f all [] x = .ok (acc, x') ∧ P all acc x' := by
  have go : ∀ (xs pre : List i) (acc : List c) (x : s), all = pre ++ xs → P pre acc x → ∃ acc' x', compX f xs acc x = .ok (acc', x') ∧ P (pre ++ xs) acc' x' := by
    intro xs
    induction xs with
    | nil => intro pre acc x _ h; exact ⟨acc, x, rfl, by rw [List.append_nil]; exact h⟩
    | cons y ys ih =>
      intro pre acc x e h
      obtain ⟨o, x1, e1, h1⟩ := hs pre y ys acc x e h
      obtain ⟨acc2, x2, e2, h2⟩ := ih (pre ++ [y]) _ x1 (by rw [List.append_assoc]; exact e) h1
      refine ⟨acc2, x2, ?_, by rw [List.append_assoc] at h2; exact h2⟩
      show (nox (f y x) >>= fun p => compX f ys (match p.1 with
        | some z => acc ++ [z]
        | none => acc) p.2) = _
      rw [e1]
      exact e2
  exact go all [] [] x rfl h
theorem compS_run {c : Type} {f : i → s → M (Option c × s)} {all : List i} (hl : all.length < 16777216) (P : List i → List c → s → Prop) {x : s} (h : P [] [] x)
    (hs : ∀ pre y post acc x, all = pre ++ y :: post → P pre acc x → ∃ o x', f y x = .ok (o, x') ∧ P (pre ++ [y]) (match o with
      | some z => acc ++ [z]
      | none => acc) x') : ∃ acc x', compS f all x = .ok (acc, x') ∧ P all acc x' := by
  unfold compS
  rw [chk_b hl]
  exact compX_run P h hs
/-- a plain map with a test -/
theorem compS_pure {c : Type} {f : i → Unit → M (Option c × Unit)} {all : List i} (g : i → Option c) (hl : all.length < 16777216) (hs : ∀ y ∈ all, f y () = .ok (g y, ())) : compS f all () = .ok (all.filterMap g, ()) := by
  obtain ⟨acc, x, e, h⟩ := compS_run (f := f) (all := all) hl (fun pre acc _ => acc = pre.filterMap g) (x := ()) rfl fun pre y post acc x e h => by
    refine ⟨g y, (), by cases x; exact hs y (by rw [e]; simp), ?_⟩
    rw [h, List.filterMap_append]
    cases e2 : g y with
    | none => simp [e2]
    | some z => simp [e2]
  rw [e, h]
end

/-! ### sorted lists -/
section
variable {a : Type}
/-- two sorted lists of the same things are one -/
theorem perm_sorted_eq {le : a → a → Bool} (anti : ∀ x y, le x y = true → le y x = true → x = y) : ∀ {xs ys : List a}, xs.Perm ys → xs.Pairwise (fun x y => le x y = true) → ys.Pairwise (fun x y => le x y = true) → xs = ys := by
  intro xs
  induction xs with
  | nil => intro ys h _ _; exact (List.nil_perm.mp h).symm
  | cons x xs ih =>
    intro ys h hx hy
    cases ys with
    | nil => exact absurd h.length_eq (by simp)
    | cons y ys =>
      rw [List.pairwise_cons] at hx hy
      have e : x = y := by
        have m1 : x ∈ y :: ys := h.mem_iff.mp List.mem_cons_self
        have m2 : y ∈ x :: xs := h.mem_iff.mpr List.mem_cons_self
        rcases List.mem_cons.mp m1 with r | r
        · exact r
        · rcases List.mem_cons.mp m2 with q | q
          · exact q.symm
          · exact anti x y (hx.1 y q) (hy.1 x r)
      subst e
      rw [ih (List.Perm.cons_inv h) hx.2 hy.2]
class LeOk (a : Type) [DecidableEq a] [DatumOrd a] : Prop where
  tr : ∀ x y z : a, leT x y = true → leT y z = true → leT x z = true
  tot : ∀ x y : a, (leT x y || leT y x) = true
  anti : ∀ x y : a, leT x y = true → leT y x = true → x = y
theorem leT_int (x y : Int) : leT x y = decide (x ≤ y) := by
  show (!decide (y < x)) = decide (x ≤ y)
  by_cases h : y < x
  · have : ¬ x ≤ y := by omega
    simp [h, this]
  · have : x ≤ y := by omega
    simp [h, this]
instance : LeOk Int where
  tr x y z h1 h2 := by
    rw [leT_int, decide_eq_true_eq] at h1 h2 ⊢
    omega
  tot x y := by
    rw [leT_int, leT_int, Bool.or_eq_true, decide_eq_true_eq, decide_eq_true_eq]
    omega
  anti x y h1 h2 := by
    rw [leT_int, decide_eq_true_eq] at h1 h2
    omega
theorem leT_p (x y : Int × Int) : leT x y = decide (x.1 < y.1 ∨ (x.1 = y.1 ∧ x.2 ≤ y.2)) := by
  show (!(if y.1 = x.1 then decide (y.2 < x.2) else decide (y.1 < x.1))) = _
  by_cases h : y.1 = x.1
  · rw [if_pos h]
    by_cases h2 : y.2 < x.2
    · have : ¬ (x.1 < y.1 ∨ (x.1 = y.1 ∧ x.2 ≤ y.2)) := by omega
      simp [h2, this]
    · have : (x.1 < y.1 ∨ (x.1 = y.1 ∧ x.2 ≤ y.2)) := by omega
      simp [h2, this]
  · rw [if_neg h]
    by_cases h2 : y.1 < x.1
    · have : ¬ (x.1 < y.1 ∨ (x.1 = y.1 ∧ x.2 ≤ y.2)) := by omega
      simp [h2, this]
    · have : (x.1 < y.1 ∨ (x.1 = y.1 ∧ x.2 ≤ y.2)) := by omega
      simp [h2, this]
instance : LeOk (Int × Int) where
  tr x y z h1 h2 := by
    rw [leT_p, decide_eq_true_eq] at h1 h2 ⊢
    omega
  tot x y := by
    rw [leT_p, leT_p, Bool.or_eq_true, decide_eq_true_eq, decide_eq_true_eq]
    omega
  anti x y h1 h2 := by
    rw [leT_p, decide_eq_true_eq] at h1 h2
    exact Prod.ext (by omega) (by omega)
theorem leT_3 (x y : T3 Int Int Int) : leT x y = decide (x.a < y.a ∨ (x.a = y.a ∧ (x.b < y.b ∨ (x.b = y.b ∧ x.c ≤ y.c)))) := by
  show (!DatumOrd.lt y x) = _
  have e : DatumOrd.lt y x = decide (y.a < x.a ∨ (y.a = x.a ∧ (y.b < x.b ∨ (y.b = x.b ∧ y.c < x.c)))) := by
    rw [Bool.eq_iff_iff, decide_eq_true_eq]
    show (if y.a = x.a then (if y.b = x.b then decide (y.c < x.c) else decide (y.b < x.b)) else decide (y.a < x.a)) = true ↔ _
    by_cases h : y.a = x.a
    · rw [if_pos h]
      by_cases h2 : y.b = x.b
      · rw [if_pos h2, decide_eq_true_eq]; omega
      · rw [if_neg h2, decide_eq_true_eq]; omega
    · rw [if_neg h, decide_eq_true_eq]; omega
  rw [e, Bool.eq_iff_iff, Bool.not_eq_true', decide_eq_false_iff_not, decide_eq_true_eq]
  omega
instance : LeOk (T3 Int Int Int) where
  tr x y z h1 h2 := by
    rw [leT_3, decide_eq_true_eq] at h1 h2 ⊢
    omega
  tot x y := by
    rw [leT_3, leT_3, Bool.or_eq_true, decide_eq_true_eq, decide_eq_true_eq]
    omega
  anti x y h1 h2 := by
    rw [leT_3, decide_eq_true_eq] at h1 h2
    exact PySem.W.T3.same (by omega) (by omega) (by omega)
variable [DecidableEq a] [DatumOrd a] [LeOk a]
theorem sortT_perm (xs : List a) : (sortT xs).Perm xs := List.mergeSort_perm xs _
theorem sortT_sorted (xs : List a) : (sortT xs).Pairwise (fun x y => leT x y = true) := List.pairwise_mergeSort (fun x y z => LeOk.tr x y z) (fun x y => LeOk.tot x y) xs
theorem sortT_eq {xs ys : List a} (h : xs.Perm ys) : sortT xs = sortT ys :=
  perm_sorted_eq LeOk.anti ((sortT_perm xs).trans (h.trans (sortT_perm ys).symm)) (sortT_sorted xs) (sortT_sorted ys)
theorem sortT_id {xs : List a} (h : xs.Pairwise (fun x y => leT x y = true)) : sortT xs = xs := perm_sorted_eq LeOk.anti (sortT_perm xs) (sortT_sorted xs) h
theorem sortT_idem (xs : List a) : sortT (sortT xs) = sortT xs := sortT_id (sortT_sorted xs)
theorem sortT_len (xs : List a) : (sortT xs).length = xs.length := (sortT_perm xs).length_eq
theorem sortT_mem {xs : List a} {x : a} : x ∈ sortT xs ↔ x ∈ xs := (sortT_perm xs).mem_iff
end
/-! ### numbers -/
theorem cdivW {i j : Int} (h : 0 < j) (h2 : j ≤ 10 ^ 40) : CDivW i j := by
  have h3 : j.natAbs ≤ 10 ^ 40 := by omega
  exact wide_div (b := 200) h (Nat.lt_of_le_of_lt h3 (by decide)) (by decide) (by decide)
theorem cmulW {i j : Int} (h1 : i.natAbs < 2 ^ 100000) (h2 : j.natAbs < 2 ^ 100000) : CMulW i j := wide_mul h1 h2 (by decide) (by decide) (by decide)

theorem erase_perm {a : Type} : ∀ {l : List a} {j : Nat} (h : j < l.length), (l[j] :: l.eraseIdx j).Perm l
  | x :: l, 0, _ => List.Perm.refl _
  | x :: l, j + 1, h => by
    have h' : j < l.length := by simpa using h
    show (l[j] :: x :: l.eraseIdx j).Perm (x :: l)
    exact (List.Perm.swap _ _ _).trans (List.Perm.cons _ (erase_perm h'))

/-! ### trees -/
abbrev Tie := T3 Int Int Int
abbrev Tr := List Int × List Tie
def tieOf (p q c : Int) : Tie := if p ≤ q then ⟨p, q, c⟩ else ⟨q, p, c⟩
/-- place by place, each new one tied to one that is there -/
inductive Grown : List Int → List Tie → Prop
  | one (p : Int) : Grown [p] []
  | more {ps : List Int} {ts : List Tie} (q p c : Int) : Grown ps ts → q ∈ ps → p ∉ ps → Grown (ps ++ [p]) (ts ++ [tieOf p q c])
theorem tieOf_lt {p q c : Int} (h : p ≠ q) : (tieOf p q c).a < (tieOf p q c).b ∧ ((tieOf p q c).a = p ∧ (tieOf p q c).b = q ∨ (tieOf p q c).a = q ∧ (tieOf p q c).b = p) ∧ (tieOf p q c).c = c := by
  unfold tieOf
  by_cases h1 : p ≤ q
  · rw [if_pos h1]; exact ⟨by show p < q; omega, .inl ⟨rfl, rfl⟩, rfl⟩
  · rw [if_neg h1]; exact ⟨by show q < p; omega, .inr ⟨rfl, rfl⟩, rfl⟩
theorem Grown.in {ps : List Int} {ts : List Tie} (g : Grown ps ts) : ∀ t ∈ ts, t.a ∈ ps ∧ t.b ∈ ps ∧ t.a < t.b := by
  induction g with
  | one p => intro t h; cases h
  | @more ps ts q p c g hq hp ih =>
    intro t h
    rcases List.mem_append.mp h with h | h
    · obtain ⟨h1, h2, h3⟩ := ih t h
      exact ⟨List.mem_append_left _ h1, List.mem_append_left _ h2, h3⟩
    · have e := List.mem_singleton.mp h
      subst e
      have hpq : p ≠ q := fun e => hp (e ▸ hq)
      obtain ⟨l, hab, _⟩ := tieOf_lt (c := c) hpq
      have mp : p ∈ ps ++ [p] := by simp
      have mq : q ∈ ps ++ [p] := List.mem_append_left _ hq
      rcases hab with ⟨h1, h2⟩ | ⟨h1, h2⟩
      · exact ⟨by rw [h1]; exact mp, by rw [h2]; exact mq, l⟩
      · exact ⟨by rw [h1]; exact mq, by rw [h2]; exact mp, l⟩
theorem Grown.len {ps : List Int} {ts : List Tie} (g : Grown ps ts) : ps.length = ts.length + 1 := by
  induction g with
  | one p => rfl
  | more q p c g hq hp ih => rw [List.length_append, List.length_append, ih]; rfl
theorem Grown.nd {ps : List Int} {ts : List Tie} (g : Grown ps ts) : ps.Nodup := by
  induction g with
  | one p => simp
  | more q p c g hq hp ih => exact List.nodup_append.mpr ⟨ih, by simp, fun x hx y hy e => by rw [List.mem_singleton.mp hy] at e; exact hp (e ▸ hx)⟩
/-- a tree: its worths, its ties sorted -/
structure TreeOk (t : Tr) : Prop where
  ex : ∃ ps ts, Grown ps ts ∧ ps.Perm (rangeL 0 (t.1.length : Int)) ∧ t.2 = sortT ts
theorem TreeOk.pos {t : Tr} (h : TreeOk t) : 1 ≤ t.1.length := by
  obtain ⟨ps, ts, g, p, e⟩ := h.ex
  have h1 := p.length_eq
  rw [rangeL_length] at h1
  have := g.len
  omega
theorem TreeOk.len {t : Tr} (h : TreeOk t) : t.1.length = t.2.length + 1 := by
  obtain ⟨ps, ts, g, p, e⟩ := h.ex
  have h1 := p.length_eq
  rw [rangeL_length] at h1
  have := g.len
  rw [e, sortT_len]
  omega
theorem rangeL_mem' {lo hi x : Int} : x ∈ rangeL lo hi ↔ lo ≤ x ∧ x < hi := by
  unfold rangeL
  rw [List.mem_map]
  constructor
  · rintro ⟨j, hj, rfl⟩
    have := List.mem_range.mp hj
    omega
  · rintro ⟨h1, h2⟩
    exact ⟨(x - lo).toNat, List.mem_range.mpr (by omega), by omega⟩
theorem TreeOk.tie {t : Tr} (h : TreeOk t) : ∀ x ∈ t.2, 0 ≤ x.a ∧ x.a < x.b ∧ x.b < (t.1.length : Int) := by
  obtain ⟨ps, ts, g, p, e⟩ := h.ex
  intro x hx
  rw [e, sortT_mem] at hx
  obtain ⟨h1, h2, h3⟩ := g.in x hx
  have a1 := rangeL_mem'.mp (p.mem_iff.mp h1)
  have a2 := rangeL_mem'.mp (p.mem_iff.mp h2)
  exact ⟨a1.1, h3, a2.2⟩
theorem TreeOk.sorted {t : Tr} (h : TreeOk t) : sortT t.2 = t.2 := by
  obtain ⟨ps, ts, g, p, e⟩ := h.ex
  rw [e, sortT_idem]
theorem sort2 (x y : Int) : sortT [x, y] = if x ≤ y then [x, y] else [y, x] := by
  by_cases h : x ≤ y
  · rw [if_pos h]
    exact sortT_id (by simp [leT_int, h])
  · rw [if_neg h]
    have e : sortT [x, y] = sortT [y, x] := sortT_eq (List.Perm.swap _ _ _)
    rw [e]
    exact sortT_id (by simp [leT_int]; omega)

theorem fm_congr {a b : Type} {f g : a → Option b} : ∀ {l : List a}, (∀ x ∈ l, f x = g x) → l.filterMap f = l.filterMap g
  | [], _ => rfl
  | x :: l, h => by
    have h1 := h x List.mem_cons_self
    have h2 := fm_congr (l := l) fun y hy => h y (List.mem_cons_of_mem _ hy)
    rw [List.filterMap_cons, List.filterMap_cons, h1, h2]
end PG

set_option Elab.async false
set_option linter.all false
set_option maxRecDepth 100000
namespace G
open PySem PySem.Spec PyProof.Rows L2 PG
open PySem.W (T3 T4 Datum DatumOrd)
def top (i : Nat) : Stmt := PySem.Challenge.pw_everyseat_k08_whole_trees_and_ways.main.body.getD i (.Pass ⟨0, 0, 0, 0⟩)
structure Nb (mg : Str → Option Value) : Prop where
  b_dict : mg "dict" = none
  b_enumerate : mg "enumerate" = none
  b_len : mg "len" = none
  b_list : mg "list" = none
  b_max : mg "max" = none
  b_min : mg "min" = none
  b_range : mg "range" = none
  b_sorted : mg "sorted" = none
  b_sum : mg "sum" = none
section
variable {P : Program} {w : World} {K : PySem.W.Frag} {mg : Str → Option Value} {base : Heap}
abbrev s_tied_places : Stmt := top 6
theorem sc_tied_places : FnScope ["many", "ties", "found", "a", "b", "length", "near", "place"] ["many", "ties"] (defScope s_tied_places) := ⟨rfl, rfl, rfl, by decide +kernel, rfl, by decide +kernel, by decide +kernel⟩
def addAt (fs : List (List Int)) (a b : Int) : M (List (List Int)) := match ixN fs.length a with
  | some j => (match fs[j]? with
    | some x => appL x b >>= fun y => .ok (fs.set j y)
    | none => bad)
  | none => bad
def m_tied_places (x_many : Int) (x_ties : List (T3 Int Int Int)) : M (List (List Int)) :=
  chk (okR x_many) >>= fun _ =>
  loopN (fun (t : T3 Int Int Int) (fs : List (List Int)) => addAt fs t.a t.b >>= fun f1 => addAt f1 t.b t.a) (sortT x_ties) (List.replicate x_many.toNat []) >>= fun fs =>
  .ok (fs.map sortT)
theorem wp_addAt {b : Type} {Q : b → Prop} {E : String → Prop} {fs : List (List Int)} {a y : Int} {k : List (List Int) → M b} (h : wp (addAt fs a y >>= k) Q E) :
    ∃ j x, ixN fs.length a = some j ∧ fs[j]? = some x ∧ x.length < sizeLine ∧ wp (k (fs.set j (x ++ [y]))) Q E := by
  unfold addAt at h
  cases e : ixN fs.length a with
  | none => rw [e] at h; exact h.elim
  | some j =>
    rw [e] at h
    have h : wp ((match fs[j]? with
      | some x => appL x y >>= fun y => .ok (fs.set j y)
      | none => bad) >>= k) Q E := h
    cases e2 : fs[j]? with
    | none => rw [e2] at h; exact h.elim
    | some x =>
      rw [e2] at h
      have h : wp ((appL x y >>= fun y => .ok (fs.set j y)) >>= k) Q E := h
      rw [wp_bind] at h
      obtain ⟨c, h⟩ := wp_appL h
      exact ⟨j, x, rfl, e2, c, h⟩
/-- all lists are new -/
def sp_tied_places_own (mg : Str → Option Value) : Sp := fun vs H Q E => ∃ (F : Hp) (x_many : Int) (v_ties : V) (x_ties : List (T3 Int Int Int)), vs = [.int x_many, v_ties] ∧ Pre F [] H ∧ R F v_ties x_ties ∧
  wp (m_tied_places x_many x_ties) (fun r => ∀ (F' H' : Hp) (p : Addr) (ps : List LC), Gr [] F H F' H' → OwnLL H F' H' p ps → ps.map (·.2) = r → Q (.ref p) H')
  (fun n => ∀ (C : Addr) (H' : Hp), mg (Str.ofString n) = some (.ref C) → Kp [] H H' → E (.ref C) none H')
def sp_tied_places (mg : Str → Option Value) : Sp := fun vs H Q E => ∃ (F : Hp) (x_many : Int) (v_ties : V) (x_ties : (List (T3 Int Int Int))), vs = [.int x_many, v_ties] ∧ Pre F [] H ∧ R (a := (List (T3 Int Int Int))) F v_ties x_ties ∧
  wp (m_tied_places x_many x_ties) (fun r => ∀ (F' H' : Hp), Gr [] F H F' H' → ∀ (p : Addr) (w : List V), H p = none → F' p = none → H' p = some (.lst w) → RL (a := (List Int)) F' w r → Q (.ref p) H')
  (fun n => ∀ (C : Addr) (H' : Hp), mg (Str.ofString n) = some (.ref C) → Kp [] H H' → E (.ref C) none H')
theorem lc_set {ps : List LC} {j : Nat} {c : LC} {y : List Int} (h : ps[j]? = some c) : (ps.set j (c.1, y)).map (·.1) = ps.map (·.1) ∧ (ps.set j (c.1, y)).map (·.2) = (ps.map (·.2)).set j y := by
  refine ⟨?_, by rw [List.map_set]⟩
  rw [List.map_set]
  refine List.ext_getElem? fun k => ?_
  by_cases hk : j = k
  · subst hk
    have hl := (List.getElem?_eq_some_iff.mp h).1
    rw [List.getElem?_set_self (by simpa using hl), List.getElem?_map, h]
    rfl
  · rw [List.getElem?_set_ne hk]
/-- one append -/
theorem tp_app {Z : Ent} {F H : Hp} {D : Addr} {o : HO} {rest : List (Addr × HO)} {ps : List LC} (O : Ow Z F ((D, o) :: ps.map lcell) H) {j : Nat} {c : LC} (h : ps[j]? = some c) (y : Int) :
    Ow Z F ((D, o) :: (ps.set j (c.1, c.2 ++ [y])).map lcell) (upd H c.1 (.lst (c.2.map V.int ++ [V.int y]))) ∧ H c.1 = some (.lst (c.2.map V.int)) := by
  have e : ((D, o) :: ps.map lcell)[j + 1]? = some (c.1, .lst (c.2.map V.int)) := by
    rw [List.getElem?_cons_succ, List.getElem?_map, h]
    rfl
  refine ⟨?_, O.at (j + 1) e⟩
  have q := O.set (j + 1) (.lst (c.2.map V.int ++ [V.int y])) e
  have e2 : ((D, o) :: ps.map lcell).set (j + 1) (c.1, .lst (c.2.map V.int ++ [V.int y])) = (D, o) :: (ps.set j (c.1, c.2 ++ [y])).map lcell := by
    rw [List.set_cons_succ, List.map_set]
    unfold lcell
    rw [List.map_append]
    rfl
  rw [e2] at q
  exact q
theorem tp_at {ps : List LC} {j : Nat} {x : List Int} (h : (ps.map (·.2))[j]? = some x) : ∃ c, ps[j]? = some c ∧ c.2 = x := by
  rw [List.getElem?_map] at h
  cases e : ps[j]? with
  | none => rw [e] at h; cases h
  | some c => rw [e] at h; exact ⟨c, rfl, Option.some.inj h⟩
theorem tp_ix {ps : List LC} {a : Int} {j : Nat} {c : LC} (e : ixN (ps.map (·.2)).length a = some j) (h : ps[j]? = some c) : atI (lrefs ps) a = some (.ref c.1) := by
  unfold atI lrefs
  rw [List.length_map] at e ⊢
  rw [e]
  show (lrefs ps)[j]? = _
  rw [List.getElem?_map, h]
  rfl
set_option maxHeartbeats 4000000 in
theorem ok_tied_places_own (nb : Nb mg) (D : Df K mg "tied_places" "tied_places" s_tied_places ["many", "ties"]) : Ca P w K mg base "tied_places" 1 ["many", "ties"] (sp_tied_places_own mg) := by
  refine Ca.mk' D sc_tied_places (fun vs H Q E h => ?_) (fun q_ f_ cdv A outer s H vs Q E hr h => ?_)
  · obtain ⟨F, _, _, _, rfl, _⟩ := h
    rfl
  · obtain ⟨F, x_many, v_ties, x_ties, rfl, P0, f_ties, hk⟩ := h
    have nd := sc_tied_places.nd
    have hu128 := hu128_of hr
    have O := P0.start
    refine ⟨_, pss_cons (ps_setLc (i := 2) (own := [("place", 7)]) (g := _) (tt := _) rfl nd rfl rfl (sw_true rfl rfl rfl (by decide +kernel)) (pi_range1 rfl nb.b_range (pa_cons (pv 0) pa_nil))
        (blkOk_by (own := [("place", 7)]) (N := ["many", "ties", "found", "a", "b", "length", "near", "place"]) (sc := defScope s_tied_places) (by decide +kernel)) (fun _ _ _ _ _ => (pg_name (i := 7) nd rfl (Or.inl rfl))) (fun _ _ _ _ _ => pts_nil) (fun _ _ _ _ _ => pe_lst pa_nil))
      (pss_cons (ps_for (passes_of rfl) rfl (pi_list (pe_callB (cr_sortedT (T3 Int Int Int) hu128) (by rfl) nb.b_sorted (by decide +kernel) (pa_cons (pv 1) pa_nil)))
        (pg_tup rfl (pgs_cons (pg_name (i := 3) nd rfl (Or.inl rfl)) (pgs_cons (pg_name (i := 4) nd rfl (Or.inl rfl)) (pgs_cons (pg_name (i := 5) nd rfl (Or.inl rfl)) pgs_nil))))
        (pss_cons (ps_expr (pe_bm PySem.F.plainAttrs_list PySem.F.slot_list_append PySem.F.type_list_append mt_append (pe_ix ix_list (pv 2) (pv 3) (fun _ _ => rfl)) (pa_cons (pv 4) pa_nil)))
          (pss_one (ps_expr (pe_bm PySem.F.plainAttrs_list PySem.F.slot_list_append PySem.F.type_list_append mt_append (pe_ix ix_list (pv 2) (pv 4) (fun _ _ => rfl)) (pa_cons (pv 3) pa_nil))))))
      (pss_one (ps_ret (pe_lc (own := [("near", 6)]) (g := _) (tt := _) rfl nd (pi_list (pv 2))
        (blkOk_by (own := [("near", 6)]) (N := ["many", "ties", "found", "a", "b", "length", "near", "place"]) (sc := defScope s_tied_places) (by decide +kernel)) (fun _ _ _ _ _ => (pg_name (i := 6) nd rfl (Or.inl rfl))) (fun _ _ _ _ _ => pts_nil)
        (fun _ _ _ _ _ => pe_callB (cr_sortedT Int hu128) (by rfl) nb.b_sorted (by decide +kernel) (pa_cons (pv 6) pa_nil)))))), ?_⟩
    obtain ⟨c1, hk⟩ := wp_chk hk
    obtain ⟨L, hL, hLs, hLd⟩ := loopN_L hk
    refine ⟨_, rfl, _, rfl, c1.lo, c1.hi, fun D hD => ?_⟩
    refine lc_range (lo := 0) (n := x_many.toNat) (fun i H => ∃ ps : List LC, Ow _ F ((D, .lst (lrefs ps)) :: ps.map lcell) H ∧ ps.map (·.2) = List.replicate i []) ⟨[], O.new hD, rfl⟩ ?_ ?_
    · rintro i H1 hi ⟨ps, O1, e1⟩
      refine ⟨rfl, (by show 0 ≤ sizeLine; decide), fun q hq => ?_⟩
      have O2 := O1.new (o := .lst []) hq
      have hlen : ps.length = i := by
        have := congrArg List.length e1
        simpa using this
      have b := c1.2
      refine ⟨_, O2.at 1 rfl, lt_line (by rw [List.length_map]; omega), ps ++ [(q, [])], ?_, by rw [List.map_append, e1, List.replicate_succ']; rfl⟩
      have O3 := O2.set 1 (.lst ((lrefs ps) ++ [V.ref q])) rfl
      have ea : lrefs (ps ++ [(q, [])]) = lrefs ps ++ [V.ref q] := List.map_append
      rw [ea, List.map_append]
      refine O3.perm ?_
      show ((q, HO.lst []) :: (D, _) :: ps.map lcell).Perm ((D, _) :: (ps.map lcell ++ [(q, HO.lst [])]))
      refine (List.Perm.swap _ _ _).trans (List.Perm.cons _ ?_)
      exact (List.perm_append_comm (l₁ := [(q, HO.lst [])]) (l₂ := ps.map lcell))
    · rintro H1 ⟨ps, O1, e1⟩
      obtain ⟨p1, w1, e2, h2, hl2⟩ := R.lst_ f_ties
      cases e2
      refine ⟨_, rfl, _, _, _, rfl, O1.s _ _ h2, RL.mono hl2 O1.s, fun p3 hp3 => ?_⟩
      obtain ⟨F4, O4, S4, h4⟩ := O1.putE hp3 (.lst (sortV w1 x_ties))
      have hl4 := (RL.sorted hl2).mono S4
      refine ⟨_, rfl, ⟨_, SqLF O4.s h4⟩, ?_⟩
      rw [← e1] at hL
      refine for_list (K := K) (xs := sortV w1 x_ties) (fun i σ H => ∃ (ps' : List LC) (t3 t4 t5 : Option V), σ = [some (V.int x_many), some (V.ref p1), some (V.ref D), t3, t4, t5, none, none] ∧ Ow _ F4 ((D, .lst (lrefs ps')) :: ps'.map lcell) H ∧ ps'.length = x_many.toNat ∧ L (List.drop i (sortT x_ties)) (ps'.map fun (c : LC) => c.2))
        ⟨ps, none, none, none, rfl, O4, (by have := congrArg List.length e1; simpa using this), hL⟩ (fun i_ σ_ H_ _ hp_ => ?_) ?_ ?_
      · obtain ⟨_, _, _, _, _, hO_, _⟩ := hp_
        exact SqLF hO_.s h4
      · rintro i x σ H5 hi ⟨ps', t3, t4, t5, rfl, O5, hl5, hL5⟩
        obtain ⟨y, ey, hy⟩ := RL.got hl4 hi
        rw [drop_at ey] at hL5
        have hk := hLs _ _ _ hL5
        obtain ⟨p6, v1, v2, v3, e6, h6, r1, r2, r3⟩ := R.t3_ hy
        cases e6
        obtain rfl := R.int_ r1
        obtain rfl := R.int_ r2
        obtain rfl := R.int_ r3
        obtain ⟨j, x, ej, ex, cl, hk⟩ := wp_addAt hk
        have hk := wp_bind (k := fun r => Except.ok r) |>.mpr hk
        obtain ⟨j2, x2, ej2, ex2, cl2, hk⟩ := wp_addAt hk
        obtain ⟨c, hc, rfl⟩ := tp_at ex
        obtain ⟨O6, hq6⟩ := tp_app (rest := []) O5 hc y.b
        obtain ⟨l1, l2⟩ := lc_set (y := c.2 ++ [y.b]) hc
        rw [← l2] at ex2 ej2
        obtain ⟨c', hc', rfl⟩ := tp_at ex2
        obtain ⟨O7, hq7⟩ := tp_app (rest := []) O6 hc' y.a
        obtain ⟨l3, l4⟩ := lc_set (y := c'.2 ++ [y.a]) hc'
        have eD : lrefs (ps'.set j (c.1, c.2 ++ [y.b])) = lrefs ps' := by
          have := congrArg (List.map V.ref) l1
          rw [List.map_map, List.map_map] at this
          exact this
        have eD2 : lrefs ((ps'.set j (c.1, c.2 ++ [y.b])).set j2 (c'.1, c'.2 ++ [y.a])) = lrefs (ps'.set j (c.1, c.2 ++ [y.b])) := by
          have := congrArg (List.map V.ref) l3
          rw [List.map_map, List.map_map] at this
          exact this
        have i2 : atI (lrefs ps') y.b = some (.ref c'.1) := by
          rw [← eD]
          exact tp_ix ej2 hc'
        refine ⟨_, _, rfl, SqTF O5.s h6, rfl, _, _, rfl, _, _, rfl, _, _, rfl, rfl, _, rfl, _, rfl, _, _, _, _, rfl, rfl, SqL.of (O5.at 0 rfl), tp_ix ej hc, .inl ⟨rfl, _, SqL.of hq6⟩, _, rfl, _, _, _, rfl, rfl, hq6, by rw [List.length_map]; exact cl, ?_⟩
        refine ⟨_, rfl, _, rfl, _, _, _, _, rfl, rfl, SqL.of (O6.at 0 rfl), i2, .inl ⟨rfl, _, SqL.of hq7⟩, _, rfl, _, _, _, rfl, rfl, hq7, by rw [List.length_map]; exact cl2, ?_⟩
        refine ⟨_, _, _, _, rfl, by rw [eD2, eD]; exact O7, by rw [List.length_set, List.length_set]; exact hl5, ?_⟩
        rw [l4, l2]
        exact hk
      · rintro σ H5 ⟨ps', t3, t4, t5, rfl, O5, hl5, hL5⟩
        rw [drop_end hl4.len] at hL5
        have hk := hLd _ hL5
        refine ⟨_, rfl, _, rfl, ⟨_, SqL.of (O5.at 0 rfl)⟩, fun D2 hD2 => ?_⟩
        have b1 := c1.2
        refine lc_list (K := K) (xs := lrefs ps') (fun i H => ∃ qs : List LC, Ow _ F4 ((D2, .lst (lrefs qs)) :: (qs.map lcell ++ ((D, .lst (lrefs ps')) :: ps'.map lcell))) H ∧ qs.map (·.2) = ((ps'.map (·.2)).take i).map sortT)
          ⟨[], O5.new hD2, by simp⟩ (fun i_ H_ _ hp_ => ?_) ?_ ?_
        · obtain ⟨qs, hO_, _⟩ := hp_
          exact SqL.of (hO_.ch (D, _) (List.mem_cons_of_mem _ (List.mem_append_right _ List.mem_cons_self)))
        · rintro i x H6 hi ⟨qs, O6, e6⟩
          obtain ⟨c, hc, rfl⟩ : ∃ c, ps'[i]? = some c ∧ x = V.ref c.1 := by
            have hi : (ps'.map fun (c : LC) => V.ref c.1)[i]? = some x := hi
            rw [List.getElem?_map] at hi
            cases e : ps'[i]? with
            | none => rw [e] at hi; cases hi
            | some c => rw [e] at hi; exact ⟨c, rfl, (Option.some.inj hi).symm⟩
          have hm : lcell c ∈ ps'.map lcell := List.mem_map.mpr ⟨c, List.mem_of_getElem? hc, rfl⟩
          have hq := O6.ch (lcell c) (List.mem_cons_of_mem _ (List.mem_append_right _ (List.mem_cons_of_mem _ hm)))
          have hil := (List.getElem?_eq_some_iff.mp hc).1
          have hql : qs.length ≤ i := by
            have := congrArg List.length e6
            simp at this
            omega
          have es : sortV (c.2.map V.int) c.2 = (sortT c.2).map V.int := (RL.sorted (H := F) RL.of_ints).ints
          refine ⟨rfl, _, rfl, _, _, c.2, rfl, hq, RL.of_ints, fun p hp => ?_⟩
          have O7 := O6.new (o := .lst (sortV (c.2.map V.int) c.2)) hp
          refine ⟨_, O7.at 1 rfl, lt_line (by rw [List.length_map]; omega), qs ++ [(p, sortT c.2)], ?_, ?_⟩
          · have O8 := O7.set 1 (.lst (lrefs qs ++ [V.ref p])) rfl
            have ea : lrefs (qs ++ [(p, sortT c.2)]) = lrefs qs ++ [V.ref p] := List.map_append
            rw [ea, List.map_append]
            refine O8.perm ?_
            rw [es]
            show ((p, HO.lst _) :: (D2, _) :: (qs.map lcell ++ _)).Perm ((D2, _) :: (qs.map lcell ++ [(p, HO.lst _)] ++ _))
            refine (List.Perm.swap _ _ _).trans (List.Perm.cons _ ?_)
            rw [List.append_assoc]
            exact List.perm_middle.symm
          · rw [List.map_append, e6]
            have e7 : (ps'.map (·.2))[i]? = some c.2 := by rw [List.getElem?_map, hc]; rfl
            rw [List.take_succ, e7, List.map_append]
            rfl
        · rintro H6 ⟨qs, O6, e6⟩
          have el : (lrefs ps').length = (ps'.map (·.2)).length := by rw [List.length_map, List.length_map]
          rw [el, List.take_length] at e6
          have hsub : ∀ c ∈ qs, lcell c ∈ (D2, HO.lst (lrefs qs)) :: (qs.map lcell ++ ((D, .lst (lrefs ps')) :: ps'.map lcell)) := fun c hc => List.mem_cons_of_mem _ (List.mem_append_left _ (List.mem_map.mpr ⟨c, hc, rfl⟩))
          have nas : ∀ b : Addr, ¬ b ∈ ([] : List Addr) := fun b h => nomatch h
          refine hk F4 H6 D2 qs O6.g ⟨O5.was hD2, O6.cf _ List.mem_cons_self, O6.ch _ List.mem_cons_self, fun c hc => (O6.ca _ (hsub c hc)).resolve_left (nas _), fun c hc => O6.cf _ (hsub c hc), fun c hc => O6.ch _ (hsub c hc), ?_⟩ e6
          have n := O6.nd
          rw [List.map_cons, List.map_append, List.nodup_cons, List.nodup_append] at n
          rw [List.nodup_cons]
          have em : (qs.map lcell).map (·.1) = qs.map (·.1) := by
            rw [List.map_map]
            rfl
          rw [em] at n
          exact ⟨fun h => n.1 (List.mem_append_left _ h), n.2.1⟩
theorem ok_tied_places (nb : Nb mg) (D : Df K mg "tied_places" "tied_places" s_tied_places ["many", "ties"]) : Ca P w K mg base "tied_places" 1 ["many", "ties"] (sp_tied_places mg) := by
  refine FnOk.impC (ok_tied_places_own nb D) fun vs H Q E h => ?_
  obtain ⟨F, x_many, v_ties, x_ties, rfl, P0, f_ties, hk⟩ := h
  refine ⟨F, x_many, v_ties, x_ties, rfl, P0, f_ties, wp_mono hk fun r k F' H' p ps g L e => ?_⟩
  obtain ⟨F2, g2, n2, rl⟩ := L.frz g
  rw [e] at rl
  exact k F2 H' g2 p _ L.pn n2 L.ph rl

abbrev s_come_to : Stmt := top 7
theorem sc_come_to : FnScope ["near", "place", "found", "at", "other"] ["near", "place"] (defScope s_come_to) := ⟨rfl, rfl, rfl, by decide +kernel, rfl, by decide +kernel, by decide +kernel⟩
def m_come_to (x_near : (List (List Int))) (x_place : Int) : M ((List Int)) :=
whL (r := Unit) (fun (st17 : Int × (List Int)) =>
if st17.1 < (st17.2.length : Int) then (
opt (atI st17.2 st17.1) >>= fun y25 =>
opt (atI x_near y25) >>= fun y35 =>
loopN (fun (y45 : Int) (st56 : (List Int)) =>
if y45 ∉ st56 then (
appL st56 y45 >>= fun _ =>
.ok (st56 ++ [y45]))
else (
.ok st56)) y35 st17.2 >>= fun st72 =>
.ok (.go ((st17.1 + (1 : Int)), st72)))
else (
.ok (.stop (st17.1, st17.2)))) 1000000 ((0 : Int), [x_place]) >>= fun f89 => match f89 with
| .rt _ => bad
| .nx st82 =>
.ok st82.2
def sp_come_to (mg : Str → Option Value) : Sp := fun vs H Q E => ∃ (F : Hp) (v_near : V) (x_near : (List (List Int))) (x_place : Int), vs = [v_near, V.int x_place] ∧ Pre F [] H ∧ R (a := (List (List Int))) F v_near x_near ∧
  wp (m_come_to x_near x_place) (fun r => ∀ (F' H' : Hp), Gr [] F H F' H' → ∀ (p : Addr) (w : (List V)), H p = none → F' p = none → H' p = some (.lst w) → RL (a := Int) F' w r → Q (.ref p) H')
  (fun n => ∀ (C : Addr) (H' : Hp), mg (Str.ofString n) = some (.ref C) → Kp [] H H' → E (.ref C) none H')
set_option maxHeartbeats 2000000 in
theorem ok_come_to (nb : Nb mg) (D : Df K mg "come_to" "come_to" s_come_to ["near", "place"]) : Ca P w K mg base "come_to" 1 ["near", "place"] (sp_come_to mg) := by
  refine Ca.mk' D sc_come_to (fun vs H Q E h => ?_) (fun q_ f_ cdv A outer s H vs Q E hr h => ?_)
  · obtain ⟨F, _, _, _, rfl, _⟩ := h
    rfl
  · obtain ⟨F, v_near, x_near, x_place, rfl, P0, f_near, hk⟩ := h
    have nd := sc_come_to.nd
    have hu64 := hr.units
    have hu128 := hu128_of hr
    have O := P0.start
    refine ⟨_, (pss_cons (ps_set (i := 2) nd rfl (Or.inl rfl) (pe_lst (pa_cons (pv 1) pa_nil)))
  (pss_cons (ps_set (i := 3) nd rfl (Or.inl rfl) pe_int)
  (pss_cons (ps_while (passes_of rfl) (pt_cmpR op_lt (pv 3) (pe_callB call_lenT (by rfl) nb.b_len PySem.boot_len (pa_cons (pv 2) pa_nil)) (nomark _)) (pss_cons (ps_for (passes_of rfl) rfl (piListK (K := K) rfl (pe_ix (ixListK (K := K) rfl) (pv 0) (pe_ix (ixListK (K := K) rfl) (pv 2) (pv 3) (fun _ _ => rfl)) (fun _ _ => rfl))) (pg_name (i := 4) nd rfl (Or.inl rfl)) (pss_one (ps_if (pt_cmpR (op_ninT Int hu64) (pv 4) (pv 2) rfl) (pss_one (ps_expr (bmK (K := K) rfl (pe_bm PySem.F.plainAttrs_list PySem.F.slot_list_append PySem.F.type_list_append mt_append (pv 2) (pa_cons (pv 4) pa_nil))))) pss_nil)))
  (pss_one (ps_aug (i := 3) nd rfl (Or.inl rfl) pe_int ip_add))))
  (pss_one (ps_ret (pv 2)))))), ?_⟩
    refine ⟨_, rfl, (by show 1 ≤ sizeLine; decide), fun p2 hp3 => ?_⟩
    have hl5 : RL (a := Int) F ([V.int x_place]) ([x_place]) := RL.cons R.int RL.nil
    have z6 := O.was hp3
    have O4 := O.new (o := .lst ([V.int x_place])) hp3
    obtain ⟨L7, X8, hL9, hLs10, hLd11⟩ := whL_L hk
    refine while_P (fun n σ H_ => ∃ (F_ : Hp) (st : Int × (List Int)) (w_0 : (List V)) (t_0 : Option V), σ = [some v_near, some (V.int x_place), some (V.ref p2), some (V.int st.1), t_0] ∧ Same F F_ ∧ Ow (⟨[], F, H⟩ : Ent) F_ [(p2, .lst w_0)] H_ ∧ RL (a := Int) F_ w_0 st.2 ∧ L7 n st) (fun σ H_ => ∃ (F_ : Hp) (st : Int × (List Int)) (w_0 : (List V)) (t_0 : Option V), σ = [some v_near, some (V.int x_place), some (V.ref p2), some (V.int st.1), t_0] ∧ Same F F_ ∧ Ow (⟨[], F, H⟩ : Ent) F_ [(p2, .lst w_0)] H_ ∧ RL (a := Int) F_ w_0 st.2 ∧ X8 st) 1000000 ⟨F, ((0 : Int), [x_place]), [V.int x_place], none, rfl, Same.refl _, O4, hl5, hL9⟩ ?_ ?_
    rotate_left
    · rintro hex12 m13 sg14 H15 ⟨F22, st17, w19, t21, rfl, S16, O23, hl20, hL18⟩
      have f_near := f_near.mono S16
      have hk := hLs10 _ _ hL18
      refine ⟨_, rfl, _, rfl, _, _, _, rfl, (.inl (O23.at 0 rfl)), hl20.len, _, _, rfl, rfl, _, rfl, ?_⟩
      refine iteD (fun q24 => ?_) (fun q24 => ?_)
      · have hk := wp_if hk q24
        obtain ⟨y25, e26, hk⟩ := wp_opt hk
        obtain ⟨w27, e28, r29⟩ := hl20.atI e26
        obtain rfl := R.int_ r29
        obtain ⟨p30, w31, e32, h33, hl34⟩ := R.lst_ f_near
        cases e32
        obtain ⟨y35, e36, hk⟩ := wp_opt hk
        obtain ⟨w37, e38, r39⟩ := hl34.atI e36
        obtain ⟨p40, w41, e42, h43, hl44⟩ := R.lst_ r39
        cases e42
        obtain ⟨L46, hL47, hLs48, hLd49⟩ := loopN_L hk
        refine ⟨_, (fun _ _ h_ => h_), _, rfl, _, rfl, _, rfl, _, _, _, _, rfl, rfl, (SqL.of (O23.at 0 rfl)), e28, _, _, _, _, rfl, rfl, (SqLF O23.s h33), e38, _, rfl, ⟨_, (SqLF O23.s h43)⟩, ?_⟩
        refine for_list (K := K) (xs := w41) (fun i σ H => ∃ (F_ : Hp) (st : (List Int)) (w_0 : (List V)) (t_0 : Option V), σ = [some (V.ref p30), some (V.int x_place), some (V.ref p2), some (V.int st17.1), t_0] ∧ Same F22 F_ ∧ Ow _ F_ [(p2, .lst w_0)] H ∧ RL (a := Int) F_ w_0 st ∧ L46 (List.drop i y35) st) ⟨F22, st17.2, w19, t21, rfl, Same.refl _, O23, hl20, hL47⟩ (fun i_ σ_ H_ _ hp_ => ?_) ?_ ?_
        · obtain ⟨_, _, _, _, _, hS_, hO_, _⟩ := hp_
          exact SqLF hO_.s (hS_ _ _ h43)
        · rintro i50 x51 sg52 H53 hi54 ⟨F60, st56, w57, t59, rfl, S55, O61, hl58, hL47⟩
          have f_near := f_near.mono S55
          have S16 := S16.trans S55
          have h33 := S55 _ _ h33
          have hl34 := hl34.mono S55
          have r39 := r39.mono S55
          have h43 := S55 _ _ h43
          have hl44 := hl44.mono S55
          obtain ⟨y45, e62, r63⟩ := RL.got hl44 hi54
          rw [drop_at e62] at hL47
          have hk := hLs48 _ _ _ hL47
          obtain rfl := R.int_ r63
          refine ⟨_, rfl, _, rfl, _, _, _, _, R.int, rfl, (.inl (O61.at 0 rfl)), (RL.mono (hl58) O61.s), _, rfl, ?_⟩
          refine iteD (fun q64 => ?_) (fun q64 => ?_)
          · have hk := wp_if hk q64
            obtain ⟨c65, hk⟩ := wp_appL hk
            refine ⟨_, rfl, (.inl ⟨rfl, _, SqL.of (O61.at 0 rfl)⟩), _, rfl, _, _, _, rfl, rfl, (O61.at 0 rfl), (by rw [hl58.len]; exact c65), ?_⟩
            have O67 := O61.set 0 (.lst (w57 ++ [V.int y45])) rfl
            have hl68 : RL (a := Int) F60 (w57 ++ [V.int y45]) (st56 ++ [y45]) := RL.snoc hl58 R.int
            exact ⟨F60, (st56 ++ [y45]), (w57 ++ [V.int y45]), some (V.int y45), rfl, S55, O67, hl68, hk⟩
          · have hk := wp_el hk q64
            exact ⟨F60, st56, w57, some (V.int y45), rfl, S55, O61, hl58, hk⟩
        rintro sg69 H70 ⟨F77, st72, w74, t76, rfl, S71, O78, hl75, hL73⟩
        rw [drop_end hl44.len] at hL73
        have hk := hLd49 _ hL73
        have f_near := f_near.mono S71
        have S16 := S16.trans S71
        have h33 := S71 _ _ h33
        have hl34 := hl34.mono S71
        have r39 := r39.mono S71
        have h43 := S71 _ _ h43
        have hl44 := hl44.mono S71
        refine ⟨_, rfl, _, _, rfl, rfl, ?_⟩
        obtain ⟨m_, hm_, hk⟩ := hk
        exact ⟨m_, hm_, F77, ((st17.1 + (1 : Int)), st72), w74, t76, rfl, S16, O78, hl75, hk⟩
      · have hk := wp_el hk q24
        exact hex12 _ _ ⟨F22, (st17.1, st17.2), w19, t21, rfl, S16, O23, hl20, hk⟩
    rintro sg79 H80 ⟨F87, st82, w84, t86, rfl, S81, O88, hl85, hL83⟩
    have hk := hLd11 _ hL83
    have f_near := f_near.mono S81
    refine ⟨_, rfl, ?_⟩
    exact hk _ _  O88.g  _ _ z6 (O88.cf _ (List.mem_of_getElem? (i := 0) rfl)) (O88.at 0 rfl) hl85
abbrev s_tree_of : Stmt := top 8
theorem sc_tree_of : FnScope ["worths", "ties", "many", "pairs", "a", "b", "length"] ["worths", "ties"] (defScope s_tree_of) := ⟨rfl, rfl, rfl, by decide +kernel, rfl, by decide +kernel, by decide +kernel⟩
def m_tree_of (x_worths : (List Int)) (x_ties : (List (T3 Int Int Int))) : M (((List Int) × (List (T3 Int Int Int)))) :=
compS (fun (y11 : (T3 Int Int Int)) (st28 : Unit) =>
.ok (some (y11.a, y11.b), ())) x_ties () >>= fun q61 =>
if (q61.1.length : Int) ≠ ((x_worths.length : Int) - (1 : Int)) then (
raise "NoTree")
else (
compS (fun (y78 : (Int × Int)) (st95 : Unit) =>
if (0 : Int) ≤ y78.1 then (
if y78.1 < y78.2 then (
if y78.2 < (x_worths.length : Int) then (
.ok (none, ()))
else (
.ok (some (y78.1, y78.2), ())))
else (
.ok (some (y78.1, y78.2), ())))
else (
.ok (some (y78.1, y78.2), ()))) q61.1 () >>= fun q143 =>
if q143.1 ≠ ([] : List (Int × Int)) then (
raise "NoTree")
else (
m_tied_places (x_worths.length : Int) x_ties >>= fun r158 =>
m_come_to r158 (0 : Int) >>= fun r177 =>
if (r177.length : Int) < (x_worths.length : Int) then (
raise "NoTree")
else (
.ok (x_worths, (sortT x_ties)))))
def sp_tree_of (mg : Str → Option Value) : Sp := fun vs H Q E => ∃ (F : Hp) (v_worths : V) (x_worths : (List Int)) (v_ties : V) (x_ties : (List (T3 Int Int Int))), vs = [v_worths, v_ties] ∧ Pre F [] H ∧ R (a := (List Int)) F v_worths x_worths ∧ R (a := (List (T3 Int Int Int))) F v_ties x_ties ∧
  wp (m_tree_of x_worths x_ties) (fun r => ∀ (F' H' : Hp), Gr [] F H F' H' → ∀ (p : Addr) (q0 : Addr) (v0 : (List V)) (q1 : Addr) (v1 : (List V)), H q0 = none → F' q0 = none → H' q0 = some (.lst v0) → RL (a := Int) F' v0 r.1 → H q1 = none → F' q1 = none → H' q1 = some (.lst v1) → RL (a := (T3 Int Int Int)) F' v1 r.2 → q0 ≠ q1 → F' p = some (.tup [.ref q0, .ref q1]) → Q (.ref p) H')
  (fun n => ∀ (C : Addr) (H' : Hp), mg (Str.ofString n) = some (.ref C) → Kp [] H H' → E (.ref C) none H')
set_option maxHeartbeats 2000000 in
theorem ok_tree_of (nb : Nb mg) (C_come_to : Ca P w K mg base "come_to" 1 ["near", "place"] (sp_come_to mg)) (C_tied_places : Ca P w K mg base "tied_places" 1 ["many", "ties"] (sp_tied_places mg)) (E_NoTree : ∃ C, Xc K mg "NoTree" C) (D : Df K mg "tree_of" "tree_of" s_tree_of ["worths", "ties"]) : Ca P w K mg base "tree_of" 2 ["worths", "ties"] (sp_tree_of mg) := by
  obtain ⟨fa_come_to, fd_come_to, G_come_to, M_come_to, K_come_to, B_come_to⟩ := C_come_to.ex
  obtain ⟨fa_tied_places, fd_tied_places, G_tied_places, M_tied_places, K_tied_places, B_tied_places⟩ := C_tied_places.ex
  obtain ⟨XC_NoTree, X_NoTree⟩ := E_NoTree
  refine Ca.mk' D sc_tree_of (fun vs H Q E h => ?_) (fun q_ f_ cdv A outer s H vs Q E hr h => ?_)
  · obtain ⟨F, _, _, _, _, rfl, _⟩ := h
    rfl
  · obtain ⟨F, v_worths, x_worths, v_ties, x_ties, rfl, P0, f_worths, f_ties, hk⟩ := h
    have nd := sc_tree_of.nd
    have hu64 := hr.units
    have hu128 := hu128_of hr
    have O := P0.start
    refine ⟨_, (pss_cons (ps_set (i := 2) nd rfl (Or.inr rfl) (pe_callB call_lenT (by rfl) nb.b_len PySem.boot_len (pa_cons (pv 0) pa_nil)))
  (pss_cons (ps_setLc (i := 3) (own := [("a", 4), ("b", 5), ("length", 6)]) (g := gTup K 3 (gCons (gName 4) (gCons (gName 5) (gCons (gName 6) (gNil))))) (tt := _) rfl nd rfl rfl (sw_true rfl rfl rfl (by decide +kernel)) (piListK (K := K) rfl (pv 1)) (blkOk_by (own := [("a", 4), ("b", 5), ("length", 6)]) (N := ["worths", "ties", "many", "pairs", "a", "b", "length"]) (sc := defScope s_tree_of) (by decide +kernel)) (fun _ _ _ _ _ => (pg_tup rfl (pgs_cons (pg_name (i := 4) nd rfl (Or.inl rfl)) (pgs_cons (pg_name (i := 5) nd rfl (Or.inl rfl)) (pgs_cons (pg_name (i := 6) nd rfl (Or.inl rfl)) pgs_nil))))) (fun _ _ _ _ _ => pts_nil) (fun _ _ _ _ _ => (pe_tup (pa_cons (pv 4) (pa_cons (pv 5) pa_nil)))))
  (pss_cons (ps_if (PW.pt (pw_or (pt_cmpR (op_neT Int hu64) (pe_callB call_lenT (by rfl) nb.b_len PySem.boot_len (pa_cons (pv 3) pa_nil)) (pe_op op_sub (pv 2) pe_int) (nomark _)) (pw_or1 (pt_cmpR (op_neT (List (Int × Int)) hu64) (pe_lc (own := [("a", 4), ("b", 5)]) (g := gTup K 2 (gCons (gName 4) (gCons (gName 5) (gNil)))) (tt := _) rfl nd (piListK (K := K) rfl (pv 3)) (blkOk_by (own := [("a", 4), ("b", 5)]) (N := ["worths", "ties", "many", "pairs", "a", "b", "length"]) (sc := defScope s_tree_of) (by decide +kernel)) (fun _ _ _ _ _ => (pg_tup rfl (pgs_cons (pg_name (i := 4) nd rfl (Or.inl rfl)) (pgs_cons (pg_name (i := 5) nd rfl (Or.inl rfl)) pgs_nil)))) (fun _ _ _ _ _ => (pts_one (pt_not (pt_chain3 op_le op_lt op_lt pe_int (pv 4) (pv 5) (pv 2))))) (fun _ _ _ _ _ => (pe_tup (pa_cons (pv 4) (pa_cons (pv 5) pa_nil))))) (pe_lst pa_nil) (nomark _))))) (pss_one (ps_raise rfl (takes_of rfl rfl rfl rfl) (pmk_own PySem.F.excBase_ValueError X_NoTree.x X_NoTree.g X_NoTree.k (raises_own X_NoTree.b X_NoTree.t) rfl))) pss_nil)
  (pss_cons (ps_if (pt_cmpR op_lt (pe_callB call_lenT (by rfl) nb.b_len PySem.boot_len (pa_cons (pe_call G_come_to (hr.mono (by decide)) rfl M_come_to K_come_to B_come_to .nil (passes_call (takes_of rfl rfl rfl rfl) fun _ _ _ _ h => h) (pa_cons (pe_call G_tied_places (hr.mono (by decide)) rfl M_tied_places K_tied_places B_tied_places .nil (passes_call (takes_of rfl rfl rfl rfl) fun _ _ _ _ h => h) (pa_cons (pv 2) (pa_cons (pv 1) pa_nil))) (pa_cons pe_int pa_nil))) pa_nil)) (pv 2) (nomark _)) (pss_one (ps_raise rfl (takes_of rfl rfl rfl rfl) (pmk_own PySem.F.excBase_ValueError X_NoTree.x X_NoTree.g X_NoTree.k (raises_own X_NoTree.b X_NoTree.t) rfl))) pss_nil)
  (pss_one (ps_ret (pe_tup (pa_cons (pe_callTy (listOfK (K := K) rfl) (by rfl) nb.b_list (by decide +kernel) (pa_cons (pv 0) pa_nil)) (pa_cons (pe_callB (cr_sortedT (T3 Int Int Int) hu128) (by rfl) nb.b_sorted (by decide +kernel) (pa_cons (pv 1) pa_nil)) pa_nil))))))))), ?_⟩
    obtain ⟨p1, w2, e3, h4, hl5⟩ := R.lst_ f_worths
    cases e3
    obtain ⟨p6, w7, e8, h9, hl10⟩ := R.lst_ f_ties
    cases e8
    obtain ⟨c16, L12, hL13, hLs14, hLd15⟩ := compS_L hk
    refine ⟨_, rfl, _, _, _, rfl, (.inl (O.s _ _ h4)), hl5.len, _, rfl, _, rfl, ⟨_, (SqLF O.s h9)⟩, fun p17 hp18 => ?_⟩
    have z50 := O.was hp18
    refine lc_list (K := K) (xs := w7) (fun i H => ∃ (F_ : Hp) (st : Unit) (acc : List (Int × Int)) (wa : List V), Same F F_ ∧ Ow _ F_ [(p17, .lst wa)] H ∧ RL F_ wa acc ∧ wa.length ≤ i ∧ L12 (List.drop i x_ties) acc st) ⟨F, (), [], [], Same.refl _, O.new hp18, RL.nil, Nat.zero_le _, hL13⟩ (fun i_ H_ _ hp_ => ?_) ?_ ?_
    · obtain ⟨_, _, _, _, hS_, hO_, _⟩ := hp_
      exact SqLF hO_.s (hS_ _ _ h9)
    · rintro i19 x20 H21 hi22 ⟨F27, st28, acc24, wa25, S29, O31, hl30, la26, hL13⟩
      have f_worths := f_worths.mono S29
      have f_ties := f_ties.mono S29
      have h4 := S29 _ _ h4
      have hl5 := hl5.mono S29
      have h9 := S29 _ _ h9
      have hl10 := hl10.mono S29
      obtain ⟨y11, e32, r33⟩ := RL.got hl10 hi22
      rw [drop_at e32] at hL13
      have hk := hLs14 _ _ _ _ hL13
      obtain ⟨p34, v37, v38, v39, e35, h36, r40, r41, r42⟩ := R.t3_ r33
      cases e35
      obtain rfl := R.int_ r40
      obtain rfl := R.int_ r41
      obtain rfl := R.int_ r42
      refine ⟨_, _, rfl, (SqTF O31.s h36), rfl, _, _, rfl, _, _, rfl, _, _, rfl, rfl, rfl, ?_⟩
      refine ⟨_, rfl, _, rfl, (by show 2 ≤ sizeLine; decide), fun p43 hp44 => ?_⟩
      obtain ⟨F45, O46, S47, h48⟩ := O31.putE hp44 (.tup [V.int y11.a, V.int y11.b])
      have f_worths := f_worths.mono S47
      have f_ties := f_ties.mono S47
      have h4 := S47 _ _ h4
      have hl5 := hl5.mono S47
      have h9 := S47 _ _ h9
      have hl10 := hl10.mono S47
      have S29 := S29.trans S47
      have hl30 := hl30.mono S47
      have r33 := r33.mono S47
      have h36 := S47 _ _ h36
      have h49 : R (a := (Int × Int)) F45 (.ref p43) (y11.a, y11.b) := R.t2 h48 R.int R.int
      refine ⟨_, (O46.at 0 rfl), (comp_len la26 hi22 hl10.len c16), ?_⟩
      exact ⟨F45, (), acc24 ++ [(y11.a, y11.b)], wa25 ++ [V.ref p43], S29, O46.set 0 (.lst (wa25 ++ [V.ref p43])) rfl, RL.snoc hl30 h49, by rw [List.length_append]; exact Nat.succ_le_succ la26, hk⟩
    rintro H51 ⟨F52, st53, acc54, wa55, S56, O57, hl58, la59, hL60⟩
    rw [drop_end hl10.len] at hL60
    have hk := hLd15 _ _ hL60
    have f_worths := f_worths.mono S56
    have f_ties := f_ties.mono S56
    have h4 := S56 _ _ h4
    have hl5 := hl5.mono S56
    have h9 := S56 _ _ h9
    have hl10 := hl10.mono S56
    obtain ⟨F62, O63, S64, h65⟩ := O57.frzE 0 rfl z50
    have f_worths := f_worths.mono S64
    have f_ties := f_ties.mono S64
    have h4 := S64 _ _ h4
    have hl5 := hl5.mono S64
    have h9 := S64 _ _ h9
    have hl10 := hl10.mono S64
    have hl58 := hl58.mono S64
    have h66 := R.lst (a := (Int × Int)) h65 hl58
    obtain ⟨p67, w68, e69, h70, hl71⟩ := R.lst_ h66
    cases e69
    refine ⟨_, rfl, _, _, _, rfl, (.inl (O63.s _ _ h70)), hl71.len, _, rfl, _, _, rfl, rfl, _, _, R.int, R.int, _, rfl, ?_⟩
    refine iteD (fun q72 => ?_) (fun q72 => ?_)
    · have hk := wp_if hk q72
      refine iteT ?_
      exact hk _ _ X_NoTree.g O63.kp
    · have hk := wp_el hk q72
      obtain ⟨p73, w74, e75, h76, hl77⟩ := R.lst_ h66
      cases e75
      obtain ⟨c83, L79, hL80, hLs81, hLd82⟩ := compS_L hk
      refine ⟨_, rfl, _, rfl, ⟨_, (SqLF O63.s h76)⟩, fun p84 hp85 => ?_⟩
      have z132 := O63.was hp85
      refine lc_list (K := K) (xs := w74) (fun i H => ∃ (F_ : Hp) (st : Unit) (acc : List (Int × Int)) (wa : List V), Same F62 F_ ∧ Ow _ F_ [(p84, .lst wa)] H ∧ RL F_ wa acc ∧ wa.length ≤ i ∧ L79 (List.drop i acc54) acc st) ⟨F62, (), [], [], Same.refl _, O63.new hp85, RL.nil, Nat.zero_le _, hL80⟩ (fun i_ H_ _ hp_ => ?_) ?_ ?_
      · obtain ⟨_, _, _, _, hS_, hO_, _⟩ := hp_
        exact SqLF hO_.s (hS_ _ _ h76)
      · rintro i86 x87 H88 hi89 ⟨F94, st95, acc91, wa92, S96, O98, hl97, la93, hL80⟩
        have f_worths := f_worths.mono S96
        have f_ties := f_ties.mono S96
        have h4 := S96 _ _ h4
        have hl5 := hl5.mono S96
        have h9 := S96 _ _ h9
        have hl10 := hl10.mono S96
        have h66 := h66.mono S96
        have h70 := S96 _ _ h70
        have hl71 := hl71.mono S96
        have h76 := S96 _ _ h76
        have hl77 := hl77.mono S96
        obtain ⟨y78, e99, r100⟩ := RL.got hl77 hi89
        rw [drop_at e99] at hL80
        have hk := hLs81 _ _ _ _ hL80
        obtain ⟨p101, v104, v105, e102, h103, r106, r107⟩ := R.t2_ r100
        cases e102
        obtain rfl := R.int_ r106
        obtain rfl := R.int_ r107
        refine ⟨_, _, rfl, (SqTF O98.s h103), rfl, _, _, rfl, _, _, rfl, rfl, rfl, _, rfl, _, _, rfl, rfl, _, rfl, ?_⟩
        refine iteD (fun q108 => ?_) (fun q108 => ?_)
        · have hk := wp_if hk q108
          refine ⟨_, rfl, _, _, rfl, rfl, _, rfl, ?_⟩
          refine iteD (fun q109 => ?_) (fun q109 => ?_)
          · have hk := wp_if hk q109
            refine ⟨_, rfl, _, _, rfl, rfl, _, rfl, ?_⟩
            refine iteN (fun q110 => ?_) (fun q110 => ?_)
            · have hk := wp_if hk q110
              exact ⟨F94, (), acc91, wa92, S96, O98, hl97, Nat.le_succ_of_le la93, hk⟩
            · have hk := wp_el hk q110
              refine ⟨_, rfl, _, rfl, (by show 2 ≤ sizeLine; decide), fun p111 hp112 => ?_⟩
              obtain ⟨F113, O114, S115, h116⟩ := O98.putE hp112 (.tup [V.int y78.1, V.int y78.2])
              have f_worths := f_worths.mono S115
              have f_ties := f_ties.mono S115
              have h4 := S115 _ _ h4
              have hl5 := hl5.mono S115
              have h9 := S115 _ _ h9
              have hl10 := hl10.mono S115
              have h66 := h66.mono S115
              have h70 := S115 _ _ h70
              have hl71 := hl71.mono S115
              have h76 := S115 _ _ h76
              have hl77 := hl77.mono S115
              have S96 := S96.trans S115
              have hl97 := hl97.mono S115
              have r100 := r100.mono S115
              have h103 := S115 _ _ h103
              have h117 : R (a := (Int × Int)) F113 (.ref p111) (y78.1, y78.2) := R.t2 h116 R.int R.int
              refine ⟨_, (O114.at 0 rfl), (comp_len la93 hi89 hl77.len c83), ?_⟩
              exact ⟨F113, (), acc91 ++ [(y78.1, y78.2)], wa92 ++ [V.ref p111], S96, O114.set 0 (.lst (wa92 ++ [V.ref p111])) rfl, RL.snoc hl97 h117, by rw [List.length_append]; exact Nat.succ_le_succ la93, hk⟩
          · have hk := wp_el hk q109
            refine ⟨_, rfl, ?_⟩
            refine iteNF ?_
            refine ⟨_, rfl, _, rfl, (by show 2 ≤ sizeLine; decide), fun p118 hp119 => ?_⟩
            obtain ⟨F120, O121, S122, h123⟩ := O98.putE hp119 (.tup [V.int y78.1, V.int y78.2])
            have f_worths := f_worths.mono S122
            have f_ties := f_ties.mono S122
            have h4 := S122 _ _ h4
            have hl5 := hl5.mono S122
            have h9 := S122 _ _ h9
            have hl10 := hl10.mono S122
            have h66 := h66.mono S122
            have h70 := S122 _ _ h70
            have hl71 := hl71.mono S122
            have h76 := S122 _ _ h76
            have hl77 := hl77.mono S122
            have S96 := S96.trans S122
            have hl97 := hl97.mono S122
            have r100 := r100.mono S122
            have h103 := S122 _ _ h103
            have h124 : R (a := (Int × Int)) F120 (.ref p118) (y78.1, y78.2) := R.t2 h123 R.int R.int
            refine ⟨_, (O121.at 0 rfl), (comp_len la93 hi89 hl77.len c83), ?_⟩
            exact ⟨F120, (), acc91 ++ [(y78.1, y78.2)], wa92 ++ [V.ref p118], S96, O121.set 0 (.lst (wa92 ++ [V.ref p118])) rfl, RL.snoc hl97 h124, by rw [List.length_append]; exact Nat.succ_le_succ la93, hk⟩
        · have hk := wp_el hk q108
          refine ⟨_, rfl, ?_⟩
          refine iteNF ?_
          refine ⟨_, rfl, _, rfl, (by show 2 ≤ sizeLine; decide), fun p125 hp126 => ?_⟩
          obtain ⟨F127, O128, S129, h130⟩ := O98.putE hp126 (.tup [V.int y78.1, V.int y78.2])
          have f_worths := f_worths.mono S129
          have f_ties := f_ties.mono S129
          have h4 := S129 _ _ h4
          have hl5 := hl5.mono S129
          have h9 := S129 _ _ h9
          have hl10 := hl10.mono S129
          have h66 := h66.mono S129
          have h70 := S129 _ _ h70
          have hl71 := hl71.mono S129
          have h76 := S129 _ _ h76
          have hl77 := hl77.mono S129
          have S96 := S96.trans S129
          have hl97 := hl97.mono S129
          have r100 := r100.mono S129
          have h103 := S129 _ _ h103
          have h131 : R (a := (Int × Int)) F127 (.ref p125) (y78.1, y78.2) := R.t2 h130 R.int R.int
          refine ⟨_, (O128.at 0 rfl), (comp_len la93 hi89 hl77.len c83), ?_⟩
          exact ⟨F127, (), acc91 ++ [(y78.1, y78.2)], wa92 ++ [V.ref p125], S96, O128.set 0 (.lst (wa92 ++ [V.ref p125])) rfl, RL.snoc hl97 h131, by rw [List.length_append]; exact Nat.succ_le_succ la93, hk⟩
      rintro H133 ⟨F134, st135, acc136, wa137, S138, O139, hl140, la141, hL142⟩
      rw [drop_end hl77.len] at hL142
      have hk := hLd82 _ _ hL142
      have f_worths := f_worths.mono S138
      have f_ties := f_ties.mono S138
      have h4 := S138 _ _ h4
      have hl5 := hl5.mono S138
      have h9 := S138 _ _ h9
      have hl10 := hl10.mono S138
      have h66 := h66.mono S138
      have h70 := S138 _ _ h70
      have hl71 := hl71.mono S138
      have h76 := S138 _ _ h76
      have hl77 := hl77.mono S138
      obtain ⟨F144, O145, S146, h147⟩ := O139.frzE 0 rfl z132
      have f_worths := f_worths.mono S146
      have f_ties := f_ties.mono S146
      have h4 := S146 _ _ h4
      have hl5 := hl5.mono S146
      have h9 := S146 _ _ h9
      have hl10 := hl10.mono S146
      have h66 := h66.mono S146
      have h70 := S146 _ _ h70
      have hl71 := hl71.mono S146
      have h76 := S146 _ _ h76
      have hl77 := hl77.mono S146
      have hl140 := hl140.mono S146
      have h148 := R.lst (a := (Int × Int)) h147 hl140
      refine ⟨(by show 0 ≤ sizeLine; decide), fun p149 hp150 => ?_⟩
      have hl156 : RL (a := (Int × Int)) F144 ([]) ([] : List (Int × Int)) := RL.nil
      obtain ⟨F151, O152, S153, h154⟩ := O145.putE hp150 (.lst ([]))
      have f_worths := f_worths.mono S153
      have f_ties := f_ties.mono S153
      have h4 := S153 _ _ h4
      have hl5 := hl5.mono S153
      have h9 := S153 _ _ h9
      have hl10 := hl10.mono S153
      have h66 := h66.mono S153
      have h70 := S153 _ _ h70
      have hl71 := hl71.mono S153
      have h76 := S153 _ _ h76
      have hl77 := hl77.mono S153
      have h148 := h148.mono S153
      have hl156 := hl156.mono S153
      have h155 := R.lst (a := (Int × Int)) h154 hl156
      refine ⟨_, _, (R.mono h148 O152.s), (R.mono h155 O152.s), _, rfl, ?_⟩
      refine iteD (fun q157 => ?_) (fun q157 => ?_)
      · have hk := wp_if hk q157
        exact hk _ _ X_NoTree.g O152.kp
      · have hk := wp_el hk q157
        refine ⟨_, rfl, _, rfl, _, _, _, _, rfl, O152.pre0, f_ties, wp_call hk (fun r158 er159 hk F160 H161 g162 p163 w164 hn165 hf166 h167 hl168 => ?_) (fun n hn C H1 hC kp => hn C H1 hC (O152.kp0 kp))⟩
        have O169 := O152.call0 g162
        have S_ := g162.f
        have f_worths := f_worths.mono S_
        have f_ties := f_ties.mono S_
        have h4 := S_ _ _ h4
        have hl5 := hl5.mono S_
        have h9 := S_ _ _ h9
        have hl10 := hl10.mono S_
        have h66 := h66.mono S_
        have h70 := S_ _ _ h70
        have hl71 := hl71.mono S_
        have h76 := S_ _ _ h76
        have hl77 := hl77.mono S_
        have h148 := h148.mono S_
        have h155 := h155.mono S_
        have O170 := O152.got O169 rfl hn165 hf166 h167
        have z171 := O152.was hn165
        obtain ⟨F172, O173, S174, h175⟩ := O170.frzE 0 rfl z171
        have f_worths := f_worths.mono S174
        have f_ties := f_ties.mono S174
        have h4 := S174 _ _ h4
        have hl5 := hl5.mono S174
        have h9 := S174 _ _ h9
        have hl10 := hl10.mono S174
        have h66 := h66.mono S174
        have h70 := S174 _ _ h70
        have hl71 := hl71.mono S174
        have h76 := S174 _ _ h76
        have hl77 := hl77.mono S174
        have h148 := h148.mono S174
        have h155 := h155.mono S174
        have hl168 := hl168.mono S174
        have h176 := R.lst (a := (List Int)) h175 hl168
        refine ⟨_, _, _, _, rfl, O173.pre0, h176, wp_call hk (fun r177 er178 hk F179 H180 g181 p182 w183 hn184 hf185 h186 hl187 => ?_) (fun n hn C H1 hC kp => hn C H1 hC (O173.kp0 kp))⟩
        have O188 := O173.call0 g181
        have S_ := g181.f
        have f_worths := f_worths.mono S_
        have f_ties := f_ties.mono S_
        have h4 := S_ _ _ h4
        have hl5 := hl5.mono S_
        have h9 := S_ _ _ h9
        have hl10 := hl10.mono S_
        have h66 := h66.mono S_
        have h70 := S_ _ _ h70
        have hl71 := hl71.mono S_
        have h76 := S_ _ _ h76
        have hl77 := hl77.mono S_
        have h148 := h148.mono S_
        have h155 := h155.mono S_
        have h176 := h176.mono S_
        have O189 := O173.got O188 rfl hn184 hf185 h186
        have z190 := O173.was hn184
        obtain ⟨F191, O192, S193, h194⟩ := O189.frzE 0 rfl z190
        have f_worths := f_worths.mono S193
        have f_ties := f_ties.mono S193
        have h4 := S193 _ _ h4
        have hl5 := hl5.mono S193
        have h9 := S193 _ _ h9
        have hl10 := hl10.mono S193
        have h66 := h66.mono S193
        have h70 := S193 _ _ h70
        have hl71 := hl71.mono S193
        have h76 := S193 _ _ h76
        have hl77 := hl77.mono S193
        have h148 := h148.mono S193
        have h155 := h155.mono S193
        have h176 := h176.mono S193
        have hl187 := hl187.mono S193
        have h195 := R.lst (a := Int) h194 hl187
        obtain ⟨p196, w197, e198, h199, hl200⟩ := R.lst_ h195
        cases e198
        refine ⟨_, _, _, rfl, (.inl (O192.s _ _ h199)), hl200.len, _, rfl, _, _, rfl, rfl, _, rfl, ?_⟩
        refine iteD (fun q201 => ?_) (fun q201 => ?_)
        · have hk := wp_if hk q201
          exact hk _ _ X_NoTree.g O192.kp
        · have hk := wp_el hk q201
          obtain ⟨p205, w206, e207, h208, hl209⟩ := R.lst_ f_worths
          cases e207
          refine ⟨_, rfl, _, _, rfl, (.inl (SqLF O192.s h208)), fun p210 hp211 => ?_⟩
          have hl213 : RL (a := Int) F191 w206 x_worths := hl209
          have z214 := O192.was hp211
          have O212 := O192.new (o := .lst w206) hp211
          obtain ⟨p215, w216, e217, h218, hl219⟩ := R.lst_ f_ties
          cases e217
          refine ⟨_, rfl, _, _, _, rfl, (O212.s _ _ h218), (RL.mono hl219 O212.s), fun p220 hp221 => ?_⟩
          have hl223 : RL (a := (T3 Int Int Int)) F191 (sortV w216 x_ties) (sortT x_ties) := (RL.sorted hl219)
          have z224 := O212.was hp221
          have O222 := O212.new (o := .lst (sortV w216 x_ties)) hp221
          refine ⟨(by show 2 ≤ sizeLine; decide), fun p225 hp226 => ?_⟩
          obtain ⟨F227, O228, S229, h230⟩ := O222.putE hp226 (.tup [V.ref p210, V.ref p220])
          have f_worths := f_worths.mono S229
          have f_ties := f_ties.mono S229
          have h4 := S229 _ _ h4
          have hl5 := hl5.mono S229
          have h9 := S229 _ _ h9
          have hl10 := hl10.mono S229
          have h66 := h66.mono S229
          have h70 := S229 _ _ h70
          have hl71 := hl71.mono S229
          have h76 := S229 _ _ h76
          have hl77 := hl77.mono S229
          have h148 := h148.mono S229
          have h155 := h155.mono S229
          have h176 := h176.mono S229
          have h195 := h195.mono S229
          have h199 := S229 _ _ h199
          have hl200 := hl200.mono S229
          have h208 := S229 _ _ h208
          have hl209 := hl209.mono S229
          have hl213 := hl213.mono S229
          have h218 := S229 _ _ h218
          have hl219 := hl219.mono S229
          have hl223 := hl223.mono S229
          exact hk _ _  O228.g  _ _ _ _ _ z214 (O228.cf _ (List.mem_of_getElem? (i := 1) rfl)) (O228.at 1 rfl) hl213 z224 (O228.cf _ (List.mem_of_getElem? (i := 0) rfl)) (O228.at 0 rfl) hl223 (O228.ne 1 0 (by decide) rfl rfl) h230
abbrev s_need_place : Stmt := top 9
theorem sc_need_place : FnScope ["tree", "place"] ["tree", "place"] (defScope s_need_place) := ⟨rfl, rfl, rfl, by decide +kernel, rfl, by decide +kernel, by decide +kernel⟩
def m_need_place (x_tree : ((List Int) × (List (T3 Int Int Int)))) (x_place : Int) : M (Unit) :=
if (0 : Int) ≤ x_place then (
if x_place < (x_tree.1.length : Int) then (
.ok ())
else (
raise "NoPlace"))
else (
raise "NoPlace")
def sp_need_place (mg : Str → Option Value) : Sp := fun vs H Q E => ∃ (F : Hp) (v_tree : V) (x_tree : ((List Int) × (List (T3 Int Int Int)))) (x_place : Int), vs = [v_tree, V.int x_place] ∧ Pre F [] H ∧ R (a := ((List Int) × (List (T3 Int Int Int)))) F v_tree x_tree ∧
  wp (m_need_place x_tree x_place) (fun r => ∀ (F' H' : Hp), Gr [] F H F' H' → Q .non H')
  (fun n => ∀ (C : Addr) (H' : Hp), mg (Str.ofString n) = some (.ref C) → Kp [] H H' → E (.ref C) none H')
set_option maxHeartbeats 2000000 in
theorem ok_need_place (nb : Nb mg) (E_NoPlace : ∃ C, Xc K mg "NoPlace" C) (D : Df K mg "need_place" "need_place" s_need_place ["tree", "place"]) : Ca P w K mg base "need_place" 1 ["tree", "place"] (sp_need_place mg) := by
  obtain ⟨XC_NoPlace, X_NoPlace⟩ := E_NoPlace
  refine Ca.mk' D sc_need_place (fun vs H Q E h => ?_) (fun q_ f_ cdv A outer s H vs Q E hr h => ?_)
  · obtain ⟨F, _, _, _, rfl, _⟩ := h
    rfl
  · obtain ⟨F, v_tree, x_tree, x_place, rfl, P0, f_tree, hk⟩ := h
    have nd := sc_need_place.nd
    have hu64 := hr.units
    have hu128 := hu128_of hr
    have O := P0.start
    refine ⟨_, (pss_one (ps_if (pt_not (pt_chain op_le op_lt pe_int (pv 1) (pe_callB call_lenT (by rfl) nb.b_len PySem.boot_len (pa_cons (pe_ix (ixTupK (K := K) rfl) (pv 0) pe_int (fun _ _ => rfl)) pa_nil)))) (pss_one (ps_raise rfl (takes_of rfl rfl rfl rfl) (pmk_own PySem.F.excBase_ValueError X_NoPlace.x X_NoPlace.g X_NoPlace.k (raises_own X_NoPlace.b X_NoPlace.t) rfl))) pss_nil)), ?_⟩
    refine ⟨_, rfl, _, _, rfl, rfl, _, rfl, ?_⟩
    refine iteD (fun q1 => ?_) (fun q1 => ?_)
    · have hk := wp_if hk q1
      obtain ⟨p2, v5, v6, e3, h4, r7, r8⟩ := R.t2_ f_tree
      cases e3
      obtain ⟨p9, w10, e11, h12, hl13⟩ := R.lst_ r7
      cases e11
      refine ⟨_, rfl, _, _, _, _, rfl, rfl, (SqTF O.s h4), rfl, _, _, _, rfl, (.inl (O.s _ _ h12)), hl13.len, _, _, rfl, rfl, _, rfl, ?_⟩
      refine iteN (fun q14 => ?_) (fun q14 => ?_)
      · have hk := wp_if hk q14
        exact hk _ _  O.g 
      · have hk := wp_el hk q14
        exact hk _ _ X_NoPlace.g O.kp
    · have hk := wp_el hk q1
      refine ⟨_, rfl, ?_⟩
      refine iteNF ?_
      exact hk _ _ X_NoPlace.g O.kp
abbrev s_lengths_of : Stmt := top 10
theorem sc_lengths_of : FnScope ["tree", "found", "a", "b", "length"] ["tree"] (defScope s_lengths_of) := ⟨rfl, rfl, rfl, by decide +kernel, rfl, by decide +kernel, by decide +kernel⟩
def m_lengths_of (x_tree : ((List Int) × (List (T3 Int Int Int)))) : M ((List ((Int × Int) × Int))) :=
loopN (fun (y19 : (T3 Int Int Int)) (st30 : (List ((Int × Int) × Int))) =>
putD st30 ((y19.a, y19.b).1, (y19.a, y19.b).2) y19.c >>= fun z64 =>
putD z64 ((y19.b, y19.a).1, (y19.b, y19.a).2) y19.c >>= fun z82 =>
.ok z82) x_tree.2 ([] : (List ((Int × Int) × Int))) >>= fun st88 =>
.ok st88
def sp_lengths_of (mg : Str → Option Value) : Sp := fun vs H Q E => ∃ (F : Hp) (v_tree : V) (x_tree : ((List Int) × (List (T3 Int Int Int)))), vs = [v_tree] ∧ Pre F [] H ∧ R (a := ((List Int) × (List (T3 Int Int Int)))) F v_tree x_tree ∧
  wp (m_lengths_of x_tree) (fun r => ∀ (F' H' : Hp), Gr [] F H F' H' → ∀ v : V, RDv (κ := (Int × Int)) (β := Int) F' v r → Q v H')
  (fun n => ∀ (C : Addr) (H' : Hp), mg (Str.ofString n) = some (.ref C) → Kp [] H H' → E (.ref C) none H')
set_option maxHeartbeats 2000000 in
theorem ok_lengths_of (nb : Nb mg) (D : Df K mg "lengths_of" "lengths_of" s_lengths_of ["tree"]) : Ca P w K mg base "lengths_of" 1 ["tree"] (sp_lengths_of mg) := by
  refine Ca.mk' D sc_lengths_of (fun vs H Q E h => ?_) (fun q_ f_ cdv A outer s H vs Q E hr h => ?_)
  · obtain ⟨F, _, _, rfl, _⟩ := h
    rfl
  · obtain ⟨F, v_tree, x_tree, rfl, P0, f_tree, hk⟩ := h
    have nd := sc_lengths_of.nd
    have hu64 := hr.units
    have hu128 := hu128_of hr
    have O := P0.start
    refine ⟨_, (pss_cons (ps_set (i := 1) nd rfl (Or.inl rfl) pe_dnewT)
  (pss_cons (ps_for (passes_of rfl) rfl (piListK (K := K) rfl (pe_ix (ixTupK (K := K) rfl) (pv 0) pe_int (fun _ _ => rfl))) (pg_tup rfl (pgs_cons (pg_name (i := 2) nd rfl (Or.inl rfl)) (pgs_cons (pg_name (i := 3) nd rfl (Or.inl rfl)) (pgs_cons (pg_name (i := 4) nd rfl (Or.inl rfl)) pgs_nil)))) (pss_cons (ps_dput (u1_of hu64) (pv 1) (pe_tup (pa_cons (pv 2) (pa_cons (pv 3) pa_nil))) (pv 4) rfl)
  (pss_one (ps_dput (u1_of hu64) (pv 1) (pe_tup (pa_cons (pv 3) (pa_cons (pv 2) pa_nil))) (pv 4) rfl))))
  (pss_one (ps_ret (pv 1))))), ?_⟩
    refine fun p2 hp3 => ?_
    have hl5 : RD (κ := (Int × Int)) (β := Int) F [] ([] : (List ((Int × Int) × Int))) := RD.nil
    have z6 := O.was hp3
    have O4 := O.new (o := .dT []) hp3
    obtain ⟨p7, v10, v11, e8, h9, r12, r13⟩ := R.t2_ f_tree
    cases e8
    obtain ⟨p14, w15, e16, h17, hl18⟩ := R.lst_ r13
    cases e16
    obtain ⟨L20, hL21, hLs22, hLd23⟩ := loopN_L hk
    refine ⟨_, rfl, _, _, _, _, rfl, rfl, (SqTF O4.s h9), rfl, _, rfl, ⟨_, (SqLF O4.s h17)⟩, ?_⟩
    refine for_list (K := K) (xs := w15) (fun i σ H => ∃ (F_ : Hp) (st : (List ((Int × Int) × Int))) (w_0 : (List (List Key × V))) (t_0 : Option V) (t_1 : Option V) (t_2 : Option V), σ = [some (V.ref p7), some (V.ref p2), t_0, t_1, t_2] ∧ Same F F_ ∧ Ow _ F_ [(p2, .dT w_0)] H ∧ RD (κ := (Int × Int)) (β := Int) F_ w_0 st ∧ L20 (List.drop i x_tree.2) st) ⟨F, ([] : (List ((Int × Int) × Int))), [], none, none, none, rfl, Same.refl _, O4, hl5, hL21⟩ (fun i_ σ_ H_ _ hp_ => ?_) ?_ ?_
    · obtain ⟨_, _, _, _, _, _, _, hS_, hO_, _⟩ := hp_
      exact SqLF hO_.s (hS_ _ _ h17)
    · rintro i24 x25 sg26 H27 hi28 ⟨F36, st30, w31, t33, t34, t35, rfl, S29, O37, hl32, hL21⟩
      have f_tree := f_tree.mono S29
      have h9 := S29 _ _ h9
      have r12 := r12.mono S29
      have r13 := r13.mono S29
      have h17 := S29 _ _ h17
      have hl18 := hl18.mono S29
      obtain ⟨y19, e38, r39⟩ := RL.got hl18 hi28
      rw [drop_at e38] at hL21
      have hk := hLs22 _ _ _ hL21
      obtain ⟨p40, v43, v44, v45, e41, h42, r46, r47, r48⟩ := R.t3_ r39
      cases e41
      obtain rfl := R.int_ r46
      obtain rfl := R.int_ r47
      obtain rfl := R.int_ r48
      refine ⟨_, _, rfl, (SqTF O37.s h42), rfl, _, _, rfl, _, _, rfl, _, _, rfl, rfl, _, rfl, _, rfl, _, rfl, _, rfl, (by show 2 ≤ sizeLine; decide), fun p49 hp50 => ?_⟩
      obtain ⟨F51, O52, S53, h54⟩ := O37.putE hp50 (.tup [V.int y19.a, V.int y19.b])
      have f_tree := f_tree.mono S53
      have h9 := S53 _ _ h9
      have r12 := r12.mono S53
      have r13 := r13.mono S53
      have h17 := S53 _ _ h17
      have hl18 := hl18.mono S53
      have hl32 := hl32.mono S53
      have S29 := S29.trans S53
      have r39 := r39.mono S53
      have h42 := S53 _ _ h42
      have h55 : R (a := (Int × Int)) F51 (.ref p49) (y19.a, y19.b) := R.t2 h54 R.int R.int
      obtain ⟨p56, v59, v60, e57, h58, r61, r62⟩ := R.t2_ h55
      cases e57
      obtain rfl := R.int_ r61
      obtain rfl := R.int_ r62
      obtain ⟨c63, hk⟩ := wp_putD hk
      refine ⟨_, _, rfl, (dput_T (v := (V.int y19.c)) (O52.at 0 rfl) (O52.s _ _ h58) (by rw [RD.len hl32]; exact c63)), ?_⟩
      have O65 := O52.set 0 (.dT (putK w31 (DK.kk ((y19.a, y19.b).1, (y19.a, y19.b).2)) (V.int y19.c))) rfl
      have hl66 : RD (κ := (Int × Int)) (β := Int) F51 (putK w31 (DK.kk ((y19.a, y19.b).1, (y19.a, y19.b).2)) (V.int y19.c)) (dPut st30 ((y19.a, y19.b).1, (y19.a, y19.b).2) y19.c) := RD.put hl32 ((y19.a, y19.b).1, (y19.a, y19.b).2) R.int
      refine ⟨_, rfl, _, rfl, _, rfl, _, rfl, (by show 2 ≤ sizeLine; decide), fun p67 hp68 => ?_⟩
      obtain ⟨F69, O70, S71, h72⟩ := O65.putE hp68 (.tup [V.int y19.b, V.int y19.a])
      have f_tree := f_tree.mono S71
      have h9 := S71 _ _ h9
      have r12 := r12.mono S71
      have r13 := r13.mono S71
      have h17 := S71 _ _ h17
      have hl18 := hl18.mono S71
      have S29 := S29.trans S71
      have r39 := r39.mono S71
      have h42 := S71 _ _ h42
      have h55 := h55.mono S71
      have h58 := S71 _ _ h58
      have hl66 := hl66.mono S71
      have h73 : R (a := (Int × Int)) F69 (.ref p67) (y19.b, y19.a) := R.t2 h72 R.int R.int
      obtain ⟨p74, v77, v78, e75, h76, r79, r80⟩ := R.t2_ h73
      cases e75
      obtain rfl := R.int_ r79
      obtain rfl := R.int_ r80
      obtain ⟨c81, hk⟩ := wp_putD hk
      refine ⟨_, _, rfl, (dput_T (v := (V.int y19.c)) (O70.at 0 rfl) (O70.s _ _ h76) (by rw [RD.len hl66]; exact c81)), ?_⟩
      have O83 := O70.set 0 (.dT (putK (putK w31 (DK.kk ((y19.a, y19.b).1, (y19.a, y19.b).2)) (V.int y19.c)) (DK.kk ((y19.b, y19.a).1, (y19.b, y19.a).2)) (V.int y19.c))) rfl
      have hl84 : RD (κ := (Int × Int)) (β := Int) F69 (putK (putK w31 (DK.kk ((y19.a, y19.b).1, (y19.a, y19.b).2)) (V.int y19.c)) (DK.kk ((y19.b, y19.a).1, (y19.b, y19.a).2)) (V.int y19.c)) (dPut (dPut st30 ((y19.a, y19.b).1, (y19.a, y19.b).2) y19.c) ((y19.b, y19.a).1, (y19.b, y19.a).2) y19.c) := RD.put hl66 ((y19.b, y19.a).1, (y19.b, y19.a).2) R.int
      exact ⟨F69, (dPut (dPut st30 ((y19.a, y19.b).1, (y19.a, y19.b).2) y19.c) ((y19.b, y19.a).1, (y19.b, y19.a).2) y19.c), (putK (putK w31 (DK.kk ((y19.a, y19.b).1, (y19.a, y19.b).2)) (V.int y19.c)) (DK.kk ((y19.b, y19.a).1, (y19.b, y19.a).2)) (V.int y19.c)), some (V.int y19.a), some (V.int y19.b), some (V.int y19.c), rfl, S29, O83, hl84, hk⟩
    rintro sg85 H86 ⟨F95, st88, w90, t92, t93, t94, rfl, S87, O96, hl91, hL89⟩
    rw [drop_end hl18.len] at hL89
    have hk := hLd23 _ hL89
    have f_tree := f_tree.mono S87
    have h9 := S87 _ _ h9
    have r12 := r12.mono S87
    have r13 := r13.mono S87
    have h17 := S87 _ _ h17
    have hl18 := hl18.mono S87
    obtain ⟨F97, O98, S99, h100⟩ := O96.frzE 0 rfl z6
    have f_tree := f_tree.mono S99
    have h9 := S99 _ _ h9
    have r12 := r12.mono S99
    have r13 := r13.mono S99
    have h17 := S99 _ _ h17
    have hl18 := hl18.mono S99
    have hl91 := hl91.mono S99
    have h101 := RDv.mk (κ := (Int × Int)) (β := Int) h100 hl91
    refine ⟨_, rfl, ?_⟩
    exact hk _ _  O98.g  _ h101
abbrev s_tied_to : Stmt := top 11
theorem sc_tied_to : FnScope ["tree", "place"] ["tree", "place"] (defScope s_tied_to) := ⟨rfl, rfl, rfl, by decide +kernel, rfl, by decide +kernel, by decide +kernel⟩
def m_tied_to (x_tree : List Int × List (T3 Int Int Int)) (x_place : Int) : M (List Int) :=
  m_need_place x_tree x_place >>= fun _ =>
  m_tied_places (x_tree.1.length : Int) x_tree.2 >>= fun r =>
  opt (atI r x_place) >>= fun y =>
  .ok y
def sp_tied_to (mg : Str → Option Value) : Sp := fun vs H Q E => ∃ (F : Hp) (v_tree : V) (x_tree : List Int × List (T3 Int Int Int)) (x_place : Int), vs = [v_tree, .int x_place] ∧ Pre F [] H ∧ R (a := List Int × List (T3 Int Int Int)) F v_tree x_tree ∧
  wp (m_tied_to x_tree x_place) (fun r => ∀ (F' H' : Hp), Gr [] F H F' H' → ∀ (p : Addr) (w : List V), H p = none → F' p = none → H' p = some (.lst w) → RL (a := Int) F' w r → Q (.ref p) H')
  (fun n => ∀ (C : Addr) (H' : Hp), mg (Str.ofString n) = some (.ref C) → Kp [] H H' → E (.ref C) none H')
set_option maxHeartbeats 2000000 in
theorem ok_tied_to (nb : Nb mg) (C_need_place : Ca P w K mg base "need_place" 1 ["tree", "place"] (sp_need_place mg)) (C_tied_places : Ca P w K mg base "tied_places" 1 ["many", "ties"] (sp_tied_places_own mg))
    (D : Df K mg "tied_to" "tied_to" s_tied_to ["tree", "place"]) : Ca P w K mg base "tied_to" 2 ["tree", "place"] (sp_tied_to mg) := by
  obtain ⟨fa1, fd1, G1, M1, K1, B1⟩ := C_need_place.ex
  obtain ⟨fa2, fd2, G2, M2, K2, B2⟩ := C_tied_places.ex
  refine Ca.mk' D sc_tied_to (fun vs H Q E h => ?_) (fun q_ f_ cdv A outer s H vs Q E hr h => ?_)
  · obtain ⟨F, _, _, _, rfl, _⟩ := h
    rfl
  · obtain ⟨F, v_tree, x_tree, x_place, rfl, P0, f_tree, hk⟩ := h
    have nd := sc_tied_to.nd
    have O := P0.start
    have tk : ∀ (cls : Value) (d : Option Addr) (σ : L2.St) (H : Hp), E cls d H → E cls d H := fun _ _ _ _ h => h
    refine ⟨_, pss_cons (ps_expr (pe_call G1 (hr.mono (by decide)) rfl M1 K1 B1 .nil (passes_call (takes_of rfl rfl rfl rfl) fun _ _ _ _ h => h) (pa_cons (pv 0) (pa_cons (pv 1) pa_nil))))
      (pss_one (ps_ret (pe_ix ix_list (pe_call G2 (hr.mono (by decide)) rfl M2 K2 B2 .nil (passes_call (takes_of rfl rfl rfl rfl) fun _ _ _ _ h => h)
        (pa_cons (pe_callB call_lenT (by rfl) nb.b_len PySem.boot_len (pa_cons (pe_ix ix_tup (pv 0) pe_int (fun _ _ => rfl)) pa_nil)) (pa_cons (pe_ix ix_tup (pv 0) pe_int (fun _ _ => rfl)) pa_nil))) (pv 1) (fun _ _ => rfl)))), ?_⟩
    refine ⟨_, rfl, _, rfl, _, _, _, _, rfl, O.pre0, f_tree, wp_call hk (fun r1 er1 hk F1 H1 g1 => ?_) (fun n hn C H1 hC kp => hn C H1 hC (O.kp0 kp))⟩
    have O1 := O.call0 g1
    have f_tree := f_tree.mono g1.f
    obtain ⟨p2, v1, v2, e2, h2, r1', r2'⟩ := R.t2_ f_tree
    cases e2
    obtain ⟨p3, w3, e3, h3, hl3⟩ := R.lst_ r1'
    cases e3
    refine ⟨_, rfl, _, _, _, _, rfl, rfl, SqTF O1.s h2, rfl, _, _, _, rfl, .inl (O1.s _ _ h3), hl3.len, _, rfl, _, _, _, _, rfl, rfl, SqTF O1.s h2, rfl, _, _, _, _, rfl, O1.pre0, r2', wp_call hk (fun r er hk F4 H4 p4 ps g4 L el => ?_) (fun n hn C H1 hC kp => hn C H1 hC (O1.kp0 kp))⟩
    obtain ⟨y, ey, hk⟩ := wp_opt hk
    subst el
    unfold atI at ey
    cases ei : ixN (ps.map (·.2)).length x_place with
    | none => rw [ei] at ey; cases ey
    | some j =>
      rw [ei] at ey
      obtain ⟨c, hc, rfl⟩ := tp_at ey
      refine ⟨_, rfl, _, _, _, _, rfl, rfl, SqL.of L.ph, tp_ix ei hc, ?_⟩
      have hm := List.mem_of_getElem? hc
      have hz : H c.1 = none := O1.was (L.qn c hm)
      have O4 := O1.call0 g4
      exact hk _ _ O4.g _ _ hz (L.qf c hm) (L.qh c hm) RL.of_ints

abbrev s_way_between : Stmt := top 12
theorem sc_way_between : FnScope ["tree", "one", "other", "near", "lengths", "behind", "pile", "found", "length", "here", "place"] ["tree", "one", "other"] (defScope s_way_between) := ⟨rfl, rfl, rfl, by decide +kernel, rfl, by decide +kernel, by decide +kernel⟩
def m_way_between (x_tree : ((List Int) × (List (T3 Int Int Int)))) (x_one : Int) (x_other : Int) : M (((List Int) × Int)) :=
m_need_place x_tree x_one >>= fun r1 =>
m_need_place x_tree x_other >>= fun r7 =>
m_tied_places (x_tree.1.length : Int) x_tree.2 >>= fun r25 =>
m_lengths_of x_tree >>= fun r44 =>
whL (r := Unit) (fun (st76 : (List Int) × (List (Int × (Option Int)))) =>
if st76.1 ≠ ([] : List Int) then (
popL st76.1 >>= fun (y95, _) =>
opt (atI r25 y95) >>= fun y107 =>
loopN (fun (y117 : Int) (st128 : (List (Int × (Option Int))) × (List Int)) =>
if dHas st128.1 y117 = true then (
.ok (st128.1, st128.2))
else (
putD st128.1 y117 (some y95) >>= fun z143 =>
appL st128.2 y117 >>= fun _ =>
.ok (z143, (st128.2 ++ [y117])))) y107 (st76.2, st76.1.dropLast) >>= fun st153 =>
.ok (.go (st153.2, st153.1)))
else (
.ok (.stop (st76.1, st76.2)))) 1000000 ([x_other], (mergeD [(x_other, (none : (Option Int)))])) >>= fun f175 => match f175 with
| .rt _ => bad
| .nx st165 =>
whL (r := Unit) (fun (st192 : Int × (List Int)) =>
opt (atI st192.2 (-(1 : Int))) >>= fun y198 =>
if y198 ≠ x_other then (
opt (atI st192.2 (-(1 : Int))) >>= fun y204 =>
opt (atI st192.2 (-(1 : Int))) >>= fun y209 =>
opt (dGet st165.2 y209) >>= fun y214 =>
opt y214 >>= fun y219 =>
opt (dGet r44 (y204, y219)) >>= fun y234 =>
opt (atI st192.2 (-(1 : Int))) >>= fun y246 =>
opt (dGet st165.2 y246) >>= fun y251 =>
opt y251 >>= fun y256 =>
appL st192.2 y256 >>= fun _ =>
.ok (.go ((st192.1 + y234), (st192.2 ++ [y256]))))
else (
.ok (.stop (st192.1, st192.2)))) 1000000 ((0 : Int), [x_one]) >>= fun f272 => match f272 with
| .rt _ => bad
| .nx st266 =>
.ok (st266.2, st266.1)
def sp_way_between (mg : Str → Option Value) : Sp := fun vs H Q E => ∃ (F : Hp) (v_tree : V) (x_tree : ((List Int) × (List (T3 Int Int Int)))) (x_one : Int) (x_other : Int), vs = [v_tree, V.int x_one, V.int x_other] ∧ Pre F [] H ∧ R (a := ((List Int) × (List (T3 Int Int Int)))) F v_tree x_tree ∧
  wp (m_way_between x_tree x_one x_other) (fun r => ∀ (F' H' : Hp), Gr [] F H F' H' → ∀ (p : Addr) (q0 : Addr) (v0 : (List V)), H q0 = none → F' q0 = none → H' q0 = some (.lst v0) → RL (a := Int) F' v0 r.1 → F' p = some (.tup [.ref q0, V.int r.2]) → Q (.ref p) H')
  (fun n => ∀ (C : Addr) (H' : Hp), mg (Str.ofString n) = some (.ref C) → Kp [] H H' → E (.ref C) none H')
set_option maxHeartbeats 2000000 in
theorem ok_way_between (nb : Nb mg) (C_lengths_of : Ca P w K mg base "lengths_of" 1 ["tree"] (sp_lengths_of mg)) (C_need_place : Ca P w K mg base "need_place" 1 ["tree", "place"] (sp_need_place mg)) (C_tied_places : Ca P w K mg base "tied_places" 1 ["many", "ties"] (sp_tied_places mg)) (D : Df K mg "way_between" "way_between" s_way_between ["tree", "one", "other"]) : Ca P w K mg base "way_between" 2 ["tree", "one", "other"] (sp_way_between mg) := by
  obtain ⟨fa_lengths_of, fd_lengths_of, G_lengths_of, M_lengths_of, K_lengths_of, B_lengths_of⟩ := C_lengths_of.ex
  obtain ⟨fa_need_place, fd_need_place, G_need_place, M_need_place, K_need_place, B_need_place⟩ := C_need_place.ex
  obtain ⟨fa_tied_places, fd_tied_places, G_tied_places, M_tied_places, K_tied_places, B_tied_places⟩ := C_tied_places.ex
  refine Ca.mk' D sc_way_between (fun vs H Q E h => ?_) (fun q_ f_ cdv A outer s H vs Q E hr h => ?_)
  · obtain ⟨F, _, _, _, _, rfl, _⟩ := h
    rfl
  · obtain ⟨F, v_tree, x_tree, x_one, x_other, rfl, P0, f_tree, hk⟩ := h
    have nd := sc_way_between.nd
    have hu64 := hr.units
    have hu128 := hu128_of hr
    have O := P0.start
    refine ⟨_, (pss_cons (ps_expr (pe_call G_need_place (hr.mono (by decide)) rfl M_need_place K_need_place B_need_place .nil (passes_call (takes_of rfl rfl rfl rfl) fun _ _ _ _ h => h) (pa_cons (pv 0) (pa_cons (pv 1) pa_nil))))
  (pss_cons (ps_expr (pe_call G_need_place (hr.mono (by decide)) rfl M_need_place K_need_place B_need_place .nil (passes_call (takes_of rfl rfl rfl rfl) fun _ _ _ _ h => h) (pa_cons (pv 0) (pa_cons (pv 2) pa_nil))))
  (pss_cons (ps_set (i := 3) nd rfl (Or.inl rfl) (pe_call G_tied_places (hr.mono (by decide)) rfl M_tied_places K_tied_places B_tied_places .nil (passes_call (takes_of rfl rfl rfl rfl) fun _ _ _ _ h => h) (pa_cons (pe_callB call_lenT (by rfl) nb.b_len PySem.boot_len (pa_cons (pe_ix (ixTupK (K := K) rfl) (pv 0) pe_int (fun _ _ => rfl)) pa_nil)) (pa_cons (pe_ix (ixTupK (K := K) rfl) (pv 0) pe_int (fun _ _ => rfl)) pa_nil))))
  (pss_cons (ps_set (i := 4) nd rfl (Or.inl rfl) (pe_call G_lengths_of (hr.mono (by decide)) rfl M_lengths_of K_lengths_of B_lengths_of .nil (passes_call (takes_of rfl rfl rfl rfl) fun _ _ _ _ h => h) (pa_cons (pv 0) pa_nil)))
  (pss_cons (ps_set (i := 5) nd rfl (Or.inl rfl) (pe_disp (pps_cons (pv 2) pe_non pps_nil) rfl rfl (fun h => nomatch h) (by show 1 ≤ 15; decide)))
  (pss_cons (ps_set (i := 6) nd rfl (Or.inl rfl) (pe_lst (pa_cons (pv 2) pa_nil)))
  (pss_cons (ps_while (passes_of rfl) (pt_cmpR (op_neT (List Int) hu64) (pv 6) (pe_lst pa_nil) (nomark _)) (pss_cons (ps_set (i := 9) nd rfl (Or.inl rfl) (bm0K (K := K) rfl (pe_bm0 PySem.F.plainAttrs_list PySem.F.slot_list_pop PySem.F.type_list_pop mt_pop (pv 6))))
  (pss_one (ps_for (passes_of rfl) rfl (piListK (K := K) rfl (pe_ix (ixListK (K := K) rfl) (pv 3) (pv 9) (fun _ _ => rfl))) (pg_name (i := 10) nd rfl (Or.inl rfl)) (pss_one (ps_if (pt_cmp (pc_dnotin (u1_of hu64) (pv 10) (pv 5))) (pss_cons (ps_dput (u1_of hu64) (pv 5) (pv 10) (pv 9) rfl)
  (pss_one (ps_expr (bmK (K := K) rfl (pe_bm PySem.F.plainAttrs_list PySem.F.slot_list_append PySem.F.type_list_append mt_append (pv 6) (pa_cons (pv 10) pa_nil)))))) pss_nil))))))
  (pss_cons (ps_set (i := 7) nd rfl (Or.inl rfl) (pe_lst (pa_cons (pv 1) pa_nil)))
  (pss_cons (ps_set (i := 8) nd rfl (Or.inl rfl) pe_int)
  (pss_cons (ps_while (passes_of rfl) (pt_cmpR (op_neT Int hu64) (pe_ix (ixListK (K := K) rfl) (pv 7) (pe_un un_neg pe_int) (fun _ _ => rfl)) (pv 2) (nomark _)) (pss_cons (ps_aug (i := 8) nd rfl (Or.inl rfl) (pe_dget (u1_of hu64) (pv 4) (pe_tup (pa_cons (pe_ix (ixListK (K := K) rfl) (pv 7) (pe_un un_neg pe_int) (fun _ _ => rfl)) (pa_cons (pe_dget (u1_of hu64) (pv 5) (pe_ix (ixListK (K := K) rfl) (pv 7) (pe_un un_neg pe_int) (fun _ _ => rfl)) (fun _ _ => rfl)) pa_nil))) (fun _ _ => rfl)) ip_add)
  (pss_one (ps_expr (bmK (K := K) rfl (pe_bm PySem.F.plainAttrs_list PySem.F.slot_list_append PySem.F.type_list_append mt_append (pv 7) (pa_cons (pe_dget (u1_of hu64) (pv 5) (pe_ix (ixListK (K := K) rfl) (pv 7) (pe_un un_neg pe_int) (fun _ _ => rfl)) (fun _ _ => rfl)) pa_nil)))))))
  (pss_one (ps_ret (pe_tup (pa_cons (pv 7) (pa_cons (pv 8) pa_nil))))))))))))))), ?_⟩
    refine ⟨_, rfl, _, rfl, _, _, _, _, rfl, O.pre0, f_tree, wp_call hk (fun r1 er2 hk F3 H4 g5 => ?_) (fun n hn C H1 hC kp => hn C H1 hC (O.kp0 kp))⟩
    have O6 := O.call0 g5
    have S_ := g5.f
    have f_tree := f_tree.mono S_
    refine ⟨_, rfl, _, rfl, _, _, _, _, rfl, O6.pre0, f_tree, wp_call hk (fun r7 er8 hk F9 H10 g11 => ?_) (fun n hn C H1 hC kp => hn C H1 hC (O6.kp0 kp))⟩
    have O12 := O6.call0 g11
    have S_ := g11.f
    have f_tree := f_tree.mono S_
    obtain ⟨p13, v16, v17, e14, h15, r18, r19⟩ := R.t2_ f_tree
    cases e14
    obtain ⟨p20, w21, e22, h23, hl24⟩ := R.lst_ r18
    cases e22
    refine ⟨_, rfl, _, _, _, _, rfl, rfl, (SqTF O12.s h15), rfl, _, _, _, rfl, (.inl (O12.s _ _ h23)), hl24.len, _, rfl, _, _, _, _, rfl, rfl, (SqTF O12.s h15), rfl, _, _, _, _, rfl, O12.pre0, r19, wp_call hk (fun r25 er26 hk F27 H28 g29 p30 w31 hn32 hf33 h34 hl35 => ?_) (fun n hn C H1 hC kp => hn C H1 hC (O12.kp0 kp))⟩
    have O36 := O12.call0 g29
    have S_ := g29.f
    have f_tree := f_tree.mono S_
    have h15 := S_ _ _ h15
    have r18 := r18.mono S_
    have r19 := r19.mono S_
    have h23 := S_ _ _ h23
    have hl24 := hl24.mono S_
    have O37 := O12.got O36 rfl hn32 hf33 h34
    have z38 := O12.was hn32
    obtain ⟨F39, O40, S41, h42⟩ := O37.frzE 0 rfl z38
    have f_tree := f_tree.mono S41
    have h15 := S41 _ _ h15
    have r18 := r18.mono S41
    have r19 := r19.mono S41
    have h23 := S41 _ _ h23
    have hl24 := hl24.mono S41
    have hl35 := hl35.mono S41
    have h43 := R.lst (a := (List Int)) h42 hl35
    refine ⟨_, rfl, _, _, _, rfl, O40.pre0, f_tree, wp_call hk (fun r44 er45 hk F46 H47 g48 v49 r50 => ?_) (fun n hn C H1 hC kp => hn C H1 hC (O40.kp0 kp))⟩
    have O51 := O40.call0 g48
    have S_ := g48.f
    have f_tree := f_tree.mono S_
    have h15 := S_ _ _ h15
    have r18 := r18.mono S_
    have r19 := r19.mono S_
    have h23 := S_ _ _ h23
    have hl24 := hl24.mono S_
    have h43 := h43.mono S_
    refine fun p53 hp54 => ?_
    have hl56 : RD (κ := Int) (β := (Option Int)) F46 [] ([] : (List (Int × (Option Int)))) := RD.nil
    have z57 := O51.was hp54
    have O55 := O51.new (o := .dK []) hp54
    refine ⟨_, rfl, (O55.at 0 rfl), [(DK.kk x_other, V.non)], rfl, (by show 1 ≤ 15; decide), ?_⟩
    have O58 := O55.set 0 (.dK (mergeK [] [(DK.kk x_other, V.non)])) rfl
    have hl59 : RD (κ := Int) (β := (Option Int)) F46 (mergeK [] [(DK.kk x_other, V.non)]) (mergeD [(x_other, (none : (Option Int)))]) := merge_rd (.cons (k := x_other) R.non .nil) .nil
    refine ⟨_, rfl, (by show 1 ≤ sizeLine; decide), fun p61 hp62 => ?_⟩
    have hl64 : RL (a := Int) F46 ([V.int x_other]) ([x_other]) := RL.cons R.int RL.nil
    have z65 := O58.was hp62
    have O63 := O58.new (o := .lst ([V.int x_other])) hp62
    obtain ⟨L66, X67, hL68, hLs69, hLd70⟩ := whL_L hk
    refine while_P (fun n σ H_ => ∃ (F_ : Hp) (st : (List Int) × (List (Int × (Option Int)))) (w_0 : (List V)) (w_1 : (List (Key × V))) (t_0 : Option V) (t_1 : Option V), σ = [some (V.ref p13), some (V.int x_one), some (V.int x_other), some (V.ref p30), some v49, some (V.ref p53), some (V.ref p61), none, none, t_0, t_1] ∧ Same F46 F_ ∧ Ow (⟨[], F, H⟩ : Ent) F_ [(p61, .lst w_0), (p53, .dK w_1)] H_ ∧ RL (a := Int) F_ w_0 st.1 ∧ RD (κ := Int) (β := (Option Int)) F_ w_1 st.2 ∧ L66 n st) (fun σ H_ => ∃ (F_ : Hp) (st : (List Int) × (List (Int × (Option Int)))) (w_0 : (List V)) (w_1 : (List (Key × V))) (t_0 : Option V) (t_1 : Option V), σ = [some (V.ref p13), some (V.int x_one), some (V.int x_other), some (V.ref p30), some v49, some (V.ref p53), some (V.ref p61), none, none, t_0, t_1] ∧ Same F46 F_ ∧ Ow (⟨[], F, H⟩ : Ent) F_ [(p61, .lst w_0), (p53, .dK w_1)] H_ ∧ RL (a := Int) F_ w_0 st.1 ∧ RD (κ := Int) (β := (Option Int)) F_ w_1 st.2 ∧ X67 st) 1000000 ⟨F46, ([x_other], (mergeD [(x_other, (none : (Option Int)))])), [V.int x_other], (mergeK [] [(DK.kk x_other, V.non)]), none, none, rfl, Same.refl _, O63, hl64, hl59, hL68⟩ ?_ ?_
    rotate_left
    · rintro hex71 m72 sg73 H74 ⟨F84, st76, w78, w79, t82, t83, rfl, S75, O85, hl80, hl81, hL77⟩
      have f_tree := f_tree.mono S75
      have h15 := S75 _ _ h15
      have r18 := r18.mono S75
      have r19 := r19.mono S75
      have h23 := S75 _ _ h23
      have hl24 := hl24.mono S75
      have h43 := h43.mono S75
      have r50 := r50.mono S75
      have hk := hLs69 _ _ hL77
      refine ⟨_, rfl, (by show 0 ≤ sizeLine; decide), fun p86 hp87 => ?_⟩
      have hl93 : RL (a := Int) F84 ([]) ([] : List Int) := RL.nil
      obtain ⟨F88, O89, S90, h91⟩ := O85.putE hp87 (.lst ([]))
      have f_tree := f_tree.mono S90
      have h15 := S90 _ _ h15
      have r18 := r18.mono S90
      have r19 := r19.mono S90
      have h23 := S90 _ _ h23
      have hl24 := hl24.mono S90
      have h43 := h43.mono S90
      have r50 := r50.mono S90
      have hl80 := hl80.mono S90
      have hl81 := hl81.mono S90
      have S75 := S75.trans S90
      have hl93 := hl93.mono S90
      have h92 := R.lst (a := Int) h91 hl93
      refine ⟨_, _, (R.lst (a := Int) (O89.at 0 rfl) (hl80.mono O89.s)), (R.mono h92 O89.s), _, rfl, ?_⟩
      refine iteD (fun q94 => ?_) (fun q94 => ?_)
      · have hk := wp_if hk q94
        obtain ⟨y95, e96, hk⟩ := wp_popL hk
        obtain ⟨w97, e98, r99⟩ := RL.last hl80 e96
        refine ⟨_, (fun _ _ h_ => h_), _, rfl, (.inl ⟨rfl, _, SqL.of (O89.at 0 rfl)⟩), _, _, _, rfl, rfl, (O89.at 0 rfl), e98, ?_⟩
        obtain rfl := R.int_ r99
        have O100 := O89.set 0 (.lst (w78.dropLast)) rfl
        have hl101 : RL (a := Int) F88 (w78.dropLast) st76.1.dropLast := RL.dropLast hl80
        obtain ⟨p102, w103, e104, h105, hl106⟩ := R.lst_ h43
        cases e104
        obtain ⟨y107, e108, hk⟩ := wp_opt hk
        obtain ⟨w109, e110, r111⟩ := hl106.atI e108
        obtain ⟨p112, w113, e114, h115, hl116⟩ := R.lst_ r111
        cases e114
        obtain ⟨L118, hL119, hLs120, hLd121⟩ := loopN_L hk
        refine ⟨_, rfl, _, rfl, _, _, _, _, rfl, rfl, (SqLF O100.s h105), e110, _, rfl, ⟨_, (SqLF O100.s h115)⟩, ?_⟩
        refine for_list (K := K) (xs := w113) (fun i σ H => ∃ (F_ : Hp) (st : (List (Int × (Option Int))) × (List Int)) (w_0 : (List (Key × V))) (w_1 : (List V)) (t_0 : Option V), σ = [some (V.ref p13), some (V.int x_one), some (V.int x_other), some (V.ref p30), some v49, some (V.ref p53), some (V.ref p61), none, none, some (V.int y95), t_0] ∧ Same F88 F_ ∧ Ow _ F_ [(p61, .lst w_1), (p53, .dK w_0)] H ∧ RD (κ := Int) (β := (Option Int)) F_ w_0 st.1 ∧ RL (a := Int) F_ w_1 st.2 ∧ L118 (List.drop i y107) st) ⟨F88, (st76.2, st76.1.dropLast), w79, (w78.dropLast), t83, rfl, Same.refl _, O100, hl81, hl101, hL119⟩ (fun i_ σ_ H_ _ hp_ => ?_) ?_ ?_
        · obtain ⟨_, _, _, _, _, _, hS_, hO_, _⟩ := hp_
          exact SqLF hO_.s (hS_ _ _ h115)
        · rintro i122 x123 sg124 H125 hi126 ⟨F134, st128, w129, w130, t133, rfl, S127, O135, hl131, hl132, hL119⟩
          have f_tree := f_tree.mono S127
          have h15 := S127 _ _ h15
          have r18 := r18.mono S127
          have r19 := r19.mono S127
          have h23 := S127 _ _ h23
          have hl24 := hl24.mono S127
          have h43 := h43.mono S127
          have r50 := r50.mono S127
          have S75 := S75.trans S127
          have h92 := h92.mono S127
          have h105 := S127 _ _ h105
          have hl106 := hl106.mono S127
          have r111 := r111.mono S127
          have h115 := S127 _ _ h115
          have hl116 := hl116.mono S127
          obtain ⟨y117, e136, r137⟩ := RL.got hl116 hi126
          rw [drop_at e136] at hL119
          have hk := hLs120 _ _ _ hL119
          obtain rfl := R.int_ r137
          obtain ⟨o138, hg139, ho140⟩ := din_I (O135.at 1 rfl) hl131
          refine ⟨_, rfl, _, rfl, _, _, rfl, hg139, ?_⟩
          rw [ho140]
          refine ⟨_, rfl, ?_⟩
          refine iteBN (fun q141 => ?_) (fun q141 => ?_)
          · have hk := wp_if hk q141
            exact ⟨F134, (st128.1, st128.2), w129, w130, some (V.int y117), rfl, S127, O135, hl131, hl132, hk⟩
          · have hk := wp_el hk q141
            obtain ⟨c142, hk⟩ := wp_putD hk
            refine ⟨_, rfl, _, rfl, _, rfl, _, _, rfl, (dput_I (v := (V.int y95)) (O135.at 1 rfl) (by rw [RD.len hl131]; exact c142)), ?_⟩
            have O144 := O135.set 1 (.dK (putK w129 (DK.kk y117) (V.int y95))) rfl
            have hl145 : RD (κ := Int) (β := (Option Int)) F134 (putK w129 (DK.kk y117) (V.int y95)) (dPut st128.1 y117 (some y95)) := RD.put hl131 y117 (R.jst R.int)
            obtain ⟨c146, hk⟩ := wp_appL hk
            refine ⟨_, rfl, (.inl ⟨rfl, _, SqL.of (O144.at 0 rfl)⟩), _, rfl, _, _, _, rfl, rfl, (O144.at 0 rfl), (by rw [hl132.len]; exact c146), ?_⟩
            have O148 := O144.set 0 (.lst (w130 ++ [V.int y117])) rfl
            have hl149 : RL (a := Int) F134 (w130 ++ [V.int y117]) (st128.2 ++ [y117]) := RL.snoc hl132 R.int
            exact ⟨F134, ((dPut st128.1 y117 (some y95)), (st128.2 ++ [y117])), (putK w129 (DK.kk y117) (V.int y95)), (w130 ++ [V.int y117]), some (V.int y117), rfl, S127, O148, hl145, hl149, hk⟩
        rintro sg150 H151 ⟨F160, st153, w155, w156, t159, rfl, S152, O161, hl157, hl158, hL154⟩
        rw [drop_end hl116.len] at hL154
        have hk := hLd121 _ hL154
        have f_tree := f_tree.mono S152
        have h15 := S152 _ _ h15
        have r18 := r18.mono S152
        have r19 := r19.mono S152
        have h23 := S152 _ _ h23
        have hl24 := hl24.mono S152
        have h43 := h43.mono S152
        have r50 := r50.mono S152
        have S75 := S75.trans S152
        have h92 := h92.mono S152
        have h105 := S152 _ _ h105
        have hl106 := hl106.mono S152
        have r111 := r111.mono S152
        have h115 := S152 _ _ h115
        have hl116 := hl116.mono S152
        obtain ⟨m_, hm_, hk⟩ := hk
        exact ⟨m_, hm_, F160, (st153.2, st153.1), w156, w155, some (V.int y95), t159, rfl, S75, O161, hl158, hl157, hk⟩
      · have hk := wp_el hk q94
        exact hex71 _ _ ⟨F88, (st76.1, st76.2), w78, w79, t82, t83, rfl, S75, O89, hl80, hl81, hk⟩
    rintro sg162 H163 ⟨F173, st165, w167, w168, t171, t172, rfl, S164, O174, hl169, hl170, hL166⟩
    have hk := hLd70 _ hL166
    have f_tree := f_tree.mono S164
    have h15 := S164 _ _ h15
    have r18 := r18.mono S164
    have r19 := r19.mono S164
    have h23 := S164 _ _ h23
    have hl24 := hl24.mono S164
    have h43 := h43.mono S164
    have r50 := r50.mono S164
    refine ⟨_, rfl, (by show 1 ≤ sizeLine; decide), fun p177 hp178 => ?_⟩
    have hl180 : RL (a := Int) F173 ([V.int x_one]) ([x_one]) := RL.cons R.int RL.nil
    have z181 := O174.was hp178
    have O179 := O174.new (o := .lst ([V.int x_one])) hp178
    obtain ⟨L182, X183, hL184, hLs185, hLd186⟩ := whL_L hk
    refine while_P (fun n σ H_ => ∃ (F_ : Hp) (st : Int × (List Int)) (w_0 : (List V)), σ = [some (V.ref p13), some (V.int x_one), some (V.int x_other), some (V.ref p30), some v49, some (V.ref p53), some (V.ref p61), some (V.ref p177), some (V.int st.1), t171, t172] ∧ Same F173 F_ ∧ Ow (⟨[], F, H⟩ : Ent) F_ [(p177, .lst w_0), (p61, .lst w167), (p53, .dK w168)] H_ ∧ RL (a := Int) F_ w_0 st.2 ∧ L182 n st) (fun σ H_ => ∃ (F_ : Hp) (st : Int × (List Int)) (w_0 : (List V)), σ = [some (V.ref p13), some (V.int x_one), some (V.int x_other), some (V.ref p30), some v49, some (V.ref p53), some (V.ref p61), some (V.ref p177), some (V.int st.1), t171, t172] ∧ Same F173 F_ ∧ Ow (⟨[], F, H⟩ : Ent) F_ [(p177, .lst w_0), (p61, .lst w167), (p53, .dK w168)] H_ ∧ RL (a := Int) F_ w_0 st.2 ∧ X183 st) 1000000 ⟨F173, ((0 : Int), [x_one]), [V.int x_one], rfl, Same.refl _, O179, hl180, hL184⟩ ?_ ?_
    rotate_left
    · rintro hex187 m188 sg189 H190 ⟨F196, st192, w194, rfl, S191, O197, hl195, hL193⟩
      have f_tree := f_tree.mono S191
      have h15 := S191 _ _ h15
      have r18 := r18.mono S191
      have r19 := r19.mono S191
      have h23 := S191 _ _ h23
      have hl24 := hl24.mono S191
      have h43 := h43.mono S191
      have r50 := r50.mono S191
      have hl169 := hl169.mono S191
      have hl170 := hl170.mono S191
      have hk := hLs185 _ _ hL193
      obtain ⟨y198, e199, hk⟩ := wp_opt hk
      obtain ⟨w200, e201, r202⟩ := hl195.atI e199
      obtain rfl := R.int_ r202
      refine ⟨_, rfl, _, rfl, _, _, _, _, rfl, rfl, (SqL.of (O197.at 0 rfl)), e201, _, rfl, _, _, R.int, R.int, _, rfl, ?_⟩
      refine iteD (fun q203 => ?_) (fun q203 => ?_)
      · have hk := wp_if hk q203
        obtain ⟨y204, e205, hk⟩ := wp_opt hk
        obtain ⟨w206, e207, r208⟩ := hl195.atI e205
        obtain rfl := R.int_ r208
        obtain ⟨y209, e210, hk⟩ := wp_opt hk
        obtain ⟨w211, e212, r213⟩ := hl195.atI e210
        obtain rfl := R.int_ r213
        obtain ⟨y214, e215, hk⟩ := wp_opt hk
        obtain ⟨w216, e217, r218⟩ := RD.some hl170 (k := y209) e215
        obtain ⟨y219, e220, hk⟩ := wp_opt hk
        have r221 : R (a := Int) F196 w216 y219 := R.jst_ (by rw [← e220]; exact r218)
        obtain rfl := R.int_ r221
        refine ⟨_, (fun _ _ h_ => h_), _, rfl, _, rfl, _, rfl, _, rfl, _, _, _, _, rfl, rfl, (SqL.of (O197.at 0 rfl)), e207, _, rfl, _, rfl, _, rfl, _, _, _, _, rfl, rfl, (SqL.of (O197.at 0 rfl)), e212, _, _, rfl, (dget_I (O197.at 2 rfl) e217), (by show 2 ≤ sizeLine; decide), fun p222 hp223 => ?_⟩
        obtain ⟨F224, O225, S226, h227⟩ := O197.putE hp223 (.tup [V.int y204, V.int y219])
        have f_tree := f_tree.mono S226
        have h15 := S226 _ _ h15
        have r18 := r18.mono S226
        have r19 := r19.mono S226
        have h23 := S226 _ _ h23
        have hl24 := hl24.mono S226
        have h43 := h43.mono S226
        have r50 := r50.mono S226
        have hl169 := hl169.mono S226
        have hl170 := hl170.mono S226
        have hl195 := hl195.mono S226
        have S191 := S191.trans S226
        have r218 := r218.mono S226
        have h228 : R (a := (Int × Int)) F224 (.ref p222) (y204, y219) := R.t2 h227 R.int R.int
        obtain ⟨p229, w230, e231, h232, hl233⟩ := r50
        cases e231
        have h232 : F224 _ = some (.dT w230) := h232
        have r50 := RDv.mk (κ := (Int × Int)) (β := Int) h232 hl233
        obtain ⟨p239, v242, v243, e240, h241, r244, r245⟩ := R.t2_ h228
        cases e240
        obtain rfl := R.int_ r244
        obtain rfl := R.int_ r245
        obtain ⟨y234, e235, hk⟩ := wp_opt hk
        obtain ⟨w236, e237, r238⟩ := RD.some hl233 (k := ((y204, y219).1, (y204, y219).2)) e235
        obtain rfl := R.int_ r238
        obtain ⟨y246, e247, hk⟩ := wp_opt hk
        obtain ⟨w248, e249, r250⟩ := hl195.atI e247
        obtain rfl := R.int_ r250
        obtain ⟨y251, e252, hk⟩ := wp_opt hk
        obtain ⟨w253, e254, r255⟩ := RD.some hl170 (k := y246) e252
        obtain ⟨y256, e257, hk⟩ := wp_opt hk
        have r258 : R (a := Int) F224 w253 y256 := R.jst_ (by rw [← e257]; exact r255)
        obtain rfl := R.int_ r258
        obtain ⟨c259, hk⟩ := wp_appL hk
        refine ⟨_, _, rfl, (dget_T (O225.s _ _ h232) (O225.s _ _ h241) e237), _, _, rfl, rfl, _, rfl, (.inl ⟨rfl, _, SqL.of (O225.at 0 rfl)⟩), _, rfl, _, rfl, _, rfl, _, _, _, _, rfl, rfl, (SqL.of (O225.at 0 rfl)), e249, _, _, rfl, (dget_I (O225.at 2 rfl) e254), _, _, _, rfl, rfl, (O225.at 0 rfl), (by rw [hl195.len]; exact c259), ?_⟩
        have O261 := O225.set 0 (.lst (w194 ++ [V.int y256])) rfl
        have hl262 : RL (a := Int) F224 (w194 ++ [V.int y256]) (st192.2 ++ [y256]) := RL.snoc hl195 R.int
        obtain ⟨m_, hm_, hk⟩ := hk
        exact ⟨m_, hm_, F224, ((st192.1 + y234), (st192.2 ++ [y256])), (w194 ++ [V.int y256]), rfl, S191, O261, hl262, hk⟩
      · have hk := wp_el hk q203
        exact hex187 _ _ ⟨F196, (st192.1, st192.2), w194, rfl, S191, O197, hl195, hk⟩
    rintro sg263 H264 ⟨F270, st266, w268, rfl, S265, O271, hl269, hL267⟩
    have hk := hLd186 _ hL267
    have f_tree := f_tree.mono S265
    have h15 := S265 _ _ h15
    have r18 := r18.mono S265
    have r19 := r19.mono S265
    have h23 := S265 _ _ h23
    have hl24 := hl24.mono S265
    have h43 := h43.mono S265
    have r50 := r50.mono S265
    have hl169 := hl169.mono S265
    have hl170 := hl170.mono S265
    refine ⟨_, rfl, _, rfl, (by show 2 ≤ sizeLine; decide), fun p274 hp275 => ?_⟩
    obtain ⟨F276, O277, S278, h279⟩ := O271.putE hp275 (.tup [V.ref p177, V.int st266.1])
    have f_tree := f_tree.mono S278
    have h15 := S278 _ _ h15
    have r18 := r18.mono S278
    have r19 := r19.mono S278
    have h23 := S278 _ _ h23
    have hl24 := hl24.mono S278
    have h43 := h43.mono S278
    have r50 := r50.mono S278
    have hl169 := hl169.mono S278
    have hl170 := hl170.mono S278
    have hl269 := hl269.mono S278
    exact hk _ _  O277.g  _ _ _ z181 (O277.cf _ (List.mem_of_getElem? (i := 0) rfl)) (O277.at 0 rfl) hl269 h279
abbrev s_turned_tree : Stmt := top 13
theorem sc_turned_tree : FnScope ["tree", "order", "anew", "ties", "a", "b", "length", "place", "k"] ["tree", "order"] (defScope s_turned_tree) := ⟨rfl, rfl, rfl, by decide +kernel, rfl, by decide +kernel, by decide +kernel⟩
def m_turned_tree (x_tree : ((List Int) × (List (T3 Int Int Int)))) (x_order : (List Int)) : M (((List Int) × (List (T3 Int Int Int)))) :=
chk (okR (x_tree.1.length : Int)) >>= fun _ =>
if (sortT x_order) ≠ (rangeL 0 (x_tree.1.length : Int)) then (
raise "NoOrder")
else (
compS (fun (y41 : (Int × Int)) (st58 : Unit) =>
.ok (some (y41.2, y41.1), ())) (enumL x_order) () >>= fun q102 =>
compS (fun (y131 : (T3 Int Int Int)) (st148 : Unit) =>
opt (dGet (mergeD q102.1) y131.a) >>= fun y168 =>
opt (dGet (mergeD q102.1) y131.b) >>= fun y173 =>
opt (dGet (mergeD q102.1) y131.a) >>= fun y178 =>
opt (dGet (mergeD q102.1) y131.b) >>= fun y183 =>
.ok (some (T3.mk (if y173 < y168 then y173 else y168) (if y183 > y178 then y183 else y178) y131.c), ())) x_tree.2 () >>= fun q206 =>
compS (fun (y220 : Int) (st237 : Unit) =>
opt (atI x_tree.1 y220) >>= fun y248 =>
.ok (some y248, ())) x_order () >>= fun q264 =>
.ok (q264.1, (sortT q206.1)))
def sp_turned_tree (mg : Str → Option Value) : Sp := fun vs H Q E => ∃ (F : Hp) (v_tree : V) (x_tree : ((List Int) × (List (T3 Int Int Int)))) (v_order : V) (x_order : (List Int)), vs = [v_tree, v_order] ∧ Pre F [] H ∧ R (a := ((List Int) × (List (T3 Int Int Int)))) F v_tree x_tree ∧ R (a := (List Int)) F v_order x_order ∧
  wp (m_turned_tree x_tree x_order) (fun r => ∀ (F' H' : Hp), Gr [] F H F' H' → ∀ (p : Addr) (q0 : Addr) (v0 : (List V)) (q1 : Addr) (v1 : (List V)), H q0 = none → F' q0 = none → H' q0 = some (.lst v0) → RL (a := Int) F' v0 r.1 → H q1 = none → F' q1 = none → H' q1 = some (.lst v1) → RL (a := (T3 Int Int Int)) F' v1 r.2 → q0 ≠ q1 → F' p = some (.tup [.ref q0, .ref q1]) → Q (.ref p) H')
  (fun n => ∀ (C : Addr) (H' : Hp), mg (Str.ofString n) = some (.ref C) → Kp [] H H' → E (.ref C) none H')
set_option maxHeartbeats 2000000 in
theorem ok_turned_tree (nb : Nb mg) (E_NoOrder : ∃ C, Xc K mg "NoOrder" C) (D : Df K mg "turned_tree" "turned_tree" s_turned_tree ["tree", "order"]) : Ca P w K mg base "turned_tree" 1 ["tree", "order"] (sp_turned_tree mg) := by
  obtain ⟨XC_NoOrder, X_NoOrder⟩ := E_NoOrder
  refine Ca.mk' D sc_turned_tree (fun vs H Q E h => ?_) (fun q_ f_ cdv A outer s H vs Q E hr h => ?_)
  · obtain ⟨F, _, _, _, _, rfl, _⟩ := h
    rfl
  · obtain ⟨F, v_tree, x_tree, v_order, x_order, rfl, P0, f_tree, f_order, hk⟩ := h
    have nd := sc_turned_tree.nd
    have hu64 := hr.units
    have hu128 := hu128_of hr
    have O := P0.start
    refine ⟨_, (pss_cons (ps_if (pt_cmpR (op_neT (List Int) hu64) (pe_callB (cr_sortedT Int hu128) (by rfl) nb.b_sorted (by decide +kernel) (pa_cons (pv 1) pa_nil)) (pe_listRg rfl (by rfl) nb.b_list (prg_1 (by rfl) nb.b_range (pe_callB call_lenT (by rfl) nb.b_len PySem.boot_len (pa_cons (pe_ix (ixTupK (K := K) rfl) (pv 0) pe_int (fun _ _ => rfl)) pa_nil)))) (nomark _)) (pss_one (ps_raise rfl (takes_of rfl rfl rfl rfl) (pmk_own PySem.F.excBase_ValueError X_NoOrder.x X_NoOrder.g X_NoOrder.k (raises_own X_NoOrder.b X_NoOrder.t) rfl))) pss_nil)
  (pss_cons (ps_set (i := 2) nd rfl (Or.inr rfl) (pe_callTy (call_dictP rfl) (by rfl) nb.b_dict (by decide +kernel) (pa_cons (pe_lc (own := [("k", 8), ("place", 7)]) (g := gTup K 2 (gCons (gName 8) (gCons (gName 7) (gNil)))) (tt := _) rfl nd (piEnumK (K := K) rfl (pi_enum rfl nb.b_enumerate (pa_cons (pv 1) pa_nil))) (blkOk_by (own := [("k", 8), ("place", 7)]) (N := ["tree", "order", "anew", "ties", "a", "b", "length", "place", "k"]) (sc := defScope s_turned_tree) (by decide +kernel)) (fun _ _ _ _ _ => (pg_tup rfl (pgs_cons (pg_name (i := 8) nd rfl (Or.inl rfl)) (pgs_cons (pg_name (i := 7) nd rfl (Or.inl rfl)) pgs_nil)))) (fun _ _ _ _ _ => pts_nil) (fun _ _ _ _ _ => (pe_tup (pa_cons (pv 7) (pa_cons (pv 8) pa_nil))))) pa_nil)))
  (pss_cons (ps_setLc (i := 3) (own := [("a", 4), ("b", 5), ("length", 6)]) (g := gTup K 3 (gCons (gName 4) (gCons (gName 5) (gCons (gName 6) (gNil))))) (tt := _) rfl nd rfl rfl (sw_true rfl rfl rfl (by decide +kernel)) (piListK (K := K) rfl (pe_ix (ixTupK (K := K) rfl) (pv 0) pe_int (fun _ _ => rfl))) (blkOk_by (own := [("a", 4), ("b", 5), ("length", 6)]) (N := ["tree", "order", "anew", "ties", "a", "b", "length", "place", "k"]) (sc := defScope s_turned_tree) (by decide +kernel)) (fun _ _ _ _ _ => (pg_tup rfl (pgs_cons (pg_name (i := 4) nd rfl (Or.inl rfl)) (pgs_cons (pg_name (i := 5) nd rfl (Or.inl rfl)) (pgs_cons (pg_name (i := 6) nd rfl (Or.inl rfl)) pgs_nil))))) (fun _ _ _ _ _ => pts_nil) (fun _ _ _ _ _ => (pe_tup (pa_cons (pe_callB (call_min2 rfl) (by rfl) nb.b_min (by decide +kernel) (pa_cons (pe_dget (u1_of hu64) (pv 2) (pv 4) (fun _ _ => rfl)) (pa_cons (pe_dget (u1_of hu64) (pv 2) (pv 5) (fun _ _ => rfl)) pa_nil))) (pa_cons (pe_callB (call_max2 rfl) (by rfl) nb.b_max (by decide +kernel) (pa_cons (pe_dget (u1_of hu64) (pv 2) (pv 4) (fun _ _ => rfl)) (pa_cons (pe_dget (u1_of hu64) (pv 2) (pv 5) (fun _ _ => rfl)) pa_nil))) (pa_cons (pv 6) pa_nil))))))
  (pss_one (ps_ret (pe_tup (pa_cons (pe_lc (own := [("place", 7)]) (g := gName 7) (tt := _) rfl nd (piListK (K := K) rfl (pv 1)) (blkOk_by (own := [("place", 7)]) (N := ["tree", "order", "anew", "ties", "a", "b", "length", "place", "k"]) (sc := defScope s_turned_tree) (by decide +kernel)) (fun _ _ _ _ _ => (pg_name (i := 7) nd rfl (Or.inl rfl))) (fun _ _ _ _ _ => pts_nil) (fun _ _ _ _ _ => (pe_ix (ixListK (K := K) rfl) (pe_ix (ixTupK (K := K) rfl) (pv 0) pe_int (fun _ _ => rfl)) (pv 7) (fun _ _ => rfl)))) (pa_cons (pe_callB (cr_sortedT (T3 Int Int Int) hu128) (by rfl) nb.b_sorted (by decide +kernel) (pa_cons (pv 3) pa_nil)) pa_nil)))))))), ?_⟩
    obtain ⟨p1, w2, e3, h4, hl5⟩ := R.lst_ f_order
    cases e3
    refine ⟨_, rfl, _, _, _, rfl, (O.s _ _ h4), (RL.mono hl5 O.s), fun p6 hp7 => ?_⟩
    have hl13 : RL (a := Int) F (sortV w2 x_order) (sortT x_order) := (RL.sorted hl5)
    obtain ⟨F8, O9, S10, h11⟩ := O.putE hp7 (.lst (sortV w2 x_order))
    have f_tree := f_tree.mono S10
    have f_order := f_order.mono S10
    have h4 := S10 _ _ h4
    have hl5 := hl5.mono S10
    have hl13 := hl13.mono S10
    have h12 := R.lst (a := Int) h11 hl13
    obtain ⟨p14, v17, v18, e15, h16, r19, r20⟩ := R.t2_ f_tree
    cases e15
    obtain ⟨p21, w22, e23, h24, hl25⟩ := R.lst_ r19
    cases e23
    obtain ⟨c26, hk⟩ := wp_chk hk
    refine ⟨_, rfl, _, _, _, _, rfl, rfl, (SqTF O9.s h16), rfl, _, _, _, rfl, (.inl (O9.s _ _ h24)), hl25.len, _, rfl, c26.rg1, fun p27 hp28 => ?_⟩
    have hl34 : RL (a := Int) F8 (rgV 0 (x_tree.1.length : Int)) (rangeL 0 (x_tree.1.length : Int)) := RL.rg
    obtain ⟨F29, O30, S31, h32⟩ := O9.putE hp28 (.lst (rgV 0 (x_tree.1.length : Int)))
    have f_tree := f_tree.mono S31
    have f_order := f_order.mono S31
    have h4 := S31 _ _ h4
    have hl5 := hl5.mono S31
    have h12 := h12.mono S31
    have h16 := S31 _ _ h16
    have r19 := r19.mono S31
    have r20 := r20.mono S31
    have h24 := S31 _ _ h24
    have hl25 := hl25.mono S31
    have hl34 := hl34.mono S31
    have h33 := R.lst (a := Int) h32 hl34
    refine ⟨_, _, (R.mono h12 O30.s), (R.mono h33 O30.s), _, rfl, ?_⟩
    refine iteD (fun q35 => ?_) (fun q35 => ?_)
    · have hk := wp_if hk q35
      exact hk _ _ X_NoOrder.g O30.kp
    · have hk := wp_el hk q35
      obtain ⟨p36, w37, e38, h39, hl40⟩ := R.lst_ f_order
      cases e38
      obtain ⟨c46, L42, hL43, hLs44, hLd45⟩ := compS_L hk
      refine ⟨_, rfl, _, _, rfl, (SqLF O30.s h39), fun p47 hp48 => ?_⟩
      have z91 := O30.was hp48
      refine lc_it (walk_enum (K := K) (xs := w37)) (fun i H => ∃ (F_ : Hp) (st : Unit) (acc : List (Int × Int)) (wa : List V), Same F29 F_ ∧ Ow _ F_ [(p47, .lst wa)] H ∧ RL F_ wa acc ∧ wa.length ≤ i ∧ L42 (List.drop i (enumL x_order)) acc st) ⟨F29, (), [], [], Same.refl _, O30.new hp48, RL.nil, Nat.zero_le _, hL43⟩ (fun i_ H_ _ hp_ => ?_) ?_ ?_
      · obtain ⟨_, _, _, _, hS_, hO_, _⟩ := hp_
        exact SqLF hO_.s (hS_ _ _ h39)
      · rintro i49 _ H51 _ hi52 ⟨F57, st58, acc54, wa55, S59, O61, hl60, la56, hL43⟩ ⟨T62, x63, y64, rfl, hT65, rfl, hx66, hy67⟩
        have f_tree := f_tree.mono S59
        have f_order := f_order.mono S59
        have h4 := S59 _ _ h4
        have hl5 := hl5.mono S59
        have h12 := h12.mono S59
        have h16 := S59 _ _ h16
        have r19 := r19.mono S59
        have r20 := r20.mono S59
        have h24 := S59 _ _ h24
        have hl25 := hl25.mono S59
        have h33 := h33.mono S59
        have h39 := S59 _ _ h39
        have hl40 := hl40.mono S59
        cases hx66
        obtain ⟨y68, e69, r70⟩ := RL.got hl40 hy67
        rw [enumL_get e69] at hL43
        have hk := hLs44 _ _ _ _ hL43
        obtain ⟨F71, O72, S73, h74⟩ := O61.putE hT65 (.tup [V.int (i49 : Int), y64])
        have f_tree := f_tree.mono S73
        have f_order := f_order.mono S73
        have h4 := S73 _ _ h4
        have hl5 := hl5.mono S73
        have h12 := h12.mono S73
        have h16 := S73 _ _ h16
        have r19 := r19.mono S73
        have r20 := r20.mono S73
        have h24 := S73 _ _ h24
        have hl25 := hl25.mono S73
        have h33 := h33.mono S73
        have h39 := S73 _ _ h39
        have hl40 := hl40.mono S73
        have S59 := S59.trans S73
        have hl60 := hl60.mono S73
        have r70 := r70.mono S73
        obtain ⟨y41, he76⟩ : ∃ z_, z_ = ((i49 : Int), y68) := ⟨_, rfl⟩
        try rw [← he76] at hk
        have h75 : R (a := (Int × Int)) F71 (.ref T62) y41 := by rw [he76]; exact R.t2 h74 R.int r70
        obtain ⟨p77, v80, v81, e78, h79, r82, r83⟩ := R.t2_ h75
        cases e78
        obtain rfl := R.int_ r82
        obtain rfl := R.int_ r83
        refine ⟨_, _, rfl, (SqTF O72.s h79), rfl, _, _, rfl, _, _, rfl, rfl, rfl, ?_⟩
        refine ⟨_, rfl, _, rfl, (by show 2 ≤ sizeLine; decide), fun p84 hp85 => ?_⟩
        obtain ⟨F86, O87, S88, h89⟩ := O72.putE hp85 (.tup [V.int y41.2, V.int y41.1])
        have f_tree := f_tree.mono S88
        have f_order := f_order.mono S88
        have h4 := S88 _ _ h4
        have hl5 := hl5.mono S88
        have h12 := h12.mono S88
        have h16 := S88 _ _ h16
        have r19 := r19.mono S88
        have r20 := r20.mono S88
        have h24 := S88 _ _ h24
        have hl25 := hl25.mono S88
        have h33 := h33.mono S88
        have h39 := S88 _ _ h39
        have hl40 := hl40.mono S88
        have S59 := S59.trans S88
        have hl60 := hl60.mono S88
        have r70 := r70.mono S88
        have h75 := h75.mono S88
        have h79 := S88 _ _ h79
        have h90 : R (a := (Int × Int)) F86 (.ref p84) (y41.2, y41.1) := R.t2 h89 R.int R.int
        refine ⟨_, (O87.at 0 rfl), (comp_lenE la56 hi52 hl40.len c46), ?_⟩
        exact ⟨F86, (), acc54 ++ [(y41.2, y41.1)], wa55 ++ [V.ref p84], S59, O87.set 0 (.lst (wa55 ++ [V.ref p84])) rfl, RL.snoc hl60 h90, by rw [List.length_append]; exact Nat.succ_le_succ la56, hk⟩
      rintro H92 ⟨F93, st94, acc95, wa96, S97, O98, hl99, la100, hL101⟩
      rw [enumL_end hl40.len] at hL101
      have hk := hLd45 _ _ hL101
      have f_tree := f_tree.mono S97
      have f_order := f_order.mono S97
      have h4 := S97 _ _ h4
      have hl5 := hl5.mono S97
      have h12 := h12.mono S97
      have h16 := S97 _ _ h16
      have r19 := r19.mono S97
      have r20 := r20.mono S97
      have h24 := S97 _ _ h24
      have hl25 := hl25.mono S97
      have h33 := h33.mono S97
      have h39 := S97 _ _ h39
      have hl40 := hl40.mono S97
      obtain ⟨F103, O104, S105, h106⟩ := O98.frzE 0 rfl z91
      have f_tree := f_tree.mono S105
      have f_order := f_order.mono S105
      have h4 := S105 _ _ h4
      have hl5 := hl5.mono S105
      have h12 := h12.mono S105
      have h16 := S105 _ _ h16
      have r19 := r19.mono S105
      have r20 := r20.mono S105
      have h24 := S105 _ _ h24
      have hl25 := hl25.mono S105
      have h33 := h33.mono S105
      have h39 := S105 _ _ h39
      have hl40 := hl40.mono S105
      have hl99 := hl99.mono S105
      have h107 := R.lst (a := (Int × Int)) h106 hl99
      obtain ⟨p108, w109, e110, h111, hl112⟩ := R.lst_ h107
      cases e110
      obtain ⟨ps113, kvs114, e115, hps116, hl117⟩ := pairs_of_rl (K := K) O104.s hl112
      refine ⟨_, ps113, kvs114, rfl, (by rw [← e115]; exact (SqLF O104.s h111)), hps116, fun p118 hp119 => ?_⟩
      have hl125 : RD (κ := Int) (β := Int) F103 (mergeK [] kvs114) (mergeD acc95) := merge_rd hl117 .nil
      obtain ⟨F120, O121, S122, h123⟩ := O104.putE hp119 (.dK (mergeK [] kvs114))
      have f_tree := f_tree.mono S122
      have f_order := f_order.mono S122
      have h4 := S122 _ _ h4
      have hl5 := hl5.mono S122
      have h12 := h12.mono S122
      have h16 := S122 _ _ h16
      have r19 := r19.mono S122
      have r20 := r20.mono S122
      have h24 := S122 _ _ h24
      have hl25 := hl25.mono S122
      have h33 := h33.mono S122
      have h39 := S122 _ _ h39
      have hl40 := hl40.mono S122
      have h107 := h107.mono S122
      have h111 := S122 _ _ h111
      have hl112 := hl112.mono S122
      have hl117 := hl117.mono S122
      have hl125 := hl125.mono S122
      have h124 := RDv.mk (κ := Int) (β := Int) h123 hl125
      obtain ⟨p126, w127, e128, h129, hl130⟩ := R.lst_ r20
      cases e128
      obtain ⟨c136, L132, hL133, hLs134, hLd135⟩ := compS_L hk
      refine ⟨_, rfl, _, _, _, _, rfl, rfl, (SqTF O121.s h16), rfl, _, rfl, ⟨_, (SqLF O121.s h129)⟩, fun p137 hp138 => ?_⟩
      have z195 := O121.was hp138
      refine lc_list (K := K) (xs := w127) (fun i H => ∃ (F_ : Hp) (st : Unit) (acc : List (T3 Int Int Int)) (wa : List V), Same F120 F_ ∧ Ow _ F_ [(p137, .lst wa)] H ∧ RL F_ wa acc ∧ wa.length ≤ i ∧ L132 (List.drop i x_tree.2) acc st) ⟨F120, (), [], [], Same.refl _, O121.new hp138, RL.nil, Nat.zero_le _, hL133⟩ (fun i_ H_ _ hp_ => ?_) ?_ ?_
      · obtain ⟨_, _, _, _, hS_, hO_, _⟩ := hp_
        exact SqLF hO_.s (hS_ _ _ h129)
      · rintro i139 x140 H141 hi142 ⟨F147, st148, acc144, wa145, S149, O151, hl150, la146, hL133⟩
        have f_tree := f_tree.mono S149
        have f_order := f_order.mono S149
        have h4 := S149 _ _ h4
        have hl5 := hl5.mono S149
        have h12 := h12.mono S149
        have h16 := S149 _ _ h16
        have r19 := r19.mono S149
        have r20 := r20.mono S149
        have h24 := S149 _ _ h24
        have hl25 := hl25.mono S149
        have h33 := h33.mono S149
        have h39 := S149 _ _ h39
        have hl40 := hl40.mono S149
        have h107 := h107.mono S149
        have h111 := S149 _ _ h111
        have hl112 := hl112.mono S149
        have hl117 := hl117.mono S149
        have hl125 := hl125.mono S149
        have h124 := h124.mono S149
        have h129 := S149 _ _ h129
        have hl130 := hl130.mono S149
        obtain ⟨y131, e152, r153⟩ := RL.got hl130 hi142
        rw [drop_at e152] at hL133
        have hk := hLs134 _ _ _ _ hL133
        obtain ⟨p154, v157, v158, v159, e155, h156, r160, r161, r162⟩ := R.t3_ r153
        cases e155
        obtain rfl := R.int_ r160
        obtain rfl := R.int_ r161
        obtain rfl := R.int_ r162
        refine ⟨_, _, rfl, (SqTF O151.s h156), rfl, _, _, rfl, _, _, rfl, _, _, rfl, rfl, rfl, ?_⟩
        obtain ⟨p163, w164, e165, h166, hl167⟩ := h124
        cases e165
        have h166 : F147 _ = some (.dK w164) := h166
        have h124 := RDv.mk (κ := Int) (β := Int) h166 hl167
        obtain ⟨y168, e169, hk⟩ := wp_opt hk
        obtain ⟨w170, e171, r172⟩ := RD.some hl167 (k := y131.a) e169
        obtain rfl := R.int_ r172
        obtain ⟨y173, e174, hk⟩ := wp_opt hk
        obtain ⟨w175, e176, r177⟩ := RD.some hl167 (k := y131.b) e174
        obtain rfl := R.int_ r177
        obtain ⟨y178, e179, hk⟩ := wp_opt hk
        obtain ⟨w180, e181, r182⟩ := RD.some hl167 (k := y131.a) e179
        obtain rfl := R.int_ r182
        obtain ⟨y183, e184, hk⟩ := wp_opt hk
        obtain ⟨w185, e186, r187⟩ := RD.some hl167 (k := y131.b) e184
        obtain rfl := R.int_ r187
        refine ⟨_, rfl, _, rfl, _, _, rfl, (dget_I (O151.s _ _ h166) e171), _, rfl, _, rfl, _, _, rfl, (dget_I (O151.s _ _ h166) e176), _, _, rfl, _, rfl, _, rfl, _, _, rfl, (dget_I (O151.s _ _ h166) e181), _, rfl, _, rfl, _, _, rfl, (dget_I (O151.s _ _ h166) e186), _, _, rfl, _, rfl, (by show 3 ≤ sizeLine; decide), fun p188 hp189 => ?_⟩
        obtain ⟨F190, O191, S192, h193⟩ := O151.putE hp189 (.tup [V.int (if y173 < y168 then y173 else y168), V.int (if y183 > y178 then y183 else y178), V.int y131.c])
        have f_tree := f_tree.mono S192
        have f_order := f_order.mono S192
        have h4 := S192 _ _ h4
        have hl5 := hl5.mono S192
        have h12 := h12.mono S192
        have h16 := S192 _ _ h16
        have r19 := r19.mono S192
        have r20 := r20.mono S192
        have h24 := S192 _ _ h24
        have hl25 := hl25.mono S192
        have h33 := h33.mono S192
        have h39 := S192 _ _ h39
        have hl40 := hl40.mono S192
        have h107 := h107.mono S192
        have h111 := S192 _ _ h111
        have hl112 := hl112.mono S192
        have hl117 := hl117.mono S192
        have hl125 := hl125.mono S192
        have h124 := h124.mono S192
        have h129 := S192 _ _ h129
        have hl130 := hl130.mono S192
        have S149 := S149.trans S192
        have hl150 := hl150.mono S192
        have r153 := r153.mono S192
        have h156 := S192 _ _ h156
        have h166 := S192 _ _ h166
        have hl167 := hl167.mono S192
        have h194 : R (a := (T3 Int Int Int)) F190 (.ref p188) (T3.mk (if y173 < y168 then y173 else y168) (if y183 > y178 then y183 else y178) y131.c) := R.t3 h193 R.int R.int R.int
        refine ⟨_, (O191.at 0 rfl), (comp_len la146 hi142 hl130.len c136), ?_⟩
        exact ⟨F190, (), acc144 ++ [(T3.mk (if y173 < y168 then y173 else y168) (if y183 > y178 then y183 else y178) y131.c)], wa145 ++ [V.ref p188], S149, O191.set 0 (.lst (wa145 ++ [V.ref p188])) rfl, RL.snoc hl150 h194, by rw [List.length_append]; exact Nat.succ_le_succ la146, hk⟩
      rintro H196 ⟨F197, st198, acc199, wa200, S201, O202, hl203, la204, hL205⟩
      rw [drop_end hl130.len] at hL205
      have hk := hLd135 _ _ hL205
      have f_tree := f_tree.mono S201
      have f_order := f_order.mono S201
      have h4 := S201 _ _ h4
      have hl5 := hl5.mono S201
      have h12 := h12.mono S201
      have h16 := S201 _ _ h16
      have r19 := r19.mono S201
      have r20 := r20.mono S201
      have h24 := S201 _ _ h24
      have hl25 := hl25.mono S201
      have h33 := h33.mono S201
      have h39 := S201 _ _ h39
      have hl40 := hl40.mono S201
      have h107 := h107.mono S201
      have h111 := S201 _ _ h111
      have hl112 := hl112.mono S201
      have hl117 := hl117.mono S201
      have hl125 := hl125.mono S201
      have h124 := h124.mono S201
      have h129 := S201 _ _ h129
      have hl130 := hl130.mono S201
      obtain ⟨F207, O208, S209, h210⟩ := O202.frzE 0 rfl z195
      have f_tree := f_tree.mono S209
      have f_order := f_order.mono S209
      have h4 := S209 _ _ h4
      have hl5 := hl5.mono S209
      have h12 := h12.mono S209
      have h16 := S209 _ _ h16
      have r19 := r19.mono S209
      have r20 := r20.mono S209
      have h24 := S209 _ _ h24
      have hl25 := hl25.mono S209
      have h33 := h33.mono S209
      have h39 := S209 _ _ h39
      have hl40 := hl40.mono S209
      have h107 := h107.mono S209
      have h111 := S209 _ _ h111
      have hl112 := hl112.mono S209
      have hl117 := hl117.mono S209
      have hl125 := hl125.mono S209
      have h124 := h124.mono S209
      have h129 := S209 _ _ h129
      have hl130 := hl130.mono S209
      have hl203 := hl203.mono S209
      have h211 := R.lst (a := (T3 Int Int Int)) h210 hl203
      obtain ⟨p215, w216, e217, h218, hl219⟩ := R.lst_ f_order
      cases e217
      obtain ⟨c225, L221, hL222, hLs223, hLd224⟩ := compS_L hk
      refine ⟨_, rfl, _, rfl, ⟨_, (SqLF O208.s h218)⟩, fun p226 hp227 => ?_⟩
      have z253 := O208.was hp227
      refine lc_list (K := K) (xs := w216) (fun i H => ∃ (F_ : Hp) (st : Unit) (acc : List Int) (wa : List V), Same F207 F_ ∧ Ow _ F_ [(p226, .lst wa)] H ∧ RL F_ wa acc ∧ wa.length ≤ i ∧ L221 (List.drop i x_order) acc st) ⟨F207, (), [], [], Same.refl _, O208.new hp227, RL.nil, Nat.zero_le _, hL222⟩ (fun i_ H_ _ hp_ => ?_) ?_ ?_
      · obtain ⟨_, _, _, _, hS_, hO_, _⟩ := hp_
        exact SqLF hO_.s (hS_ _ _ h218)
      · rintro i228 x229 H230 hi231 ⟨F236, st237, acc233, wa234, S238, O240, hl239, la235, hL222⟩
        have f_tree := f_tree.mono S238
        have f_order := f_order.mono S238
        have h4 := S238 _ _ h4
        have hl5 := hl5.mono S238
        have h12 := h12.mono S238
        have h16 := S238 _ _ h16
        have r19 := r19.mono S238
        have r20 := r20.mono S238
        have h24 := S238 _ _ h24
        have hl25 := hl25.mono S238
        have h33 := h33.mono S238
        have h39 := S238 _ _ h39
        have hl40 := hl40.mono S238
        have h107 := h107.mono S238
        have h111 := S238 _ _ h111
        have hl112 := hl112.mono S238
        have hl117 := hl117.mono S238
        have hl125 := hl125.mono S238
        have h124 := h124.mono S238
        have h129 := S238 _ _ h129
        have hl130 := hl130.mono S238
        have h211 := h211.mono S238
        have h218 := S238 _ _ h218
        have hl219 := hl219.mono S238
        obtain ⟨y220, e241, r242⟩ := RL.got hl219 hi231
        rw [drop_at e241] at hL222
        have hk := hLs223 _ _ _ _ hL222
        obtain rfl := R.int_ r242
        refine ⟨rfl, ?_⟩
        obtain ⟨p243, w244, e245, h246, hl247⟩ := R.lst_ r19
        cases e245
        obtain ⟨y248, e249, hk⟩ := wp_opt hk
        obtain ⟨w250, e251, r252⟩ := hl247.atI e249
        obtain rfl := R.int_ r252
        refine ⟨_, rfl, _, _, _, _, rfl, rfl, (SqTF O240.s h16), rfl, _, rfl, _, _, _, _, rfl, rfl, (SqLF O240.s h246), e251, _, (O240.at 0 rfl), (comp_len la235 hi231 hl219.len c225), ?_⟩
        exact ⟨F236, (), acc233 ++ [y248], wa234 ++ [V.int y248], S238, O240.set 0 (.lst (wa234 ++ [V.int y248])) rfl, RL.snoc hl239 R.int, by rw [List.length_append]; exact Nat.succ_le_succ la235, hk⟩
      rintro H254 ⟨F255, st256, acc257, wa258, S259, O260, hl261, la262, hL263⟩
      rw [drop_end hl219.len] at hL263
      have hk := hLd224 _ _ hL263
      have f_tree := f_tree.mono S259
      have f_order := f_order.mono S259
      have h4 := S259 _ _ h4
      have hl5 := hl5.mono S259
      have h12 := h12.mono S259
      have h16 := S259 _ _ h16
      have r19 := r19.mono S259
      have r20 := r20.mono S259
      have h24 := S259 _ _ h24
      have hl25 := hl25.mono S259
      have h33 := h33.mono S259
      have h39 := S259 _ _ h39
      have hl40 := hl40.mono S259
      have h107 := h107.mono S259
      have h111 := S259 _ _ h111
      have hl112 := hl112.mono S259
      have hl117 := hl117.mono S259
      have hl125 := hl125.mono S259
      have h124 := h124.mono S259
      have h129 := S259 _ _ h129
      have hl130 := hl130.mono S259
      have h211 := h211.mono S259
      have h218 := S259 _ _ h218
      have hl219 := hl219.mono S259
      obtain ⟨p265, w266, e267, h268, hl269⟩ := R.lst_ h211
      cases e267
      refine ⟨_, rfl, _, _, _, rfl, (O260.s _ _ h268), (RL.mono hl269 O260.s), fun p270 hp271 => ?_⟩
      have hl273 : RL (a := (T3 Int Int Int)) F255 (sortV w266 acc199) (sortT acc199) := (RL.sorted hl269)
      have z274 := O260.was hp271
      have O272 := O260.new (o := .lst (sortV w266 acc199)) hp271
      refine ⟨(by show 2 ≤ sizeLine; decide), fun p275 hp276 => ?_⟩
      obtain ⟨F277, O278, S279, h280⟩ := O272.putE hp276 (.tup [V.ref p226, V.ref p270])
      have f_tree := f_tree.mono S279
      have f_order := f_order.mono S279
      have h4 := S279 _ _ h4
      have hl5 := hl5.mono S279
      have h12 := h12.mono S279
      have h16 := S279 _ _ h16
      have r19 := r19.mono S279
      have r20 := r20.mono S279
      have h24 := S279 _ _ h24
      have hl25 := hl25.mono S279
      have h33 := h33.mono S279
      have h39 := S279 _ _ h39
      have hl40 := hl40.mono S279
      have h107 := h107.mono S279
      have h111 := S279 _ _ h111
      have hl112 := hl112.mono S279
      have hl117 := hl117.mono S279
      have hl125 := hl125.mono S279
      have h124 := h124.mono S279
      have h129 := S279 _ _ h129
      have hl130 := hl130.mono S279
      have h211 := h211.mono S279
      have h218 := S279 _ _ h218
      have hl219 := hl219.mono S279
      have hl261 := hl261.mono S279
      have h268 := S279 _ _ h268
      have hl269 := hl269.mono S279
      have hl273 := hl273.mono S279
      exact hk _ _  O278.g  _ _ _ _ _ z253 (O278.cf _ (List.mem_of_getElem? (i := 1) rfl)) (O278.at 1 rfl) hl261 z274 (O278.cf _ (List.mem_of_getElem? (i := 0) rfl)) (O278.at 0 rfl) hl273 (O278.ne 1 0 (by decide) rfl rfl) h280
abbrev s_law_stir : Stmt := top 15
theorem sc_law_stir : FnScope ["cell", "k", "number"] ["cell", "k"] (defScope s_law_stir) := ⟨rfl, rfl, rfl, by decide +kernel, rfl, by decide +kernel, by decide +kernel⟩
def m_law_stir (x_cell : Int) (x_k : Int) : M (Int) :=
chk (0 < ((10 : Int) ^ Int.toNat (40 : Int))) >>= fun _ =>
chk (CMulW (x_cell % ((10 : Int) ^ Int.toNat (40 : Int))) (48271 : Int)) >>= fun _ =>
chk (CMulW ((3 : Int) ^ Int.toNat (60 : Int)) (x_k + (1 : Int))) >>= fun _ =>
chk (CMulW (((3 : Int) ^ Int.toNat (60 : Int)) * (x_k + (1 : Int))) (x_k + (1 : Int))) >>= fun _ =>
ret ((((x_cell % ((10 : Int) ^ Int.toNat (40 : Int))) * (48271 : Int)) + ((((3 : Int) ^ Int.toNat (60 : Int)) * (x_k + (1 : Int))) * (x_k + (1 : Int)))) + x_k) >>= fun n5 =>
chk (CMulW n5 n5) >>= fun _ =>
chk (CMulW (69621 : Int) n5) >>= fun _ =>
ret ((n5 * n5) + ((69621 : Int) * n5)) >>= fun n9 =>
chk (CMulW n9 n9) >>= fun _ =>
chk (0 < (((10 : Int) ^ Int.toNat (61 : Int)) + (7 : Int))) >>= fun _ =>
chk (CDivW ((n9 * n9) % (((10 : Int) ^ Int.toNat (61 : Int)) + (7 : Int))) (8 : Int)) >>= fun _ =>
.ok (((n9 * n9) % (((10 : Int) ^ Int.toNat (61 : Int)) + (7 : Int))) / (8 : Int))
def sp_law_stir (mg : Str → Option Value) : Sp := fun vs H Q E => ∃ (F : Hp) (x_cell : Int) (x_k : Int), vs = [V.int x_cell, V.int x_k] ∧ Pre F [] H ∧
  wp (m_law_stir x_cell x_k) (fun r => ∀ (F' H' : Hp), Gr [] F H F' H' → Q (V.int r) H')
  (fun n => ∀ (C : Addr) (H' : Hp), mg (Str.ofString n) = some (.ref C) → Kp [] H H' → E (.ref C) none H')
set_option maxHeartbeats 2000000 in
theorem ok_law_stir (nb : Nb mg) (D : Df K mg "_law_stir" "_law_stir" s_law_stir ["cell", "k"]) : Ca P w K mg base "_law_stir" 1 ["cell", "k"] (sp_law_stir mg) := by
  refine Ca.mk' D sc_law_stir (fun vs H Q E h => ?_) (fun q_ f_ cdv A outer s H vs Q E hr h => ?_)
  · obtain ⟨F, _, _, rfl, _⟩ := h
    rfl
  · obtain ⟨F, x_cell, x_k, rfl, P0, hk⟩ := h
    have nd := sc_law_stir.nd
    have hu64 := hr.units
    have hu128 := hu128_of hr
    have O := P0.start
    refine ⟨_, (pss_cons (ps_set (i := 2) nd rfl (Or.inl rfl) (pe_op op_add (pe_op op_add (pe_op op_mulW (pe_op op_mod (pv 0) (pe_op op_pow pe_int pe_int)) pe_int) (pe_op op_mulW (pe_op op_mulW (pe_op op_pow pe_int pe_int) (pe_op op_add (pv 1) pe_int)) (pe_op op_add (pv 1) pe_int))) (pv 1)))
  (pss_cons (ps_set (i := 2) nd rfl (Or.inl rfl) (pe_op op_add (pe_op op_mulW (pv 2) (pv 2)) (pe_op op_mulW pe_int (pv 2))))
  (pss_one (ps_ret (pe_op op_fdivW (pe_op op_mod (pe_op op_mulW (pv 2) (pv 2)) (pe_op op_add (pe_op op_pow pe_int pe_int) pe_int)) pe_int))))), ?_⟩
    obtain ⟨c1, hk⟩ := wp_chk hk
    obtain ⟨c2, hk⟩ := wp_chk hk
    obtain ⟨c3, hk⟩ := wp_chk hk
    obtain ⟨c4, hk⟩ := wp_chk hk
    obtain ⟨n5, hn6, hk⟩ := wp_ret hk
    subst hn6
    obtain ⟨c7, hk⟩ := wp_chk hk
    obtain ⟨c8, hk⟩ := wp_chk hk
    obtain ⟨n9, hn10, hk⟩ := wp_ret hk
    subst hn10
    obtain ⟨c11, hk⟩ := wp_chk hk
    obtain ⟨c12, hk⟩ := wp_chk hk
    obtain ⟨c13, hk⟩ := wp_chk hk
    refine ⟨_, rfl, _, _, rfl, rfl, (by decide), _, _, rfl, rfl, c1, _, _, rfl, rfl, c2, _, _, rfl, rfl, (by decide), _, rfl, _, _, rfl, rfl, _, _, rfl, rfl, c3, _, rfl, _, _, rfl, rfl, _, _, rfl, rfl, c4, _, _, rfl, rfl, _, rfl, _, _, rfl, rfl, _, rfl, _, rfl, _, _, rfl, rfl, c7, _, rfl, _, _, rfl, rfl, c8, _, _, rfl, rfl, _, rfl, _, rfl, _, _, rfl, rfl, c11, _, _, rfl, rfl, (by decide), _, _, rfl, rfl, _, _, rfl, rfl, c12, _, _, rfl, rfl, c13, ?_⟩
    exact hk _ _  O.g 
abbrev s_law_deck : Stmt := top 16
theorem sc_law_deck : FnScope ["cell"] ["cell"] (defScope s_law_deck) := ⟨rfl, rfl, rfl, by decide +kernel, rfl, by decide +kernel, by decide +kernel⟩
def m_law_deck (x_cell : Int) : M ((List Int)) :=
if ((10 : Int) ^ Int.toNat (18 : Int)) ≤ x_cell then (
.ok ([(x_cell - ((10 : Int) ^ Int.toNat (18 : Int)))]))
else (
m_law_stir x_cell (1 : Int) >>= fun r9 =>
chk (CMulW r9 ((10 : Int) ^ Int.toNat (60 : Int))) >>= fun _ =>
m_law_stir x_cell (2 : Int) >>= fun r16 =>
chk (CMulW ((r9 * ((10 : Int) ^ Int.toNat (60 : Int))) + r16) ((10 : Int) ^ Int.toNat (60 : Int))) >>= fun _ =>
m_law_stir x_cell (3 : Int) >>= fun r23 =>
.ok ([((((r9 * ((10 : Int) ^ Int.toNat (60 : Int))) + r16) * ((10 : Int) ^ Int.toNat (60 : Int))) + r23)]))
def sp_law_deck (mg : Str → Option Value) : Sp := fun vs H Q E => ∃ (F : Hp) (x_cell : Int), vs = [V.int x_cell] ∧ Pre F [] H ∧
  wp (m_law_deck x_cell) (fun r => ∀ (F' H' : Hp), Gr [] F H F' H' → ∀ (p : Addr) (w : (List V)), H p = none → F' p = none → H' p = some (.lst w) → RL (a := Int) F' w r → Q (.ref p) H')
  (fun n => ∀ (C : Addr) (H' : Hp), mg (Str.ofString n) = some (.ref C) → Kp [] H H' → E (.ref C) none H')
set_option maxHeartbeats 2000000 in
theorem ok_law_deck (nb : Nb mg) (C_law_stir : Ca P w K mg base "_law_stir" 1 ["cell", "k"] (sp_law_stir mg)) (D : Df K mg "_law_deck" "_law_deck" s_law_deck ["cell"]) : Ca P w K mg base "_law_deck" 2 ["cell"] (sp_law_deck mg) := by
  obtain ⟨fa_law_stir, fd_law_stir, G_law_stir, M_law_stir, K_law_stir, B_law_stir⟩ := C_law_stir.ex
  refine Ca.mk' D sc_law_deck (fun vs H Q E h => ?_) (fun q_ f_ cdv A outer s H vs Q E hr h => ?_)
  · obtain ⟨F, _, rfl, _⟩ := h
    rfl
  · obtain ⟨F, x_cell, rfl, P0, hk⟩ := h
    have nd := sc_law_deck.nd
    have hu64 := hr.units
    have hu128 := hu128_of hr
    have O := P0.start
    refine ⟨_, (pss_cons (ps_if (pt_cmpR op_ge (pv 0) (pe_op op_pow pe_int pe_int) (nomark _)) (pss_one (ps_ret (pe_lst (pa_cons (pe_op op_sub (pv 0) (pe_op op_pow pe_int pe_int)) pa_nil)))) pss_nil)
  (pss_one (ps_ret (pe_lst (pa_cons (pe_op op_add (pe_op op_mulW (pe_op op_add (pe_op op_mulW (pe_call G_law_stir (hr.mono (by decide)) rfl M_law_stir K_law_stir B_law_stir .nil (passes_call (takes_of rfl rfl rfl rfl) fun _ _ _ _ h => h) (pa_cons (pv 0) (pa_cons pe_int pa_nil))) (pe_op op_pow pe_int pe_int)) (pe_call G_law_stir (hr.mono (by decide)) rfl M_law_stir K_law_stir B_law_stir .nil (passes_call (takes_of rfl rfl rfl rfl) fun _ _ _ _ h => h) (pa_cons (pv 0) (pa_cons pe_int pa_nil)))) (pe_op op_pow pe_int pe_int)) (pe_call G_law_stir (hr.mono (by decide)) rfl M_law_stir K_law_stir B_law_stir .nil (passes_call (takes_of rfl rfl rfl rfl) fun _ _ _ _ h => h) (pa_cons (pv 0) (pa_cons pe_int pa_nil)))) pa_nil))))), ?_⟩
    refine ⟨_, rfl, _, _, rfl, rfl, (by decide), _, _, rfl, rfl, _, rfl, ?_⟩
    refine iteD (fun q1 => ?_) (fun q1 => ?_)
    · have hk := wp_if hk q1
      refine ⟨_, rfl, _, _, rfl, rfl, (by decide), _, _, rfl, rfl, (by show 1 ≤ sizeLine; decide), fun p3 hp4 => ?_⟩
      have hl6 : RL (a := Int) F ([V.int (x_cell - ((10 : Int) ^ Int.toNat (18 : Int)))]) ([(x_cell - ((10 : Int) ^ Int.toNat (18 : Int)))]) := RL.cons R.int RL.nil
      have z7 := O.was hp4
      have O5 := O.new (o := .lst ([V.int (x_cell - ((10 : Int) ^ Int.toNat (18 : Int)))])) hp4
      exact hk _ _  O5.g  _ _ z7 (O5.cf _ (List.mem_of_getElem? (i := 0) rfl)) (O5.at 0 rfl) hl6
    · have hk := wp_el hk q1
      refine ⟨_, rfl, _, _, _, rfl, O.pre0, wp_call hk (fun r9 er10 hk F11 H12 g13 => ?_) (fun n hn C H1 hC kp => hn C H1 hC (O.kp0 kp))⟩
      have O14 := O.call0 g13
      have S_ := g13.f
      obtain ⟨c15, hk⟩ := wp_chk hk
      refine ⟨_, _, rfl, rfl, (by decide), _, _, rfl, rfl, c15, _, rfl, _, _, _, rfl, O14.pre0, wp_call hk (fun r16 er17 hk F18 H19 g20 => ?_) (fun n hn C H1 hC kp => hn C H1 hC (O14.kp0 kp))⟩
      have O21 := O14.call0 g20
      have S_ := g20.f
      obtain ⟨c22, hk⟩ := wp_chk hk
      refine ⟨_, _, rfl, rfl, _, _, rfl, rfl, (by decide), _, _, rfl, rfl, c22, _, rfl, _, _, _, rfl, O21.pre0, wp_call hk (fun r23 er24 hk F25 H26 g27 => ?_) (fun n hn C H1 hC kp => hn C H1 hC (O21.kp0 kp))⟩
      have O28 := O21.call0 g27
      have S_ := g27.f
      refine ⟨_, _, rfl, rfl, (by show 1 ≤ sizeLine; decide), fun p29 hp30 => ?_⟩
      have hl32 : RL (a := Int) F25 ([V.int ((((r9 * ((10 : Int) ^ Int.toNat (60 : Int))) + r16) * ((10 : Int) ^ Int.toNat (60 : Int))) + r23)]) ([((((r9 * ((10 : Int) ^ Int.toNat (60 : Int))) + r16) * ((10 : Int) ^ Int.toNat (60 : Int))) + r23)]) := RL.cons R.int RL.nil
      have z33 := O28.was hp30
      have O31 := O28.new (o := .lst ([V.int ((((r9 * ((10 : Int) ^ Int.toNat (60 : Int))) + r16) * ((10 : Int) ^ Int.toNat (60 : Int))) + r23)])) hp30
      exact hk _ _  O31.g  _ _ z33 (O31.cf _ (List.mem_of_getElem? (i := 0) rfl)) (O31.at 0 rfl) hl32
abbrev s_law_take : Stmt := top 17
theorem sc_law_take : FnScope ["deck", "many", "taken"] ["deck", "many"] (defScope s_law_take) := ⟨rfl, rfl, rfl, by decide +kernel, rfl, by decide +kernel, by decide +kernel⟩
def m_law_take (x_deck : (List Int)) (x_many : Int) : M (Int × (List Int)) :=
opt (atI x_deck (0 : Int)) >>= fun y1 =>
chk (0 < x_many) >>= fun _ =>
opt (atI x_deck (0 : Int)) >>= fun y7 =>
chk (CDivW y7 x_many) >>= fun _ =>
setI x_deck (0 : Int) (y7 / x_many) >>= fun z15 =>
.ok ((y1 % x_many), z15)
def sp_law_take (mg : Str → Option Value) : Sp := fun vs H Q E => ∃ (F : Hp) (a_deck : Addr) (w_deck : (List V)) (x_deck : (List Int)) (x_many : Int), vs = [.ref a_deck, V.int x_many] ∧ Pre F [(a_deck, .lst w_deck)] H ∧ RL (a := Int) F w_deck x_deck ∧
  wp (m_law_take x_deck x_many) (fun r => ∀ (F' H' : Hp) (w0 : (List V)), Gr [a_deck] F H F' H' → H' a_deck = some (.lst w0) → RL (a := Int) F' w0 r.2 → Q (V.int r.1) H')
  (fun n => ∀ (C : Addr) (H' : Hp), mg (Str.ofString n) = some (.ref C) → Kp [a_deck] H H' → E (.ref C) none H')
set_option maxHeartbeats 2000000 in
theorem ok_law_take (nb : Nb mg) (D : Df K mg "_law_take" "_law_take" s_law_take ["deck", "many"]) : Ca P w K mg base "_law_take" 1 ["deck", "many"] (sp_law_take mg) := by
  refine Ca.mk' D sc_law_take (fun vs H Q E h => ?_) (fun q_ f_ cdv A outer s H vs Q E hr h => ?_)
  · obtain ⟨F, _, _, _, _, rfl, _⟩ := h
    rfl
  · obtain ⟨F, a_deck, w_deck, x_deck, x_many, rfl, P0, f_deck, hk⟩ := h
    have nd := sc_law_take.nd
    have hu64 := hr.units
    have hu128 := hu128_of hr
    have O := P0.start
    refine ⟨_, (pss_cons (ps_set (i := 2) nd rfl (Or.inl rfl) (pe_op op_mod (pe_ix (ixListK (K := K) rfl) (pv 0) pe_int (fun _ _ => rfl)) (pv 1)))
  (pss_cons (ps_asg (pe_op op_fdivW (pe_ix (ixListK (K := K) rfl) (pv 0) pe_int (fun _ _ => rfl)) (pv 1)) (pg_sub (pv 0) pe_int set_list))
  (pss_one (ps_ret (pv 2))))), ?_⟩
    obtain ⟨y1, e2, hk⟩ := wp_opt hk
    obtain ⟨w3, e4, r5⟩ := f_deck.atI e2
    obtain rfl := R.int_ r5
    obtain ⟨c6, hk⟩ := wp_chk hk
    obtain ⟨y7, e8, hk⟩ := wp_opt hk
    obtain ⟨w9, e10, r11⟩ := f_deck.atI e8
    obtain rfl := R.int_ r11
    obtain ⟨c12, hk⟩ := wp_chk hk
    obtain ⟨j13, e14, hk⟩ := wp_setI hk
    refine ⟨_, rfl, _, _, _, _, rfl, rfl, (SqL.of (O.at 0 rfl)), e4, _, rfl, _, _, rfl, rfl, c6, _, rfl, _, _, _, _, rfl, rfl, (SqL.of (O.at 0 rfl)), e10, _, rfl, _, _, rfl, rfl, c12, _, rfl, _, _, _, _, rfl, rfl, (O.at 0 rfl), (by rw [f_deck.len]; exact e14), ?_⟩
    have O16 := O.set 0 (.lst (w_deck.set j13 (V.int (y7 / x_many)))) rfl
    have hl17 : RL (a := Int) F (w_deck.set j13 (V.int (y7 / x_many))) (x_deck.set j13 (y7 / x_many)) := RL.set j13 f_deck R.int
    refine ⟨_, rfl, ?_⟩
    exact hk _ _ (w_deck.set j13 (V.int (y7 / x_many))) O16.g (O16.at 0 rfl) hl17
abbrev s_law_far : Stmt := top 18
theorem sc_law_far : FnScope ["deck"] ["deck"] (defScope s_law_far) := ⟨rfl, rfl, rfl, by decide +kernel, rfl, by decide +kernel, by decide +kernel⟩
def m_law_far (x_deck : (List Int)) : M (Int × (List Int)) :=
m_law_take x_deck (3 : Int) >>= fun r9 =>
opt (atI ([(4 : Int), (1000 : Int), ((10 : Int) ^ Int.toNat (29 : Int))]) r9.1) >>= fun y23 =>
.ok (y23, r9.2)
def sp_law_far (mg : Str → Option Value) : Sp := fun vs H Q E => ∃ (F : Hp) (a_deck : Addr) (w_deck : (List V)) (x_deck : (List Int)), vs = [.ref a_deck] ∧ Pre F [(a_deck, .lst w_deck)] H ∧ RL (a := Int) F w_deck x_deck ∧
  wp (m_law_far x_deck) (fun r => ∀ (F' H' : Hp) (w0 : (List V)), Gr [a_deck] F H F' H' → H' a_deck = some (.lst w0) → RL (a := Int) F' w0 r.2 → Q (V.int r.1) H')
  (fun n => ∀ (C : Addr) (H' : Hp), mg (Str.ofString n) = some (.ref C) → Kp [a_deck] H H' → E (.ref C) none H')
set_option maxHeartbeats 2000000 in
theorem ok_law_far (nb : Nb mg) (C_law_take : Ca P w K mg base "_law_take" 1 ["deck", "many"] (sp_law_take mg)) (D : Df K mg "_law_far" "_law_far" s_law_far ["deck"]) : Ca P w K mg base "_law_far" 2 ["deck"] (sp_law_far mg) := by
  obtain ⟨fa_law_take, fd_law_take, G_law_take, M_law_take, K_law_take, B_law_take⟩ := C_law_take.ex
  refine Ca.mk' D sc_law_far (fun vs H Q E h => ?_) (fun q_ f_ cdv A outer s H vs Q E hr h => ?_)
  · obtain ⟨F, _, _, _, rfl, _⟩ := h
    rfl
  · obtain ⟨F, a_deck, w_deck, x_deck, rfl, P0, f_deck, hk⟩ := h
    have nd := sc_law_far.nd
    have hu64 := hr.units
    have hu128 := hu128_of hr
    have O := P0.start
    refine ⟨_, (pss_one (ps_ret (pe_ix (ixListK (K := K) rfl) (pe_lst (pa_cons pe_int (pa_cons pe_int (pa_cons (pe_op op_pow pe_int pe_int) pa_nil)))) (pe_call G_law_take (hr.mono (by decide)) rfl M_law_take K_law_take B_law_take .nil (passes_call (takes_of rfl rfl rfl rfl) fun _ _ _ _ h => h) (pa_cons (pv 0) (pa_cons pe_int pa_nil))) (fun _ _ => rfl)))), ?_⟩
    refine ⟨_, _, rfl, rfl, (by decide), (by show 3 ≤ sizeLine; decide), fun p1 hp2 => ?_⟩
    have hl8 : RL (a := Int) F ([V.int (4 : Int), V.int (1000 : Int), V.int ((10 : Int) ^ Int.toNat (29 : Int))]) ([(4 : Int), (1000 : Int), ((10 : Int) ^ Int.toNat (29 : Int))]) := RL.cons R.int (RL.cons R.int (RL.cons R.int RL.nil))
    obtain ⟨F3, O4, S5, h6⟩ := O.putE hp2 (.lst ([V.int (4 : Int), V.int (1000 : Int), V.int ((10 : Int) ^ Int.toNat (29 : Int))]))
    have f_deck := f_deck.mono S5
    have hl8 := hl8.mono S5
    have h7 := R.lst (a := Int) h6 hl8
    refine ⟨_, rfl, _, _, _, _, _, rfl, (O4.pre1 0 rfl), f_deck, wp_call hk (fun r9 er10 hk F11 H12 w14 g13 h15 hl16 => ?_) (fun n hn C H1 hC kp => hn C H1 hC (O4.kp1 kp 0 rfl))⟩
    have O17 := O4.call1 g13 0 rfl h15
    have S_ := g13.f
    have h7 := h7.mono S_
    obtain ⟨p18, w19, e20, h21, hl22⟩ := R.lst_ h7
    cases e20
    obtain ⟨y23, e24, hk⟩ := wp_opt hk
    obtain ⟨w25, e26, r27⟩ := hl22.atI e24
    obtain rfl := R.int_ r27
    refine ⟨_, _, _, _, rfl, rfl, (SqLF O17.s h21), e26, ?_⟩
    exact hk _ _ w14 O17.g (O17.at 0 rfl) hl16
abbrev s_law_number : Stmt := top 19
theorem sc_law_number : FnScope ["deck", "far"] ["deck", "far"] (defScope s_law_number) := ⟨rfl, rfl, rfl, by decide +kernel, rfl, by decide +kernel, by decide +kernel⟩
def m_law_number (x_deck : (List Int)) (x_far : Int) : M (Int × (List Int)) :=
chk (CMulW (2 : Int) x_far) >>= fun _ =>
m_law_take x_deck (((2 : Int) * x_far) + (1 : Int)) >>= fun r2 =>
.ok ((r2.1 - x_far), r2.2)
def sp_law_number (mg : Str → Option Value) : Sp := fun vs H Q E => ∃ (F : Hp) (a_deck : Addr) (w_deck : (List V)) (x_deck : (List Int)) (x_far : Int), vs = [.ref a_deck, V.int x_far] ∧ Pre F [(a_deck, .lst w_deck)] H ∧ RL (a := Int) F w_deck x_deck ∧
  wp (m_law_number x_deck x_far) (fun r => ∀ (F' H' : Hp) (w0 : (List V)), Gr [a_deck] F H F' H' → H' a_deck = some (.lst w0) → RL (a := Int) F' w0 r.2 → Q (V.int r.1) H')
  (fun n => ∀ (C : Addr) (H' : Hp), mg (Str.ofString n) = some (.ref C) → Kp [a_deck] H H' → E (.ref C) none H')
set_option maxHeartbeats 2000000 in
theorem ok_law_number (nb : Nb mg) (C_law_take : Ca P w K mg base "_law_take" 1 ["deck", "many"] (sp_law_take mg)) (D : Df K mg "_law_number" "_law_number" s_law_number ["deck", "far"]) : Ca P w K mg base "_law_number" 2 ["deck", "far"] (sp_law_number mg) := by
  obtain ⟨fa_law_take, fd_law_take, G_law_take, M_law_take, K_law_take, B_law_take⟩ := C_law_take.ex
  refine Ca.mk' D sc_law_number (fun vs H Q E h => ?_) (fun q_ f_ cdv A outer s H vs Q E hr h => ?_)
  · obtain ⟨F, _, _, _, _, rfl, _⟩ := h
    rfl
  · obtain ⟨F, a_deck, w_deck, x_deck, x_far, rfl, P0, f_deck, hk⟩ := h
    have nd := sc_law_number.nd
    have hu64 := hr.units
    have hu128 := hu128_of hr
    have O := P0.start
    refine ⟨_, (pss_one (ps_ret (pe_op op_sub (pe_call G_law_take (hr.mono (by decide)) rfl M_law_take K_law_take B_law_take .nil (passes_call (takes_of rfl rfl rfl rfl) fun _ _ _ _ h => h) (pa_cons (pv 0) (pa_cons (pe_op op_add (pe_op op_mulW pe_int (pv 1)) pe_int) pa_nil))) (pv 1)))), ?_⟩
    obtain ⟨c1, hk⟩ := wp_chk hk
    refine ⟨_, rfl, _, rfl, _, _, rfl, rfl, c1, _, _, rfl, rfl, _, _, _, _, _, rfl, (O.pre1 0 rfl), f_deck, wp_call hk (fun r2 er3 hk F4 H5 w7 g6 h8 hl9 => ?_) (fun n hn C H1 hC kp => hn C H1 hC (O.kp1 kp 0 rfl))⟩
    have O10 := O.call1 g6 0 rfl h8
    have S_ := g6.f
    refine ⟨_, rfl, _, _, rfl, rfl, ?_⟩
    exact hk _ _ w7 O10.g (O10.at 0 rfl) hl9
abbrev s_law_order : Stmt := top 20
theorem sc_law_order : FnScope ["deck", "many", "left", "found", "k"] ["deck", "many"] (defScope s_law_order) := ⟨rfl, rfl, rfl, by decide +kernel, rfl, by decide +kernel, by decide +kernel⟩
def m_law_order (x_deck : (List Int)) (x_many : Int) : M ((List Int) × (List Int)) :=
chk (okR x_many) >>= fun _ =>
chk (okR x_many) >>= fun _ =>
loopN (fun (y14 : Int) (st26 : (List Int) × (List Int) × (List Int)) =>
m_law_take st26.2.2 (st26.2.1.length : Int) >>= fun r36 =>
popI st26.2.1 r36.1 >>= fun t54 =>
appL st26.1 t54.1 >>= fun _ =>
.ok ((st26.1 ++ [t54.1]), t54.2, r36.2)) (rangeL 0 x_many) (([] : List Int), (rangeL 0 x_many), x_deck) >>= fun st64 =>
.ok (st64.1, st64.2.2)
def sp_law_order (mg : Str → Option Value) : Sp := fun vs H Q E => ∃ (F : Hp) (a_deck : Addr) (w_deck : (List V)) (x_deck : (List Int)) (x_many : Int), vs = [.ref a_deck, V.int x_many] ∧ Pre F [(a_deck, .lst w_deck)] H ∧ RL (a := Int) F w_deck x_deck ∧
  wp (m_law_order x_deck x_many) (fun r => ∀ (F' H' : Hp) (w0 : (List V)), Gr [a_deck] F H F' H' → H' a_deck = some (.lst w0) → RL (a := Int) F' w0 r.2 → ∀ (p : Addr) (w : (List V)), H p = none → F' p = none → H' p = some (.lst w) → RL (a := Int) F' w r.1 → Q (.ref p) H')
  (fun n => ∀ (C : Addr) (H' : Hp), mg (Str.ofString n) = some (.ref C) → Kp [a_deck] H H' → E (.ref C) none H')
set_option maxHeartbeats 2000000 in
theorem ok_law_order (nb : Nb mg) (C_law_take : Ca P w K mg base "_law_take" 1 ["deck", "many"] (sp_law_take mg)) (D : Df K mg "_law_order" "_law_order" s_law_order ["deck", "many"]) : Ca P w K mg base "_law_order" 2 ["deck", "many"] (sp_law_order mg) := by
  obtain ⟨fa_law_take, fd_law_take, G_law_take, M_law_take, K_law_take, B_law_take⟩ := C_law_take.ex
  refine Ca.mk' D sc_law_order (fun vs H Q E h => ?_) (fun q_ f_ cdv A outer s H vs Q E hr h => ?_)
  · obtain ⟨F, _, _, _, _, rfl, _⟩ := h
    rfl
  · obtain ⟨F, a_deck, w_deck, x_deck, x_many, rfl, P0, f_deck, hk⟩ := h
    have nd := sc_law_order.nd
    have hu64 := hr.units
    have hu128 := hu128_of hr
    have O := P0.start
    refine ⟨_, (pss_cons (ps_set (i := 2) nd rfl (Or.inl rfl) (pe_listRg rfl (by rfl) nb.b_list (prg_1 (by rfl) nb.b_range (pv 1))))
  (pss_cons (ps_set (i := 3) nd rfl (Or.inl rfl) (pe_lst pa_nil))
  (pss_cons (ps_for (passes_of rfl) rfl (pi_range1 rfl nb.b_range (pa_cons (pv 1) pa_nil)) (pg_name (i := 4) nd rfl (Or.inl rfl)) (pss_one (ps_expr (bmK (K := K) rfl (pe_bm PySem.F.plainAttrs_list PySem.F.slot_list_append PySem.F.type_list_append mt_append (pv 3) (pa_cons (bmK (K := K) rfl (pe_bm PySem.F.plainAttrs_list PySem.F.slot_list_pop PySem.F.type_list_pop mt_popAt (pv 2) (pa_cons (pe_call G_law_take (hr.mono (by decide)) rfl M_law_take K_law_take B_law_take .nil (passes_call (takes_of rfl rfl rfl rfl) fun _ _ _ _ h => h) (pa_cons (pv 0) (pa_cons (pe_callB call_lenT (by rfl) nb.b_len PySem.boot_len (pa_cons (pv 2) pa_nil)) pa_nil))) pa_nil))) pa_nil))))))
  (pss_one (ps_ret (pv 3)))))), ?_⟩
    obtain ⟨c2, hk⟩ := wp_chk hk
    refine ⟨_, rfl, _, rfl, c2.rg1, fun p3 hp4 => ?_⟩
    have hl6 : RL (a := Int) F (rgV 0 x_many) (rangeL 0 x_many) := RL.rg
    have z7 := O.was hp4
    have O5 := O.new (o := .lst (rgV 0 x_many)) hp4
    refine ⟨(by show 0 ≤ sizeLine; decide), fun p9 hp10 => ?_⟩
    have hl12 : RL (a := Int) F ([]) ([] : List Int) := RL.nil
    have z13 := O5.was hp10
    have O11 := O5.new (o := .lst ([])) hp10
    obtain ⟨c15, hk⟩ := wp_chk hk
    obtain ⟨L16, hL17, hLs18, hLd19⟩ := loopN_L hk
    refine ⟨_, rfl, _, rfl, c15.lo, c15.hi, ?_⟩
    refine for_range (lo := 0) (n := (x_many).toNat) (fun i σ H => ∃ (F_ : Hp) (st : (List Int) × (List Int) × (List Int)) (w_0 : (List V)) (w_1 : (List V)) (w_2 : (List V)) (t_0 : Option V), σ = [some (V.ref a_deck), some (V.int x_many), some (V.ref p3), some (V.ref p9), t_0] ∧ Same F F_ ∧ Ow _ F_ [(p9, .lst w_0), (p3, .lst w_1), (a_deck, .lst w_2)] H ∧ RL (a := Int) F_ w_0 st.1 ∧ RL (a := Int) F_ w_1 st.2.1 ∧ RL (a := Int) F_ w_2 st.2.2 ∧ L16 (List.drop i (rangeL 0 x_many)) st) ⟨F, (([] : List Int), (rangeL 0 x_many), x_deck), [], (rgV 0 x_many), w_deck, none, rfl, Same.refl _, O11, hl12, hl6, f_deck, hL17⟩ ?_ ?_
    · rintro i20 sg22 H23 hi24 ⟨F34, st26, w27, w28, w29, t33, rfl, S25, O35, hl30, hl31, hl32, hL17⟩
      rw [rangeL_get0 hi24] at hL17
      have hk := hLs18 _ _ _ hL17
      obtain ⟨y14, he_⟩ : ∃ z_, z_ = 0 + (i20 : Int) := ⟨_, rfl⟩
      try rw [← he_] at hk
      rw [← he_]
      refine ⟨_, rfl, (.inl ⟨rfl, _, SqL.of (O35.at 0 rfl)⟩), _, rfl, (.inl ⟨rfl, _, SqL.of (O35.at 1 rfl)⟩), _, rfl, _, rfl, _, _, _, rfl, (.inl (O35.at 1 rfl)), hl31.len, _, _, _, _, _, rfl, (O35.pre1 2 rfl), hl32, wp_call hk (fun r36 er37 hk F38 H39 w41 g40 h42 hl43 => ?_) (fun n hn C H1 hC kp => hn C H1 hC (O35.kp1 kp 2 rfl))⟩
      have O44 := O35.call1 g40 2 rfl h42
      have S_ := g40.f
      have hl30 := hl30.mono S_
      have hl31 := hl31.mono S_
      have S25 := S25.trans S_
      obtain ⟨j45, y46, e47, c48, c49, e50, hk⟩ := wp_popI hk
      obtain ⟨w51, e52, r53⟩ := hl31.get e50
      refine ⟨_, _, _, _, _, rfl, rfl, (O44.at 1 rfl), c48, c49, (by rw [hl31.len]; exact e47), e52, ?_⟩
      obtain rfl := R.int_ r53
      have O55 := O44.set 1 (.lst (w28.eraseIdx j45)) rfl
      have hl56 : RL (a := Int) F38 (w28.eraseIdx j45) (st26.2.1.eraseIdx j45) := RL.erase j45 hl31
      obtain ⟨c57, hk⟩ := wp_appL hk
      refine ⟨_, _, _, rfl, rfl, (O55.at 0 rfl), (by rw [hl30.len]; exact c57), ?_⟩
      have O59 := O55.set 0 (.lst (w27 ++ [V.int y46])) rfl
      have hl60 : RL (a := Int) F38 (w27 ++ [V.int y46]) (st26.1 ++ [y46]) := RL.snoc hl30 R.int
      exact ⟨F38, ((st26.1 ++ [y46]), st26.2.1.eraseIdx j45, r36.2), (w27 ++ [V.int y46]), (w28.eraseIdx j45), w41, some (V.int y14), rfl, S25, O59, hl60, hl56, hl43, hk⟩
    rintro sg61 H62 ⟨F73, st64, w66, w67, w68, t72, rfl, S63, O74, hl69, hl70, hl71, hL65⟩
    rw [rangeL_end0] at hL65
    have hk := hLd19 _ hL65
    refine ⟨_, rfl, ?_⟩
    exact hk _ _ w68 O74.g (O74.at 2 rfl) hl71 _ _ z13 (O74.cf _ (List.mem_of_getElem? (i := 0) rfl)) (O74.at 0 rfl) hl69
abbrev s_law_tree : Stmt := top 21
theorem sc_law_tree : FnScope ["deck", "most", "far", "many", "order", "kind", "ties", "k", "at", "pair"] ["deck", "most", "far"] (defScope s_law_tree) := ⟨rfl, rfl, rfl, by decide +kernel, rfl, by decide +kernel, by decide +kernel⟩
def m_law_tree (x_deck : (List Int)) (x_most : Int) (x_far : Int) : M (((List Int) × (List (T3 Int Int Int))) × (List Int)) :=
m_law_take x_deck x_most >>= fun r1 =>
m_law_order r1.2 ((1 : Int) + r1.1) >>= fun r10 =>
m_law_take r10.2 (5 : Int) >>= fun r32 =>
chk (okR (1 : Int)) >>= fun _ =>
chk (okR ((1 : Int) + r1.1)) >>= fun _ =>
loopN (fun (y47 : Int) (st60 : (List Int) × (List (T3 Int Int Int))) =>
m_law_take st60.1 y47 >>= fun r70 =>
m_law_take r70.2 (3 : Int) >>= fun r79 =>
m_law_take r79.2 y47 >>= fun r88 =>
opt (atI ([r70.1, (y47 - (1 : Int)), (0 : Int), (if ((y47 - (1 : Int)) - r79.1) > (0 : Int) then ((y47 - (1 : Int)) - r79.1) else (0 : Int)), r88.1]) r32.1) >>= fun y110 =>
opt (atI r10.1 y47) >>= fun y120 =>
opt (atI r10.1 y110) >>= fun y130 =>
opt (atI (sortT ([y120, y130])) (0 : Int)) >>= fun y161 =>
opt (atI (sortT ([y120, y130])) (1 : Int)) >>= fun y171 =>
m_law_number r88.2 x_far >>= fun r176 =>
appL st60.2 (T3.mk y161 y171 r176.1) >>= fun _ =>
.ok (r176.2, (st60.2 ++ [(T3.mk y161 y171 r176.1)]))) (rangeL (1 : Int) ((1 : Int) + r1.1)) (r32.2, ([] : List (T3 Int Int Int))) >>= fun st199 =>
chk (okR ((1 : Int) + r1.1)) >>= fun _ =>
compS (fun (y210 : Int) (st228 : (List Int)) =>
m_law_number st228 x_far >>= fun r234 =>
.ok (some r234.1, r234.2)) (rangeL 0 ((1 : Int) + r1.1)) st199.1 >>= fun q256 =>
.ok ((q256.1, (sortT st199.2)), q256.2)
def sp_law_tree (mg : Str → Option Value) : Sp := fun vs H Q E => ∃ (F : Hp) (a_deck : Addr) (w_deck : (List V)) (x_deck : (List Int)) (x_most : Int) (x_far : Int), vs = [.ref a_deck, V.int x_most, V.int x_far] ∧ Pre F [(a_deck, .lst w_deck)] H ∧ RL (a := Int) F w_deck x_deck ∧
  wp (m_law_tree x_deck x_most x_far) (fun r => ∀ (F' H' : Hp) (w0 : (List V)), Gr [a_deck] F H F' H' → H' a_deck = some (.lst w0) → RL (a := Int) F' w0 r.2 → ∀ v : V, R (a := ((List Int) × (List (T3 Int Int Int)))) F' v r.1 → Q v H')
  (fun n => ∀ (C : Addr) (H' : Hp), mg (Str.ofString n) = some (.ref C) → Kp [a_deck] H H' → E (.ref C) none H')
set_option maxHeartbeats 2000000 in
theorem ok_law_tree (nb : Nb mg) (C_law_number : Ca P w K mg base "_law_number" 2 ["deck", "far"] (sp_law_number mg)) (C_law_order : Ca P w K mg base "_law_order" 2 ["deck", "many"] (sp_law_order mg)) (C_law_take : Ca P w K mg base "_law_take" 1 ["deck", "many"] (sp_law_take mg)) (D : Df K mg "_law_tree" "_law_tree" s_law_tree ["deck", "most", "far"]) : Ca P w K mg base "_law_tree" 3 ["deck", "most", "far"] (sp_law_tree mg) := by
  obtain ⟨fa_law_number, fd_law_number, G_law_number, M_law_number, K_law_number, B_law_number⟩ := C_law_number.ex
  obtain ⟨fa_law_order, fd_law_order, G_law_order, M_law_order, K_law_order, B_law_order⟩ := C_law_order.ex
  obtain ⟨fa_law_take, fd_law_take, G_law_take, M_law_take, K_law_take, B_law_take⟩ := C_law_take.ex
  refine Ca.mk' D sc_law_tree (fun vs H Q E h => ?_) (fun q_ f_ cdv A outer s H vs Q E hr h => ?_)
  · obtain ⟨F, _, _, _, _, _, rfl, _⟩ := h
    rfl
  · obtain ⟨F, a_deck, w_deck, x_deck, x_most, x_far, rfl, P0, f_deck, hk⟩ := h
    have nd := sc_law_tree.nd
    have hu64 := hr.units
    have hu128 := hu128_of hr
    have O := P0.start
    refine ⟨_, (pss_cons (ps_set (i := 3) nd rfl (Or.inl rfl) (pe_op op_add pe_int (pe_call G_law_take (hr.mono (by decide)) rfl M_law_take K_law_take B_law_take .nil (passes_call (takes_of rfl rfl rfl rfl) fun _ _ _ _ h => h) (pa_cons (pv 0) (pa_cons (pv 1) pa_nil)))))
  (pss_cons (ps_set (i := 4) nd rfl (Or.inl rfl) (pe_call G_law_order (hr.mono (by decide)) rfl M_law_order K_law_order B_law_order .nil (passes_call (takes_of rfl rfl rfl rfl) fun _ _ _ _ h => h) (pa_cons (pv 0) (pa_cons (pv 3) pa_nil))))
  (pss_cons (ps_set (i := 5) nd rfl (Or.inl rfl) (pe_call G_law_take (hr.mono (by decide)) rfl M_law_take K_law_take B_law_take .nil (passes_call (takes_of rfl rfl rfl rfl) fun _ _ _ _ h => h) (pa_cons (pv 0) (pa_cons pe_int pa_nil))))
  (pss_cons (ps_set (i := 6) nd rfl (Or.inl rfl) (pe_lst pa_nil))
  (pss_cons (ps_for (passes_of rfl) rfl (pi_range2 rfl nb.b_range (pa_cons pe_int (pa_cons (pv 3) pa_nil))) (pg_name (i := 7) nd rfl (Or.inl rfl)) (pss_cons (ps_set (i := 8) nd rfl (Or.inl rfl) (pe_ix (ixListK (K := K) rfl) (pe_lst (pa_cons (pe_call G_law_take (hr.mono (by decide)) rfl M_law_take K_law_take B_law_take .nil (passes_call (takes_of rfl rfl rfl rfl) fun _ _ _ _ h => h) (pa_cons (pv 0) (pa_cons (pv 7) pa_nil))) (pa_cons (pe_op op_sub (pv 7) pe_int) (pa_cons pe_int (pa_cons (pe_callB (call_max2 rfl) (by rfl) nb.b_max (by decide +kernel) (pa_cons pe_int (pa_cons (pe_op op_sub (pe_op op_sub (pv 7) pe_int) (pe_call G_law_take (hr.mono (by decide)) rfl M_law_take K_law_take B_law_take .nil (passes_call (takes_of rfl rfl rfl rfl) fun _ _ _ _ h => h) (pa_cons (pv 0) (pa_cons pe_int pa_nil)))) pa_nil))) (pa_cons (pe_call G_law_take (hr.mono (by decide)) rfl M_law_take K_law_take B_law_take .nil (passes_call (takes_of rfl rfl rfl rfl) fun _ _ _ _ h => h) (pa_cons (pv 0) (pa_cons (pv 7) pa_nil))) pa_nil)))))) (pv 5) (fun _ _ => rfl)))
  (pss_cons (ps_set (i := 9) nd rfl (Or.inl rfl) (pe_callB (cr_sortedT Int hu128) (by rfl) nb.b_sorted (by decide +kernel) (pa_cons (pe_lst (pa_cons (pe_ix (ixListK (K := K) rfl) (pv 4) (pv 7) (fun _ _ => rfl)) (pa_cons (pe_ix (ixListK (K := K) rfl) (pv 4) (pv 8) (fun _ _ => rfl)) pa_nil))) pa_nil)))
  (pss_one (ps_expr (bmK (K := K) rfl (pe_bm PySem.F.plainAttrs_list PySem.F.slot_list_append PySem.F.type_list_append mt_append (pv 6) (pa_cons (pe_tup (pa_cons (pe_ix (ixListK (K := K) rfl) (pv 9) pe_int (fun _ _ => rfl)) (pa_cons (pe_ix (ixListK (K := K) rfl) (pv 9) pe_int (fun _ _ => rfl)) (pa_cons (pe_call G_law_number (hr.mono (by decide)) rfl M_law_number K_law_number B_law_number .nil (passes_call (takes_of rfl rfl rfl rfl) fun _ _ _ _ h => h) (pa_cons (pv 0) (pa_cons (pv 2) pa_nil))) pa_nil)))) pa_nil))))))))
  (pss_one (ps_ret (pe_tup (pa_cons (pe_lc (own := [("k", 7)]) (g := gName 7) (tt := _) rfl nd (pi_range1 rfl nb.b_range (pa_cons (pv 3) pa_nil)) (blkOk_by (own := [("k", 7)]) (N := ["deck", "most", "far", "many", "order", "kind", "ties", "k", "at", "pair"]) (sc := defScope s_law_tree) (by decide +kernel)) (fun _ _ _ _ _ => (pg_name (i := 7) nd rfl (Or.inl rfl))) (fun _ _ _ _ _ => pts_nil) (fun _ _ _ _ _ => (pe_call G_law_number (hr.mono (by decide)) rfl M_law_number K_law_number B_law_number .nil passL (pa_cons (pv 0) (pa_cons (pv 2) pa_nil))))) (pa_cons (pe_callB (cr_sortedT (T3 Int Int Int) hu128) (by rfl) nb.b_sorted (by decide +kernel) (pa_cons (pv 6) pa_nil)) pa_nil)))))))))), ?_⟩
    refine ⟨_, rfl, _, rfl, _, _, _, _, _, rfl, (O.pre1 0 rfl), f_deck, wp_call hk (fun r1 er2 hk F3 H4 w6 g5 h7 hl8 => ?_) (fun n hn C H1 hC kp => hn C H1 hC (O.kp1 kp 0 rfl))⟩
    have O9 := O.call1 g5 0 rfl h7
    have S_ := g5.f
    refine ⟨_, _, rfl, rfl, _, rfl, _, rfl, _, _, _, _, _, rfl, (O9.pre1 0 rfl), hl8, wp_call hk (fun r10 er11 hk F12 H13 w15 g14 h16 hl17 p18 w19 hn20 hf21 h22 hl23 => ?_) (fun n hn C H1 hC kp => hn C H1 hC (O9.kp1 kp 0 rfl))⟩
    have O24 := O9.call1 g14 0 rfl h16
    have S_ := g14.f
    have O25 := O9.got O24 rfl hn20 hf21 h22
    have z26 := O9.was hn20
    obtain ⟨F27, O28, S29, h30⟩ := O25.frzE 0 rfl z26
    have hl17 := hl17.mono S29
    have hl23 := hl23.mono S29
    have h31 := R.lst (a := Int) h30 hl23
    refine ⟨_, rfl, _, _, _, _, _, rfl, (O28.pre1 0 rfl), hl17, wp_call hk (fun r32 er33 hk F34 H35 w37 g36 h38 hl39 => ?_) (fun n hn C H1 hC kp => hn C H1 hC (O28.kp1 kp 0 rfl))⟩
    have O40 := O28.call1 g36 0 rfl h38
    have S_ := g36.f
    have h31 := h31.mono S_
    refine ⟨(by show 0 ≤ sizeLine; decide), fun p42 hp43 => ?_⟩
    have hl45 : RL (a := (T3 Int Int Int)) F34 ([]) ([] : List (T3 Int Int Int)) := RL.nil
    have z46 := O40.was hp43
    have O44 := O40.new (o := .lst ([])) hp43
    obtain ⟨c48, hk⟩ := wp_chk hk
    obtain ⟨c49, hk⟩ := wp_chk hk
    obtain ⟨L50, hL51, hLs52, hLd53⟩ := loopN_L hk
    refine ⟨_, rfl, _, _, rfl, ⟨c48.lo, c48.hi, c49.lo, c49.hi⟩, ?_⟩
    refine for_range (lo := (1 : Int)) (n := (((1 : Int) + r1.1) - (1 : Int)).toNat) (fun i σ H => ∃ (F_ : Hp) (st : (List Int) × (List (T3 Int Int Int))) (w_0 : (List V)) (w_1 : (List V)) (t_0 : Option V) (t_1 : Option V) (t_2 : Option V), σ = [some (V.ref a_deck), some (V.int x_most), some (V.int x_far), some (V.int ((1 : Int) + r1.1)), some (V.ref p18), some (V.int r32.1), some (V.ref p42), t_0, t_1, t_2] ∧ Same F34 F_ ∧ Ow _ F_ [(p42, .lst w_1), (a_deck, .lst w_0)] H ∧ RL (a := Int) F_ w_0 st.1 ∧ RL (a := (T3 Int Int Int)) F_ w_1 st.2 ∧ L50 (List.drop i (rangeL (1 : Int) ((1 : Int) + r1.1))) st) ⟨F34, (r32.2, ([] : List (T3 Int Int Int))), w37, [], none, none, none, rfl, Same.refl _, O44, hl39, hl45, hL51⟩ ?_ ?_
    · rintro i54 sg56 H57 hi58 ⟨F68, st60, w61, w62, t65, t66, t67, rfl, S59, O69, hl63, hl64, hL51⟩
      have h31 := h31.mono S59
      rw [rangeL_get hi58] at hL51
      have hk := hLs52 _ _ _ hL51
      obtain ⟨y47, he_⟩ : ∃ z_, z_ = (1 : Int) + (i54 : Int) := ⟨_, rfl⟩
      try rw [← he_] at hk
      rw [← he_]
      refine ⟨_, rfl, _, rfl, _, _, _, _, _, rfl, (O69.pre1 1 rfl), hl63, wp_call hk (fun r70 er71 hk F72 H73 w75 g74 h76 hl77 => ?_) (fun n hn C H1 hC kp => hn C H1 hC (O69.kp1 kp 1 rfl))⟩
      have O78 := O69.call1 g74 1 rfl h76
      have S_ := g74.f
      have h31 := h31.mono S_
      have hl64 := hl64.mono S_
      have S59 := S59.trans S_
      refine ⟨_, rfl, _, _, rfl, rfl, _, rfl, _, _, rfl, rfl, _, rfl, _, _, _, _, _, rfl, (O78.pre1 1 rfl), hl77, wp_call hk (fun r79 er80 hk F81 H82 w84 g83 h85 hl86 => ?_) (fun n hn C H1 hC kp => hn C H1 hC (O78.kp1 kp 1 rfl))⟩
      have O87 := O78.call1 g83 1 rfl h85
      have S_ := g83.f
      have h31 := h31.mono S_
      have hl64 := hl64.mono S_
      have S59 := S59.trans S_
      refine ⟨_, _, rfl, rfl, _, _, rfl, _, rfl, _, rfl, _, _, _, _, _, rfl, (O87.pre1 1 rfl), hl86, wp_call hk (fun r88 er89 hk F90 H91 w93 g92 h94 hl95 => ?_) (fun n hn C H1 hC kp => hn C H1 hC (O87.kp1 kp 1 rfl))⟩
      have O96 := O87.call1 g92 1 rfl h94
      have S_ := g92.f
      have h31 := h31.mono S_
      have hl64 := hl64.mono S_
      have S59 := S59.trans S_
      refine ⟨(by show 5 ≤ sizeLine; decide), fun p97 hp98 => ?_⟩
      have hl104 : RL (a := Int) F90 ([V.int r70.1, V.int (y47 - (1 : Int)), V.int (0 : Int), V.int (if ((y47 - (1 : Int)) - r79.1) > (0 : Int) then ((y47 - (1 : Int)) - r79.1) else (0 : Int)), V.int r88.1]) ([r70.1, (y47 - (1 : Int)), (0 : Int), (if ((y47 - (1 : Int)) - r79.1) > (0 : Int) then ((y47 - (1 : Int)) - r79.1) else (0 : Int)), r88.1]) := RL.cons R.int (RL.cons R.int (RL.cons R.int (RL.cons R.int (RL.cons R.int RL.nil))))
      obtain ⟨F99, O100, S101, h102⟩ := O96.putE hp98 (.lst ([V.int r70.1, V.int (y47 - (1 : Int)), V.int (0 : Int), V.int (if ((y47 - (1 : Int)) - r79.1) > (0 : Int) then ((y47 - (1 : Int)) - r79.1) else (0 : Int)), V.int r88.1]))
      have h31 := h31.mono S101
      have hl64 := hl64.mono S101
      have S59 := S59.trans S101
      have hl95 := hl95.mono S101
      have hl104 := hl104.mono S101
      have h103 := R.lst (a := Int) h102 hl104
      obtain ⟨p105, w106, e107, h108, hl109⟩ := R.lst_ h103
      cases e107
      obtain ⟨y110, e111, hk⟩ := wp_opt hk
      obtain ⟨w112, e113, r114⟩ := hl109.atI e111
      obtain rfl := R.int_ r114
      obtain ⟨p115, w116, e117, h118, hl119⟩ := R.lst_ h31
      cases e117
      obtain ⟨y120, e121, hk⟩ := wp_opt hk
      obtain ⟨w122, e123, r124⟩ := hl119.atI e121
      obtain rfl := R.int_ r124
      obtain ⟨p125, w126, e127, h128, hl129⟩ := R.lst_ h31
      cases e127
      obtain ⟨y130, e131, hk⟩ := wp_opt hk
      obtain ⟨w132, e133, r134⟩ := hl129.atI e131
      obtain rfl := R.int_ r134
      refine ⟨_, rfl, _, _, _, _, rfl, rfl, (SqLF O100.s h108), e113, _, rfl, _, rfl, _, _, _, _, rfl, rfl, (SqLF O100.s h118), e123, _, rfl, _, rfl, _, _, _, _, rfl, rfl, (SqLF O100.s h128), e133, (by show 2 ≤ sizeLine; decide), fun p135 hp136 => ?_⟩
      have hl142 : RL (a := Int) F99 ([V.int y120, V.int y130]) ([y120, y130]) := RL.cons R.int (RL.cons R.int RL.nil)
      obtain ⟨F137, O138, S139, h140⟩ := O100.putE hp136 (.lst ([V.int y120, V.int y130]))
      have h31 := h31.mono S139
      have hl64 := hl64.mono S139
      have S59 := S59.trans S139
      have hl95 := hl95.mono S139
      have h103 := h103.mono S139
      have h108 := S139 _ _ h108
      have hl109 := hl109.mono S139
      have h118 := S139 _ _ h118
      have hl119 := hl119.mono S139
      have h128 := S139 _ _ h128
      have hl129 := hl129.mono S139
      have hl142 := hl142.mono S139
      have h141 := R.lst (a := Int) h140 hl142
      obtain ⟨p143, w144, e145, h146, hl147⟩ := R.lst_ h141
      cases e145
      refine ⟨_, _, _, rfl, (O138.s _ _ h146), (RL.mono hl147 O138.s), fun p148 hp149 => ?_⟩
      have hl155 : RL (a := Int) F137 (sortV w144 ([y120, y130])) (sortT ([y120, y130])) := (RL.sorted hl147)
      obtain ⟨F150, O151, S152, h153⟩ := O138.putE hp149 (.lst (sortV w144 ([y120, y130])))
      have h31 := h31.mono S152
      have hl64 := hl64.mono S152
      have S59 := S59.trans S152
      have hl95 := hl95.mono S152
      have h103 := h103.mono S152
      have h108 := S152 _ _ h108
      have hl109 := hl109.mono S152
      have h118 := S152 _ _ h118
      have hl119 := hl119.mono S152
      have h128 := S152 _ _ h128
      have hl129 := hl129.mono S152
      have h141 := h141.mono S152
      have h146 := S152 _ _ h146
      have hl147 := hl147.mono S152
      have hl155 := hl155.mono S152
      have h154 := R.lst (a := Int) h153 hl155
      obtain ⟨p156, w157, e158, h159, hl160⟩ := R.lst_ h154
      cases e158
      obtain ⟨y161, e162, hk⟩ := wp_opt hk
      obtain ⟨w163, e164, r165⟩ := hl160.atI e162
      obtain rfl := R.int_ r165
      obtain ⟨p166, w167, e168, h169, hl170⟩ := R.lst_ h154
      cases e168
      obtain ⟨y171, e172, hk⟩ := wp_opt hk
      obtain ⟨w173, e174, r175⟩ := hl170.atI e172
      obtain rfl := R.int_ r175
      refine ⟨_, rfl, (.inl ⟨rfl, _, SqL.of (O151.at 0 rfl)⟩), _, rfl, _, _, _, _, rfl, rfl, (SqLF O151.s h159), e164, _, rfl, _, _, _, _, rfl, rfl, (SqLF O151.s h169), e174, _, rfl, _, rfl, _, _, _, _, _, rfl, (O151.pre1 1 rfl), hl95, wp_call hk (fun r176 er177 hk F178 H179 w181 g180 h182 hl183 => ?_) (fun n hn C H1 hC kp => hn C H1 hC (O151.kp1 kp 1 rfl))⟩
      have O184 := O151.call1 g180 1 rfl h182
      have S_ := g180.f
      have h31 := h31.mono S_
      have hl64 := hl64.mono S_
      have S59 := S59.trans S_
      have h103 := h103.mono S_
      have h108 := S_ _ _ h108
      have hl109 := hl109.mono S_
      have h118 := S_ _ _ h118
      have hl119 := hl119.mono S_
      have h128 := S_ _ _ h128
      have hl129 := hl129.mono S_
      have h141 := h141.mono S_
      have h146 := S_ _ _ h146
      have hl147 := hl147.mono S_
      have h154 := h154.mono S_
      have h159 := S_ _ _ h159
      have hl160 := hl160.mono S_
      have h169 := S_ _ _ h169
      have hl170 := hl170.mono S_
      refine ⟨(by show 3 ≤ sizeLine; decide), fun p185 hp186 => ?_⟩
      obtain ⟨F187, O188, S189, h190⟩ := O184.putE hp186 (.tup [V.int y161, V.int y171, V.int r176.1])
      have h31 := h31.mono S189
      have hl64 := hl64.mono S189
      have S59 := S59.trans S189
      have h103 := h103.mono S189
      have h108 := S189 _ _ h108
      have hl109 := hl109.mono S189
      have h118 := S189 _ _ h118
      have hl119 := hl119.mono S189
      have h128 := S189 _ _ h128
      have hl129 := hl129.mono S189
      have h141 := h141.mono S189
      have h146 := S189 _ _ h146
      have hl147 := hl147.mono S189
      have h154 := h154.mono S189
      have h159 := S189 _ _ h159
      have hl160 := hl160.mono S189
      have h169 := S189 _ _ h169
      have hl170 := hl170.mono S189
      have hl183 := hl183.mono S189
      have h191 : R (a := (T3 Int Int Int)) F187 (.ref p185) (T3.mk y161 y171 r176.1) := R.t3 h190 R.int R.int R.int
      obtain ⟨c192, hk⟩ := wp_appL hk
      refine ⟨_, _, _, rfl, rfl, (O188.at 0 rfl), (by rw [hl64.len]; exact c192), ?_⟩
      have O194 := O188.set 0 (.lst (w62 ++ [V.ref p185])) rfl
      have hl195 : RL (a := (T3 Int Int Int)) F187 (w62 ++ [V.ref p185]) (st60.2 ++ [(T3.mk y161 y171 r176.1)]) := RL.snoc hl64 h191
      exact ⟨F187, (r176.2, (st60.2 ++ [(T3.mk y161 y171 r176.1)])), w181, (w62 ++ [V.ref p185]), some (V.int y47), some (V.int y110), some (V.ref p148), rfl, S59, O194, hl183, hl195, hk⟩
    rintro sg196 H197 ⟨F208, st199, w201, w202, t205, t206, t207, rfl, S198, O209, hl203, hl204, hL200⟩
    rw [rangeL_end] at hL200
    have hk := hLd53 _ hL200
    have h31 := h31.mono S198
    obtain ⟨c211, hk⟩ := wp_chk hk
    obtain ⟨c216, L212, hL213, hLs214, hLd215⟩ := compS_L hk
    refine ⟨_, rfl, _, rfl, c211.lo, c211.hi, fun p217 hp218 => ?_⟩
    have z243 := O209.was hp218
    refine lc_range (lo := 0) (n := (((1 : Int) + r1.1)).toNat) (fun i H => ∃ (F_ : Hp) (st : (List Int)) (acc : List Int) (wa : List V) (w_0 : (List V)), Same F208 F_ ∧ Ow _ F_ [(p217, .lst wa), (p42, .lst w202), (a_deck, .lst w_0)] H ∧ RL F_ wa acc ∧ RL (a := Int) F_ w_0 st ∧ wa.length ≤ i ∧ L212 (List.drop i (rangeL 0 ((1 : Int) + r1.1))) acc st) ⟨F208, st199.1, [], [], w201, Same.refl _, O209.new hp218, RL.nil, hl203, Nat.zero_le _, hL213⟩ ?_ ?_
    · rintro i219 H221 hi222 ⟨F227, st228, acc224, wa225, w230, S229, O233, hl232, hl231, la226, hL213⟩
      have h31 := h31.mono S229
      have hl204 := hl204.mono S229
      rw [rangeL_get0 hi222] at hL213
      have hk := hLs214 _ _ _ _ hL213
      obtain ⟨y210, he_⟩ : ∃ z_, z_ = 0 + (i219 : Int) := ⟨_, rfl⟩
      try rw [← he_] at hk
      rw [← he_]
      refine ⟨rfl, ?_⟩
      refine ⟨_, rfl, _, rfl, _, _, _, _, _, rfl, (O233.pre1 2 rfl), hl231, wp_call hk (fun r234 er235 hk F236 H237 w239 g238 h240 hl241 => ?_) (fun n hn => hn.elim)⟩
      have O242 := O233.call1 g238 2 rfl h240
      have S_ := g238.f
      have h31 := h31.mono S_
      have hl204 := hl204.mono S_
      have S229 := S229.trans S_
      have hl232 := hl232.mono S_
      refine ⟨_, (O242.at 0 rfl), (comp_lenR la226 hi222 (by rw [Int.sub_zero]) c216), ?_⟩
      exact ⟨F236, r234.2, acc224 ++ [r234.1], wa225 ++ [V.int r234.1], w239, S229, O242.set 0 (.lst (wa225 ++ [V.int r234.1])) rfl, RL.snoc hl232 R.int, hl241, by rw [List.length_append]; exact Nat.succ_le_succ la226, hk⟩
    rintro H244 ⟨F245, st246, acc247, wa248, w254, S249, O250, hl251, hl255, la252, hL253⟩
    rw [rangeL_end0] at hL253
    have hk := hLd215 _ _ hL253
    have h31 := h31.mono S249
    have hl204 := hl204.mono S249
    obtain ⟨F257, O258, S259, h260⟩ := O250.frzE 0 rfl z243
    have h31 := h31.mono S259
    have hl204 := hl204.mono S259
    have hl255 := hl255.mono S259
    have hl251 := hl251.mono S259
    have h261 := R.lst (a := Int) h260 hl251
    refine ⟨_, rfl, _, _, _, rfl, (O258.at 0 rfl), (RL.mono hl204 O258.s), fun p262 hp263 => ?_⟩
    have hl269 : RL (a := (T3 Int Int Int)) F257 (sortV w202 st199.2) (sortT st199.2) := (RL.sorted hl204)
    obtain ⟨F264, O265, S266, h267⟩ := O258.putE hp263 (.lst (sortV w202 st199.2))
    have h31 := h31.mono S266
    have hl204 := hl204.mono S266
    have hl255 := hl255.mono S266
    have h261 := h261.mono S266
    have hl269 := hl269.mono S266
    have h268 := R.lst (a := (T3 Int Int Int)) h267 hl269
    refine ⟨(by show 2 ≤ sizeLine; decide), fun p270 hp271 => ?_⟩
    obtain ⟨F272, O273, S274, h275⟩ := O265.putE hp271 (.tup [V.ref p217, V.ref p262])
    have h31 := h31.mono S274
    have hl204 := hl204.mono S274
    have hl255 := hl255.mono S274
    have h261 := h261.mono S274
    have h268 := h268.mono S274
    have h276 : R (a := ((List Int) × (List (T3 Int Int Int)))) F272 (.ref p270) (acc247, (sortT st199.2)) := R.t2 h275 h261 h268
    exact hk _ _ w254 O273.g (O273.at 1 rfl) hl255 _ h276
abbrev s_law_ways_right : Stmt := top 23
theorem sc_law_ways_right : FnScope ["tree", "one", "other", "last", "place", "places", "length", "more", "far", "whole", "whole_length"] ["tree", "one", "other", "last"] (defScope s_law_ways_right) := ⟨rfl, rfl, rfl, by decide +kernel, rfl, by decide +kernel, by decide +kernel⟩
def m_law_ways_right (x_tree : ((List Int) × (List (T3 Int Int Int)))) (x_one : Int) (x_other : Int) (x_last : Int) : M (Bool) :=
m_way_between x_tree x_one x_other >>= fun r1 =>
m_way_between x_tree x_other x_one >>= fun r19 =>
if (r19.1, r19.2) ≠ ((r1.1.reverse), r1.2) then (
.ok false)
else (
m_way_between x_tree x_other x_last >>= fun r53 =>
m_way_between x_tree x_one x_last >>= fun r71 =>
if x_other ∈ r71.1 then (
chk (r1.1.length + (cutL r53.1 (some (1 : Int)) none).length < 16777216) >>= fun _ =>
if r71.1 ≠ (r1.1 ++ (cutL r53.1 (some (1 : Int)) none)) then (
.ok false)
else (
if r71.2 ≠ (r1.2 + r53.2) then (
.ok false)
else (
if x_other ∉ r71.1 then (
if (((r1.1.length : Int) + (r53.1.length : Int)) - (1 : Int)) ≤ (r71.1.length : Int) then (
.ok false)
else (
m_tied_to x_tree x_one >>= fun r116 =>
loopM (fun (y140 : Int) (st151 : Unit) =>
m_way_between x_tree x_one y140 >>= fun r157 =>
if r157.1 ≠ ([x_one, y140]) then (
.ok (.rt false))
else (
m_tied_to x_tree y140 >>= fun r184 =>
if x_one ∉ r184 then (
.ok (.rt false))
else (
.ok (.nx ())))) r116 () >>= fun f218 => match f218 with
| .rt z_ => .ok z_
| .nx st213 =>
m_way_between x_tree x_one x_one >>= fun r219 =>
.ok (decide ((r219.1, r219.2) = ([x_one], (0 : Int))))))
else (
m_tied_to x_tree x_one >>= fun r252 =>
loopM (fun (y276 : Int) (st287 : Unit) =>
m_way_between x_tree x_one y276 >>= fun r293 =>
if r293.1 ≠ ([x_one, y276]) then (
.ok (.rt false))
else (
m_tied_to x_tree y276 >>= fun r320 =>
if x_one ∉ r320 then (
.ok (.rt false))
else (
.ok (.nx ())))) r252 () >>= fun f354 => match f354 with
| .rt z_ => .ok z_
| .nx st349 =>
m_way_between x_tree x_one x_one >>= fun r355 =>
.ok (decide ((r355.1, r355.2) = ([x_one], (0 : Int))))))))
else (
if x_other ∉ r71.1 then (
if (((r1.1.length : Int) + (r53.1.length : Int)) - (1 : Int)) ≤ (r71.1.length : Int) then (
.ok false)
else (
m_tied_to x_tree x_one >>= fun r390 =>
loopM (fun (y414 : Int) (st425 : Unit) =>
m_way_between x_tree x_one y414 >>= fun r431 =>
if r431.1 ≠ ([x_one, y414]) then (
.ok (.rt false))
else (
m_tied_to x_tree y414 >>= fun r458 =>
if x_one ∉ r458 then (
.ok (.rt false))
else (
.ok (.nx ())))) r390 () >>= fun f492 => match f492 with
| .rt z_ => .ok z_
| .nx st487 =>
m_way_between x_tree x_one x_one >>= fun r493 =>
.ok (decide ((r493.1, r493.2) = ([x_one], (0 : Int))))))
else (
m_tied_to x_tree x_one >>= fun r526 =>
loopM (fun (y550 : Int) (st561 : Unit) =>
m_way_between x_tree x_one y550 >>= fun r567 =>
if r567.1 ≠ ([x_one, y550]) then (
.ok (.rt false))
else (
m_tied_to x_tree y550 >>= fun r594 =>
if x_one ∉ r594 then (
.ok (.rt false))
else (
.ok (.nx ())))) r526 () >>= fun f628 => match f628 with
| .rt z_ => .ok z_
| .nx st623 =>
m_way_between x_tree x_one x_one >>= fun r629 =>
.ok (decide ((r629.1, r629.2) = ([x_one], (0 : Int)))))))
def sp_law_ways_right (mg : Str → Option Value) : Sp := fun vs H Q E => ∃ (F : Hp) (v_tree : V) (x_tree : ((List Int) × (List (T3 Int Int Int)))) (x_one : Int) (x_other : Int) (x_last : Int), vs = [v_tree, V.int x_one, V.int x_other, V.int x_last] ∧ Pre F [] H ∧ R (a := ((List Int) × (List (T3 Int Int Int)))) F v_tree x_tree ∧
  wp (m_law_ways_right x_tree x_one x_other x_last) (fun r => ∀ (F' H' : Hp), Gr [] F H F' H' → Q (V.bl r) H')
  (fun n => ∀ (C : Addr) (H' : Hp), mg (Str.ofString n) = some (.ref C) → Kp [] H H' → E (.ref C) none H')
set_option maxHeartbeats 2000000 in
theorem ok_law_ways_right (nb : Nb mg) (C_tied_to : Ca P w K mg base "tied_to" 2 ["tree", "place"] (sp_tied_to mg)) (C_way_between : Ca P w K mg base "way_between" 2 ["tree", "one", "other"] (sp_way_between mg)) (D : Df K mg "_law_ways_right" "_law_ways_right" s_law_ways_right ["tree", "one", "other", "last"]) : Ca P w K mg base "_law_ways_right" 3 ["tree", "one", "other", "last"] (sp_law_ways_right mg) := by
  obtain ⟨fa_tied_to, fd_tied_to, G_tied_to, M_tied_to, K_tied_to, B_tied_to⟩ := C_tied_to.ex
  obtain ⟨fa_way_between, fd_way_between, G_way_between, M_way_between, K_way_between, B_way_between⟩ := C_way_between.ex
  refine Ca.mk' D sc_law_ways_right (fun vs H Q E h => ?_) (fun q_ f_ cdv A outer s H vs Q E hr h => ?_)
  · obtain ⟨F, _, _, _, _, _, rfl, _⟩ := h
    rfl
  · obtain ⟨F, v_tree, x_tree, x_one, x_other, x_last, rfl, P0, f_tree, hk⟩ := h
    have nd := sc_law_ways_right.nd
    have hu64 := hr.units
    have hu128 := hu128_of hr
    have O := P0.start
    refine ⟨_, (pss_cons (ps_asg (pe_call G_way_between (hr.mono (by decide)) rfl M_way_between K_way_between B_way_between .nil (passes_call (takes_of rfl rfl rfl rfl) fun _ _ _ _ h => h) (pa_cons (pv 0) (pa_cons (pv 1) (pa_cons (pv 2) pa_nil)))) (pg_tup rfl (pgs_cons (pg_name (i := 5) nd rfl (Or.inl rfl)) (pgs_cons (pg_name (i := 6) nd rfl (Or.inl rfl)) pgs_nil))))
  (pss_cons (ps_if (pt_cmpR (op_neT ((List Int) × Int) hu64) (pe_call G_way_between (hr.mono (by decide)) rfl M_way_between K_way_between B_way_between .nil (passes_call (takes_of rfl rfl rfl rfl) fun _ _ _ _ h => h) (pa_cons (pv 0) (pa_cons (pv 2) (pa_cons (pv 1) pa_nil)))) (pe_tup (pa_cons (pe_revLK (K := K) rfl (pv 5)) (pa_cons (pv 6) pa_nil))) (nomark _)) (pss_one (ps_ret pe_bl)) pss_nil)
  (pss_cons (ps_asg (pe_call G_way_between (hr.mono (by decide)) rfl M_way_between K_way_between B_way_between .nil (passes_call (takes_of rfl rfl rfl rfl) fun _ _ _ _ h => h) (pa_cons (pv 0) (pa_cons (pv 2) (pa_cons (pv 3) pa_nil)))) (pg_tup rfl (pgs_cons (pg_name (i := 7) nd rfl (Or.inl rfl)) (pgs_cons (pg_name (i := 8) nd rfl (Or.inl rfl)) pgs_nil))))
  (pss_cons (ps_asg (pe_call G_way_between (hr.mono (by decide)) rfl M_way_between K_way_between B_way_between .nil (passes_call (takes_of rfl rfl rfl rfl) fun _ _ _ _ h => h) (pa_cons (pv 0) (pa_cons (pv 1) (pa_cons (pv 3) pa_nil)))) (pg_tup rfl (pgs_cons (pg_name (i := 9) nd rfl (Or.inl rfl)) (pgs_cons (pg_name (i := 10) nd rfl (Or.inl rfl)) pgs_nil))))
  (pss_cons (ps_if (PW.pt (pw_and (pt_cmpR (op_inT Int hu64) (pv 2) (pv 9) rfl) (pw_and1 (PW.pt (pw_or (pt_cmpR (op_neT (List Int) hu64) (pv 9) (pe_op op_cat (pv 5) (pe_slice (slListK (K := K) rfl) (pv 7) (po_some pe_int) po_none)) (nomark _)) (pw_or1 (pt_cmpR (op_neT Int hu64) (pv 10) (pe_op op_add (pv 6) (pv 8)) (nomark _)))))))) (pss_one (ps_ret pe_bl)) pss_nil)
  (pss_cons (ps_if (PW.pt (pw_and (pt_cmpR (op_ninT Int hu64) (pv 2) (pv 9) rfl) (pw_and1 (pt_cmpR op_ge (pe_callB call_lenT (by rfl) nb.b_len PySem.boot_len (pa_cons (pv 9) pa_nil)) (pe_op op_sub (pe_op op_add (pe_callB call_lenT (by rfl) nb.b_len PySem.boot_len (pa_cons (pv 5) pa_nil)) (pe_callB call_lenT (by rfl) nb.b_len PySem.boot_len (pa_cons (pv 7) pa_nil))) pe_int) (nomark _))))) (pss_one (ps_ret pe_bl)) pss_nil)
  (pss_cons (ps_for (passes_of rfl) rfl (piListK (K := K) rfl (pe_call G_tied_to (hr.mono (by decide)) rfl M_tied_to K_tied_to B_tied_to .nil (passes_call (takes_of rfl rfl rfl rfl) fun _ _ _ _ h => h) (pa_cons (pv 0) (pa_cons (pv 1) pa_nil)))) (pg_name (i := 4) nd rfl (Or.inl rfl)) (pss_one (ps_if (PW.pt (pw_or (pt_cmpR (op_neT (List Int) hu64) (pe_ix (ixTupK (K := K) rfl) (pe_call G_way_between (hr.mono (by decide)) rfl M_way_between K_way_between B_way_between .nil (passes_call (takes_of rfl rfl rfl rfl) fun _ _ _ _ h => h) (pa_cons (pv 0) (pa_cons (pv 1) (pa_cons (pv 4) pa_nil)))) pe_int (fun _ _ => rfl)) (pe_lst (pa_cons (pv 1) (pa_cons (pv 4) pa_nil))) (nomark _)) (pw_or1 (pt_cmpR (op_ninT Int hu64) (pv 1) (pe_call G_tied_to (hr.mono (by decide)) rfl M_tied_to K_tied_to B_tied_to .nil (passes_call (takes_of rfl rfl rfl rfl) fun _ _ _ _ h => h) (pa_cons (pv 0) (pa_cons (pv 4) pa_nil))) rfl)))) (pss_one (ps_ret pe_bl)) pss_nil)))
  (pss_one (ps_ret (pe_cmpR (op_eqT ((List Int) × Int) hu64) (pe_call G_way_between (hr.mono (by decide)) rfl M_way_between K_way_between B_way_between .nil (passes_call (takes_of rfl rfl rfl rfl) fun _ _ _ _ h => h) (pa_cons (pv 0) (pa_cons (pv 1) (pa_cons (pv 1) pa_nil)))) (pe_tup (pa_cons (pe_lst (pa_cons (pv 1) pa_nil)) (pa_cons pe_int pa_nil))) (nomark _))))))))))), ?_⟩
    refine ⟨_, rfl, _, rfl, _, rfl, _, _, _, _, _, rfl, O.pre0, f_tree, wp_call hk (fun r1 er2 hk F3 H4 g5 p6 p7 w8 hn9 hf10 h11 hl12 h14 => ?_) (fun n hn C H1 hC kp => hn C H1 hC (O.kp0 kp))⟩
    have O15 := O.call0 g5
    have S_ := g5.f
    have f_tree := f_tree.mono S_
    have z17 := O.was hn9
    have O16 := O15.add' (O.fresh hn9) z17 hf10 h11
    refine ⟨_, _, rfl, (SqTF O16.s h14), rfl, _, _, rfl, _, _, rfl, rfl, _, rfl, _, rfl, _, rfl, _, _, _, _, _, rfl, O16.pre0, f_tree, wp_call hk (fun r19 er20 hk F21 H22 g23 p24 p25 w26 hn27 hf28 h29 hl30 h32 => ?_) (fun n hn C H1 hC kp => hn C H1 hC (O16.kp0 kp))⟩
    have O33 := O16.call0 g23
    have S_ := g23.f
    have f_tree := f_tree.mono S_
    have hl12 := hl12.mono S_
    have h14 := S_ _ _ h14
    have z35 := O16.was hn27
    have O34 := O33.add' (O16.fresh hn27) z35 hf28 h29
    refine ⟨_, rfl, _, _, rfl, (SqL.of (O34.at 1 rfl)), fun p37 hp38 => ?_⟩
    have hl44 : RL (a := Int) F21 w8.reverse (r1.1.reverse) := RL.rev hl12
    obtain ⟨F39, O40, S41, h42⟩ := O34.putE hp38 (.lst w8.reverse)
    have f_tree := f_tree.mono S41
    have hl12 := hl12.mono S41
    have h14 := S41 _ _ h14
    have hl30 := hl30.mono S41
    have h32 := S41 _ _ h32
    have hl44 := hl44.mono S41
    have h43 := R.lst (a := Int) h42 hl44
    refine ⟨_, rfl, (by show 2 ≤ sizeLine; decide), fun p45 hp46 => ?_⟩
    obtain ⟨F47, O48, S49, h50⟩ := O40.putE hp46 (.tup [V.ref p37, V.int r1.2])
    have f_tree := f_tree.mono S49
    have hl12 := hl12.mono S49
    have h14 := S49 _ _ h14
    have hl30 := hl30.mono S49
    have h32 := S49 _ _ h32
    have h43 := h43.mono S49
    have h51 : R (a := ((List Int) × Int)) F47 (.ref p45) ((r1.1.reverse), r1.2) := R.t2 h50 h43 R.int
    refine ⟨_, _, (R.t2 (x := ((r19.1, r19.2) : ((List Int) × Int))) (O48.s _ _ h32) (R.lst (a := Int) (O48.at 0 rfl) (hl30.mono O48.s)) R.int), (R.mono h51 O48.s), _, rfl, ?_⟩
    refine iteD (fun q52 => ?_) (fun q52 => ?_)
    · have hk := wp_if hk q52
      exact hk _ _  O48.g 
    · have hk := wp_el hk q52
      refine ⟨_, rfl, _, rfl, _, rfl, _, _, _, _, _, rfl, O48.pre0, f_tree, wp_call hk (fun r53 er54 hk F55 H56 g57 p58 p59 w60 hn61 hf62 h63 hl64 h66 => ?_) (fun n hn C H1 hC kp => hn C H1 hC (O48.kp0 kp))⟩
      have O67 := O48.call0 g57
      have S_ := g57.f
      have f_tree := f_tree.mono S_
      have hl12 := hl12.mono S_
      have h14 := S_ _ _ h14
      have hl30 := hl30.mono S_
      have h32 := S_ _ _ h32
      have h43 := h43.mono S_
      have h51 := h51.mono S_
      have z69 := O48.was hn61
      have O68 := O67.add' (O48.fresh hn61) z69 hf62 h63
      refine ⟨_, _, rfl, (SqTF O68.s h66), rfl, _, _, rfl, _, _, rfl, rfl, _, rfl, _, rfl, _, rfl, _, _, _, _, _, rfl, O68.pre0, f_tree, wp_call hk (fun r71 er72 hk F73 H74 g75 p76 p77 w78 hn79 hf80 h81 hl82 h84 => ?_) (fun n hn C H1 hC kp => hn C H1 hC (O68.kp0 kp))⟩
      have O85 := O68.call0 g75
      have S_ := g75.f
      have f_tree := f_tree.mono S_
      have hl12 := hl12.mono S_
      have h14 := S_ _ _ h14
      have hl30 := hl30.mono S_
      have h32 := S_ _ _ h32
      have h43 := h43.mono S_
      have h51 := h51.mono S_
      have hl64 := hl64.mono S_
      have h66 := S_ _ _ h66
      have z87 := O68.was hn79
      have O86 := O85.add' (O68.fresh hn79) z87 hf80 h81
      refine ⟨_, _, rfl, (SqTF O86.s h84), rfl, _, _, rfl, _, _, rfl, rfl, _, rfl, _, rfl, _, _, _, _, R.int, rfl, (.inl (O86.at 0 rfl)), (RL.mono (hl82) O86.s), _, rfl, ?_⟩
      refine iteD (fun q89 => ?_) (fun q89 => ?_)
      · have hk := wp_if hk q89
        refine ⟨_, rfl, _, rfl, _, rfl, _, rfl, _, _, rfl, (SqL.of (O86.at 1 rfl)), fun p90 hp91 => ?_⟩
        have hl97 : RL (a := Int) F73 (cutV w60 (some (1 : Int)) none) (cutL r53.1 (some (1 : Int)) none) := RL.cutL hl64 (some (1 : Int)) none
        obtain ⟨F92, O93, S94, h95⟩ := O86.putE hp91 (.lst (cutV w60 (some (1 : Int)) none))
        have f_tree := f_tree.mono S94
        have hl12 := hl12.mono S94
        have h14 := S94 _ _ h14
        have hl30 := hl30.mono S94
        have h32 := S94 _ _ h32
        have h43 := h43.mono S94
        have h51 := h51.mono S94
        have hl64 := hl64.mono S94
        have h66 := S94 _ _ h66
        have hl82 := hl82.mono S94
        have h84 := S94 _ _ h84
        have hl97 := hl97.mono S94
        have h96 := R.lst (a := Int) h95 hl97
        obtain ⟨p98, w99, e100, h101, hl102⟩ := R.lst_ h96
        cases e100
        obtain ⟨c103, hk⟩ := wp_chk hk
        refine ⟨_, _, _, _, rfl, rfl, (O93.at 3 rfl), (O93.s _ _ h101), (by rw [hl12.len, hl102.len]; exact le_line c103), fun p104 hp105 => ?_⟩
        have hl111 : RL (a := Int) F92 (w8 ++ w99) (r1.1 ++ (cutL r53.1 (some (1 : Int)) none)) := RL.app hl12 hl102
        obtain ⟨F106, O107, S108, h109⟩ := O93.putE hp105 (.lst (w8 ++ w99))
        have f_tree := f_tree.mono S108
        have hl12 := hl12.mono S108
        have h14 := S108 _ _ h14
        have hl30 := hl30.mono S108
        have h32 := S108 _ _ h32
        have h43 := h43.mono S108
        have h51 := h51.mono S108
        have hl64 := hl64.mono S108
        have h66 := S108 _ _ h66
        have hl82 := hl82.mono S108
        have h84 := S108 _ _ h84
        have h96 := h96.mono S108
        have h101 := S108 _ _ h101
        have hl102 := hl102.mono S108
        have hl111 := hl111.mono S108
        have h110 := R.lst (a := Int) h109 hl111
        refine ⟨_, _, (R.lst (a := Int) (O107.at 0 rfl) (hl82.mono O107.s)), (R.mono h110 O107.s), _, rfl, ?_⟩
        refine iteD (fun q112 => ?_) (fun q112 => ?_)
        · have hk := wp_if hk q112
          refine iteT ?_
          exact hk _ _  O107.g 
        · have hk := wp_el hk q112
          refine ⟨_, rfl, _, rfl, _, rfl, _, _, rfl, rfl, _, _, R.int, R.int, _, rfl, ?_⟩
          refine iteD (fun q113 => ?_) (fun q113 => ?_)
          · have hk := wp_if hk q113
            exact hk _ _  O107.g 
          · have hk := wp_el hk q113
            refine ⟨_, rfl, _, rfl, _, _, _, _, R.int, rfl, (.inl (O107.at 0 rfl)), (RL.mono (hl82) O107.s), _, rfl, ?_⟩
            refine iteD (fun q114 => ?_) (fun q114 => ?_)
            · have hk := wp_if hk q114
              refine ⟨_, rfl, _, _, _, rfl, (.inl (O107.at 0 rfl)), hl82.len, _, rfl, _, _, _, rfl, (.inl (O107.at 3 rfl)), hl12.len, _, rfl, _, _, _, rfl, (.inl (O107.at 1 rfl)), hl64.len, _, _, rfl, rfl, _, _, rfl, rfl, _, _, rfl, rfl, _, rfl, ?_⟩
              refine iteD (fun q115 => ?_) (fun q115 => ?_)
              · have hk := wp_if hk q115
                exact hk _ _  O107.g 
              · have hk := wp_el hk q115
                refine ⟨_, rfl, _, rfl, _, _, _, _, rfl, O107.pre0, f_tree, wp_call hk (fun r116 er117 hk F118 H119 g120 p121 w122 hn123 hf124 h125 hl126 => ?_) (fun n hn C H1 hC kp => hn C H1 hC (O107.kp0 kp))⟩
                have O127 := O107.call0 g120
                have S_ := g120.f
                have f_tree := f_tree.mono S_
                have hl12 := hl12.mono S_
                have h14 := S_ _ _ h14
                have hl30 := hl30.mono S_
                have h32 := S_ _ _ h32
                have h43 := h43.mono S_
                have h51 := h51.mono S_
                have hl64 := hl64.mono S_
                have h66 := S_ _ _ h66
                have hl82 := hl82.mono S_
                have h84 := S_ _ _ h84
                have h96 := h96.mono S_
                have h101 := S_ _ _ h101
                have hl102 := hl102.mono S_
                have h110 := h110.mono S_
                have O128 := O107.got O127 rfl hn123 hf124 h125
                have z129 := O107.was hn123
                obtain ⟨F130, O131, S132, h133⟩ := O128.frzE 0 rfl z129
                have f_tree := f_tree.mono S132
                have hl12 := hl12.mono S132
                have h14 := S132 _ _ h14
                have hl30 := hl30.mono S132
                have h32 := S132 _ _ h32
                have h43 := h43.mono S132
                have h51 := h51.mono S132
                have hl64 := hl64.mono S132
                have h66 := S132 _ _ h66
                have hl82 := hl82.mono S132
                have h84 := S132 _ _ h84
                have h96 := h96.mono S132
                have h101 := S132 _ _ h101
                have hl102 := hl102.mono S132
                have h110 := h110.mono S132
                have hl126 := hl126.mono S132
                have h134 := R.lst (a := Int) h133 hl126
                obtain ⟨p135, w136, e137, h138, hl139⟩ := R.lst_ h134
                cases e137
                obtain ⟨L141, hL142, hLs143, hLd144⟩ := loopM_L hk
                refine ⟨_, rfl, ⟨_, (SqLF O131.s h138)⟩, ?_⟩
                refine for_list (K := K) (xs := w136) (fun i σ H => ∃ (F_ : Hp) (st : Unit) (t_0 : Option V), σ = [some v_tree, some (V.int x_one), some (V.int x_other), some (V.int x_last), t_0, some (V.ref p7), some (V.int r1.2), some (V.ref p59), some (V.int r53.2), some (V.ref p77), some (V.int r71.2)] ∧ Same F130 F_ ∧ Ow _ F_ [(p77, .lst w78), (p59, .lst w60), (p25, .lst w26), (p7, .lst w8)] H ∧ L141 (List.drop i r116) st) ⟨F130, (), none, rfl, Same.refl _, O131, hL142⟩ (fun i_ σ_ H_ _ hp_ => ?_) ?_ ?_
                · obtain ⟨_, _, _, _, hS_, hO_, _⟩ := hp_
                  exact SqLF hO_.s (hS_ _ _ h138)
                · rintro i145 x146 sg147 H148 hi149 ⟨F153, st151, t152, rfl, S150, O154, hL142⟩
                  have f_tree := f_tree.mono S150
                  have hl12 := hl12.mono S150
                  have h14 := S150 _ _ h14
                  have hl30 := hl30.mono S150
                  have h32 := S150 _ _ h32
                  have h43 := h43.mono S150
                  have h51 := h51.mono S150
                  have hl64 := hl64.mono S150
                  have h66 := S150 _ _ h66
                  have hl82 := hl82.mono S150
                  have h84 := S150 _ _ h84
                  have h96 := h96.mono S150
                  have h101 := S150 _ _ h101
                  have hl102 := hl102.mono S150
                  have h110 := h110.mono S150
                  have h134 := h134.mono S150
                  have h138 := S150 _ _ h138
                  have hl139 := hl139.mono S150
                  obtain ⟨y140, e155, r156⟩ := RL.got hl139 hi149
                  rw [drop_at e155] at hL142
                  have hk := hLs143 _ _ _ hL142
                  obtain rfl := R.int_ r156
                  refine ⟨_, rfl, _, rfl, _, rfl, _, _, _, _, _, rfl, O154.pre0, f_tree, wp_call hk (fun r157 er158 hk F159 H160 g161 p162 p163 w164 hn165 hf166 h167 hl168 h170 => ?_) (fun n hn C H1 hC kp => hn C H1 hC (O154.kp0 kp))⟩
                  have O171 := O154.call0 g161
                  have S_ := g161.f
                  have f_tree := f_tree.mono S_
                  have hl12 := hl12.mono S_
                  have h14 := S_ _ _ h14
                  have hl30 := hl30.mono S_
                  have h32 := S_ _ _ h32
                  have h43 := h43.mono S_
                  have h51 := h51.mono S_
                  have hl64 := hl64.mono S_
                  have h66 := S_ _ _ h66
                  have hl82 := hl82.mono S_
                  have h84 := S_ _ _ h84
                  have h96 := h96.mono S_
                  have h101 := S_ _ _ h101
                  have hl102 := hl102.mono S_
                  have h110 := h110.mono S_
                  have h134 := h134.mono S_
                  have h138 := S_ _ _ h138
                  have hl139 := hl139.mono S_
                  have S150 := S150.trans S_
                  have z173 := O154.was hn165
                  have O172 := O171.add' (O154.fresh hn165) z173 hf166 h167
                  refine ⟨_, _, _, _, rfl, rfl, (SqTF O172.s h170), rfl, _, rfl, _, rfl, (by show 2 ≤ sizeLine; decide), fun p175 hp176 => ?_⟩
                  have hl182 : RL (a := Int) F159 ([V.int x_one, V.int y140]) ([x_one, y140]) := RL.cons R.int (RL.cons R.int RL.nil)
                  obtain ⟨F177, O178, S179, h180⟩ := O172.putE hp176 (.lst ([V.int x_one, V.int y140]))
                  have f_tree := f_tree.mono S179
                  have hl12 := hl12.mono S179
                  have h14 := S179 _ _ h14
                  have hl30 := hl30.mono S179
                  have h32 := S179 _ _ h32
                  have h43 := h43.mono S179
                  have h51 := h51.mono S179
                  have hl64 := hl64.mono S179
                  have h66 := S179 _ _ h66
                  have hl82 := hl82.mono S179
                  have h84 := S179 _ _ h84
                  have h96 := h96.mono S179
                  have h101 := S179 _ _ h101
                  have hl102 := hl102.mono S179
                  have h110 := h110.mono S179
                  have h134 := h134.mono S179
                  have h138 := S179 _ _ h138
                  have hl139 := hl139.mono S179
                  have S150 := S150.trans S179
                  have hl168 := hl168.mono S179
                  have h170 := S179 _ _ h170
                  have hl182 := hl182.mono S179
                  have h181 := R.lst (a := Int) h180 hl182
                  refine ⟨_, _, (R.lst (a := Int) (O178.at 0 rfl) (hl168.mono O178.s)), (R.mono h181 O178.s), _, rfl, ?_⟩
                  refine iteD (fun q183 => ?_) (fun q183 => ?_)
                  · have hk := wp_if hk q183
                    refine iteT ?_
                    exact hk _ _  O178.g 
                  · have hk := wp_el hk q183
                    refine ⟨_, rfl, _, rfl, _, rfl, _, _, _, _, rfl, O178.pre0, f_tree, wp_call hk (fun r184 er185 hk F186 H187 g188 p189 w190 hn191 hf192 h193 hl194 => ?_) (fun n hn C H1 hC kp => hn C H1 hC (O178.kp0 kp))⟩
                    have O195 := O178.call0 g188
                    have S_ := g188.f
                    have f_tree := f_tree.mono S_
                    have hl12 := hl12.mono S_
                    have h14 := S_ _ _ h14
                    have hl30 := hl30.mono S_
                    have h32 := S_ _ _ h32
                    have h43 := h43.mono S_
                    have h51 := h51.mono S_
                    have hl64 := hl64.mono S_
                    have h66 := S_ _ _ h66
                    have hl82 := hl82.mono S_
                    have h84 := S_ _ _ h84
                    have h96 := h96.mono S_
                    have h101 := S_ _ _ h101
                    have hl102 := hl102.mono S_
                    have h110 := h110.mono S_
                    have h134 := h134.mono S_
                    have h138 := S_ _ _ h138
                    have hl139 := hl139.mono S_
                    have S150 := S150.trans S_
                    have hl168 := hl168.mono S_
                    have h170 := S_ _ _ h170
                    have h181 := h181.mono S_
                    have O196 := O178.got O195 rfl hn191 hf192 h193
                    have z197 := O178.was hn191
                    obtain ⟨F198, O199, S200, h201⟩ := O196.frzE 0 rfl z197
                    have f_tree := f_tree.mono S200
                    have hl12 := hl12.mono S200
                    have h14 := S200 _ _ h14
                    have hl30 := hl30.mono S200
                    have h32 := S200 _ _ h32
                    have h43 := h43.mono S200
                    have h51 := h51.mono S200
                    have hl64 := hl64.mono S200
                    have h66 := S200 _ _ h66
                    have hl82 := hl82.mono S200
                    have h84 := S200 _ _ h84
                    have h96 := h96.mono S200
                    have h101 := S200 _ _ h101
                    have hl102 := hl102.mono S200
                    have h110 := h110.mono S200
                    have h134 := h134.mono S200
                    have h138 := S200 _ _ h138
                    have hl139 := hl139.mono S200
                    have S150 := S150.trans S200
                    have hl168 := hl168.mono S200
                    have h170 := S200 _ _ h170
                    have h181 := h181.mono S200
                    have hl194 := hl194.mono S200
                    have h202 := R.lst (a := Int) h201 hl194
                    obtain ⟨p203, w204, e205, h206, hl207⟩ := R.lst_ h202
                    cases e205
                    refine ⟨_, _, _, _, R.int, rfl, (.inl (O199.s _ _ h206)), (RL.mono (hl207) O199.s), _, rfl, ?_⟩
                    refine iteD (fun q208 => ?_) (fun q208 => ?_)
                    · have hk := wp_if hk q208
                      exact hk _ _  O199.g 
                    · have hk := wp_el hk q208
                      have O209 := O199.drop 0
                      exact ⟨F198, (), some (V.int y140), rfl, S150, O209, hk⟩
                rintro sg210 H211 ⟨F216, st213, t215, rfl, S212, O217, hL214⟩
                rw [drop_end hl139.len] at hL214
                have hk := hLd144 _ hL214
                have f_tree := f_tree.mono S212
                have hl12 := hl12.mono S212
                have h14 := S212 _ _ h14
                have hl30 := hl30.mono S212
                have h32 := S212 _ _ h32
                have h43 := h43.mono S212
                have h51 := h51.mono S212
                have hl64 := hl64.mono S212
                have h66 := S212 _ _ h66
                have hl82 := hl82.mono S212
                have h84 := S212 _ _ h84
                have h96 := h96.mono S212
                have h101 := S212 _ _ h101
                have hl102 := hl102.mono S212
                have h110 := h110.mono S212
                have h134 := h134.mono S212
                have h138 := S212 _ _ h138
                have hl139 := hl139.mono S212
                refine ⟨_, rfl, _, rfl, _, rfl, _, _, _, _, _, rfl, O217.pre0, f_tree, wp_call hk (fun r219 er220 hk F221 H222 g223 p224 p225 w226 hn227 hf228 h229 hl230 h232 => ?_) (fun n hn C H1 hC kp => hn C H1 hC (O217.kp0 kp))⟩
                have O233 := O217.call0 g223
                have S_ := g223.f
                have f_tree := f_tree.mono S_
                have hl12 := hl12.mono S_
                have h14 := S_ _ _ h14
                have hl30 := hl30.mono S_
                have h32 := S_ _ _ h32
                have h43 := h43.mono S_
                have h51 := h51.mono S_
                have hl64 := hl64.mono S_
                have h66 := S_ _ _ h66
                have hl82 := hl82.mono S_
                have h84 := S_ _ _ h84
                have h96 := h96.mono S_
                have h101 := S_ _ _ h101
                have hl102 := hl102.mono S_
                have h110 := h110.mono S_
                have h134 := h134.mono S_
                have h138 := S_ _ _ h138
                have hl139 := hl139.mono S_
                have z235 := O217.was hn227
                have O234 := O233.add' (O217.fresh hn227) z235 hf228 h229
                refine ⟨_, rfl, (by show 1 ≤ sizeLine; decide), fun p237 hp238 => ?_⟩
                have hl244 : RL (a := Int) F221 ([V.int x_one]) ([x_one]) := RL.cons R.int RL.nil
                obtain ⟨F239, O240, S241, h242⟩ := O234.putE hp238 (.lst ([V.int x_one]))
                have f_tree := f_tree.mono S241
                have hl12 := hl12.mono S241
                have h14 := S241 _ _ h14
                have hl30 := hl30.mono S241
                have h32 := S241 _ _ h32
                have h43 := h43.mono S241
                have h51 := h51.mono S241
                have hl64 := hl64.mono S241
                have h66 := S241 _ _ h66
                have hl82 := hl82.mono S241
                have h84 := S241 _ _ h84
                have h96 := h96.mono S241
                have h101 := S241 _ _ h101
                have hl102 := hl102.mono S241
                have h110 := h110.mono S241
                have h134 := h134.mono S241
                have h138 := S241 _ _ h138
                have hl139 := hl139.mono S241
                have hl230 := hl230.mono S241
                have h232 := S241 _ _ h232
                have hl244 := hl244.mono S241
                have h243 := R.lst (a := Int) h242 hl244
                refine ⟨(by show 2 ≤ sizeLine; decide), fun p245 hp246 => ?_⟩
                obtain ⟨F247, O248, S249, h250⟩ := O240.putE hp246 (.tup [V.ref p237, V.int (0 : Int)])
                have f_tree := f_tree.mono S249
                have hl12 := hl12.mono S249
                have h14 := S249 _ _ h14
                have hl30 := hl30.mono S249
                have h32 := S249 _ _ h32
                have h43 := h43.mono S249
                have h51 := h51.mono S249
                have hl64 := hl64.mono S249
                have h66 := S249 _ _ h66
                have hl82 := hl82.mono S249
                have h84 := S249 _ _ h84
                have h96 := h96.mono S249
                have h101 := S249 _ _ h101
                have hl102 := hl102.mono S249
                have h110 := h110.mono S249
                have h134 := h134.mono S249
                have h138 := S249 _ _ h138
                have hl139 := hl139.mono S249
                have hl230 := hl230.mono S249
                have h232 := S249 _ _ h232
                have h243 := h243.mono S249
                have h251 : R (a := ((List Int) × Int)) F247 (.ref p245) ([x_one], (0 : Int)) := R.t2 h250 h243 R.int
                refine ⟨_, _, (R.t2 (x := ((r219.1, r219.2) : ((List Int) × Int))) (O248.s _ _ h232) (R.lst (a := Int) (O248.at 0 rfl) (hl230.mono O248.s)) R.int), (R.mono h251 O248.s), ?_⟩
                exact hk _ _  O248.g 
            · have hk := wp_el hk q114
              refine iteF ?_
              refine ⟨_, rfl, _, rfl, _, _, _, _, rfl, O107.pre0, f_tree, wp_call hk (fun r252 er253 hk F254 H255 g256 p257 w258 hn259 hf260 h261 hl262 => ?_) (fun n hn C H1 hC kp => hn C H1 hC (O107.kp0 kp))⟩
              have O263 := O107.call0 g256
              have S_ := g256.f
              have f_tree := f_tree.mono S_
              have hl12 := hl12.mono S_
              have h14 := S_ _ _ h14
              have hl30 := hl30.mono S_
              have h32 := S_ _ _ h32
              have h43 := h43.mono S_
              have h51 := h51.mono S_
              have hl64 := hl64.mono S_
              have h66 := S_ _ _ h66
              have hl82 := hl82.mono S_
              have h84 := S_ _ _ h84
              have h96 := h96.mono S_
              have h101 := S_ _ _ h101
              have hl102 := hl102.mono S_
              have h110 := h110.mono S_
              have O264 := O107.got O263 rfl hn259 hf260 h261
              have z265 := O107.was hn259
              obtain ⟨F266, O267, S268, h269⟩ := O264.frzE 0 rfl z265
              have f_tree := f_tree.mono S268
              have hl12 := hl12.mono S268
              have h14 := S268 _ _ h14
              have hl30 := hl30.mono S268
              have h32 := S268 _ _ h32
              have h43 := h43.mono S268
              have h51 := h51.mono S268
              have hl64 := hl64.mono S268
              have h66 := S268 _ _ h66
              have hl82 := hl82.mono S268
              have h84 := S268 _ _ h84
              have h96 := h96.mono S268
              have h101 := S268 _ _ h101
              have hl102 := hl102.mono S268
              have h110 := h110.mono S268
              have hl262 := hl262.mono S268
              have h270 := R.lst (a := Int) h269 hl262
              obtain ⟨p271, w272, e273, h274, hl275⟩ := R.lst_ h270
              cases e273
              obtain ⟨L277, hL278, hLs279, hLd280⟩ := loopM_L hk
              refine ⟨_, rfl, ⟨_, (SqLF O267.s h274)⟩, ?_⟩
              refine for_list (K := K) (xs := w272) (fun i σ H => ∃ (F_ : Hp) (st : Unit) (t_0 : Option V), σ = [some v_tree, some (V.int x_one), some (V.int x_other), some (V.int x_last), t_0, some (V.ref p7), some (V.int r1.2), some (V.ref p59), some (V.int r53.2), some (V.ref p77), some (V.int r71.2)] ∧ Same F266 F_ ∧ Ow _ F_ [(p77, .lst w78), (p59, .lst w60), (p25, .lst w26), (p7, .lst w8)] H ∧ L277 (List.drop i r252) st) ⟨F266, (), none, rfl, Same.refl _, O267, hL278⟩ (fun i_ σ_ H_ _ hp_ => ?_) ?_ ?_
              · obtain ⟨_, _, _, _, hS_, hO_, _⟩ := hp_
                exact SqLF hO_.s (hS_ _ _ h274)
              · rintro i281 x282 sg283 H284 hi285 ⟨F289, st287, t288, rfl, S286, O290, hL278⟩
                have f_tree := f_tree.mono S286
                have hl12 := hl12.mono S286
                have h14 := S286 _ _ h14
                have hl30 := hl30.mono S286
                have h32 := S286 _ _ h32
                have h43 := h43.mono S286
                have h51 := h51.mono S286
                have hl64 := hl64.mono S286
                have h66 := S286 _ _ h66
                have hl82 := hl82.mono S286
                have h84 := S286 _ _ h84
                have h96 := h96.mono S286
                have h101 := S286 _ _ h101
                have hl102 := hl102.mono S286
                have h110 := h110.mono S286
                have h270 := h270.mono S286
                have h274 := S286 _ _ h274
                have hl275 := hl275.mono S286
                obtain ⟨y276, e291, r292⟩ := RL.got hl275 hi285
                rw [drop_at e291] at hL278
                have hk := hLs279 _ _ _ hL278
                obtain rfl := R.int_ r292
                refine ⟨_, rfl, _, rfl, _, rfl, _, _, _, _, _, rfl, O290.pre0, f_tree, wp_call hk (fun r293 er294 hk F295 H296 g297 p298 p299 w300 hn301 hf302 h303 hl304 h306 => ?_) (fun n hn C H1 hC kp => hn C H1 hC (O290.kp0 kp))⟩
                have O307 := O290.call0 g297
                have S_ := g297.f
                have f_tree := f_tree.mono S_
                have hl12 := hl12.mono S_
                have h14 := S_ _ _ h14
                have hl30 := hl30.mono S_
                have h32 := S_ _ _ h32
                have h43 := h43.mono S_
                have h51 := h51.mono S_
                have hl64 := hl64.mono S_
                have h66 := S_ _ _ h66
                have hl82 := hl82.mono S_
                have h84 := S_ _ _ h84
                have h96 := h96.mono S_
                have h101 := S_ _ _ h101
                have hl102 := hl102.mono S_
                have h110 := h110.mono S_
                have h270 := h270.mono S_
                have h274 := S_ _ _ h274
                have hl275 := hl275.mono S_
                have S286 := S286.trans S_
                have z309 := O290.was hn301
                have O308 := O307.add' (O290.fresh hn301) z309 hf302 h303
                refine ⟨_, _, _, _, rfl, rfl, (SqTF O308.s h306), rfl, _, rfl, _, rfl, (by show 2 ≤ sizeLine; decide), fun p311 hp312 => ?_⟩
                have hl318 : RL (a := Int) F295 ([V.int x_one, V.int y276]) ([x_one, y276]) := RL.cons R.int (RL.cons R.int RL.nil)
                obtain ⟨F313, O314, S315, h316⟩ := O308.putE hp312 (.lst ([V.int x_one, V.int y276]))
                have f_tree := f_tree.mono S315
                have hl12 := hl12.mono S315
                have h14 := S315 _ _ h14
                have hl30 := hl30.mono S315
                have h32 := S315 _ _ h32
                have h43 := h43.mono S315
                have h51 := h51.mono S315
                have hl64 := hl64.mono S315
                have h66 := S315 _ _ h66
                have hl82 := hl82.mono S315
                have h84 := S315 _ _ h84
                have h96 := h96.mono S315
                have h101 := S315 _ _ h101
                have hl102 := hl102.mono S315
                have h110 := h110.mono S315
                have h270 := h270.mono S315
                have h274 := S315 _ _ h274
                have hl275 := hl275.mono S315
                have S286 := S286.trans S315
                have hl304 := hl304.mono S315
                have h306 := S315 _ _ h306
                have hl318 := hl318.mono S315
                have h317 := R.lst (a := Int) h316 hl318
                refine ⟨_, _, (R.lst (a := Int) (O314.at 0 rfl) (hl304.mono O314.s)), (R.mono h317 O314.s), _, rfl, ?_⟩
                refine iteD (fun q319 => ?_) (fun q319 => ?_)
                · have hk := wp_if hk q319
                  refine iteT ?_
                  exact hk _ _  O314.g 
                · have hk := wp_el hk q319
                  refine ⟨_, rfl, _, rfl, _, rfl, _, _, _, _, rfl, O314.pre0, f_tree, wp_call hk (fun r320 er321 hk F322 H323 g324 p325 w326 hn327 hf328 h329 hl330 => ?_) (fun n hn C H1 hC kp => hn C H1 hC (O314.kp0 kp))⟩
                  have O331 := O314.call0 g324
                  have S_ := g324.f
                  have f_tree := f_tree.mono S_
                  have hl12 := hl12.mono S_
                  have h14 := S_ _ _ h14
                  have hl30 := hl30.mono S_
                  have h32 := S_ _ _ h32
                  have h43 := h43.mono S_
                  have h51 := h51.mono S_
                  have hl64 := hl64.mono S_
                  have h66 := S_ _ _ h66
                  have hl82 := hl82.mono S_
                  have h84 := S_ _ _ h84
                  have h96 := h96.mono S_
                  have h101 := S_ _ _ h101
                  have hl102 := hl102.mono S_
                  have h110 := h110.mono S_
                  have h270 := h270.mono S_
                  have h274 := S_ _ _ h274
                  have hl275 := hl275.mono S_
                  have S286 := S286.trans S_
                  have hl304 := hl304.mono S_
                  have h306 := S_ _ _ h306
                  have h317 := h317.mono S_
                  have O332 := O314.got O331 rfl hn327 hf328 h329
                  have z333 := O314.was hn327
                  obtain ⟨F334, O335, S336, h337⟩ := O332.frzE 0 rfl z333
                  have f_tree := f_tree.mono S336
                  have hl12 := hl12.mono S336
                  have h14 := S336 _ _ h14
                  have hl30 := hl30.mono S336
                  have h32 := S336 _ _ h32
                  have h43 := h43.mono S336
                  have h51 := h51.mono S336
                  have hl64 := hl64.mono S336
                  have h66 := S336 _ _ h66
                  have hl82 := hl82.mono S336
                  have h84 := S336 _ _ h84
                  have h96 := h96.mono S336
                  have h101 := S336 _ _ h101
                  have hl102 := hl102.mono S336
                  have h110 := h110.mono S336
                  have h270 := h270.mono S336
                  have h274 := S336 _ _ h274
                  have hl275 := hl275.mono S336
                  have S286 := S286.trans S336
                  have hl304 := hl304.mono S336
                  have h306 := S336 _ _ h306
                  have h317 := h317.mono S336
                  have hl330 := hl330.mono S336
                  have h338 := R.lst (a := Int) h337 hl330
                  obtain ⟨p339, w340, e341, h342, hl343⟩ := R.lst_ h338
                  cases e341
                  refine ⟨_, _, _, _, R.int, rfl, (.inl (O335.s _ _ h342)), (RL.mono (hl343) O335.s), _, rfl, ?_⟩
                  refine iteD (fun q344 => ?_) (fun q344 => ?_)
                  · have hk := wp_if hk q344
                    exact hk _ _  O335.g 
                  · have hk := wp_el hk q344
                    have O345 := O335.drop 0
                    exact ⟨F334, (), some (V.int y276), rfl, S286, O345, hk⟩
              rintro sg346 H347 ⟨F352, st349, t351, rfl, S348, O353, hL350⟩
              rw [drop_end hl275.len] at hL350
              have hk := hLd280 _ hL350
              have f_tree := f_tree.mono S348
              have hl12 := hl12.mono S348
              have h14 := S348 _ _ h14
              have hl30 := hl30.mono S348
              have h32 := S348 _ _ h32
              have h43 := h43.mono S348
              have h51 := h51.mono S348
              have hl64 := hl64.mono S348
              have h66 := S348 _ _ h66
              have hl82 := hl82.mono S348
              have h84 := S348 _ _ h84
              have h96 := h96.mono S348
              have h101 := S348 _ _ h101
              have hl102 := hl102.mono S348
              have h110 := h110.mono S348
              have h270 := h270.mono S348
              have h274 := S348 _ _ h274
              have hl275 := hl275.mono S348
              refine ⟨_, rfl, _, rfl, _, rfl, _, _, _, _, _, rfl, O353.pre0, f_tree, wp_call hk (fun r355 er356 hk F357 H358 g359 p360 p361 w362 hn363 hf364 h365 hl366 h368 => ?_) (fun n hn C H1 hC kp => hn C H1 hC (O353.kp0 kp))⟩
              have O369 := O353.call0 g359
              have S_ := g359.f
              have f_tree := f_tree.mono S_
              have hl12 := hl12.mono S_
              have h14 := S_ _ _ h14
              have hl30 := hl30.mono S_
              have h32 := S_ _ _ h32
              have h43 := h43.mono S_
              have h51 := h51.mono S_
              have hl64 := hl64.mono S_
              have h66 := S_ _ _ h66
              have hl82 := hl82.mono S_
              have h84 := S_ _ _ h84
              have h96 := h96.mono S_
              have h101 := S_ _ _ h101
              have hl102 := hl102.mono S_
              have h110 := h110.mono S_
              have h270 := h270.mono S_
              have h274 := S_ _ _ h274
              have hl275 := hl275.mono S_
              have z371 := O353.was hn363
              have O370 := O369.add' (O353.fresh hn363) z371 hf364 h365
              refine ⟨_, rfl, (by show 1 ≤ sizeLine; decide), fun p373 hp374 => ?_⟩
              have hl380 : RL (a := Int) F357 ([V.int x_one]) ([x_one]) := RL.cons R.int RL.nil
              obtain ⟨F375, O376, S377, h378⟩ := O370.putE hp374 (.lst ([V.int x_one]))
              have f_tree := f_tree.mono S377
              have hl12 := hl12.mono S377
              have h14 := S377 _ _ h14
              have hl30 := hl30.mono S377
              have h32 := S377 _ _ h32
              have h43 := h43.mono S377
              have h51 := h51.mono S377
              have hl64 := hl64.mono S377
              have h66 := S377 _ _ h66
              have hl82 := hl82.mono S377
              have h84 := S377 _ _ h84
              have h96 := h96.mono S377
              have h101 := S377 _ _ h101
              have hl102 := hl102.mono S377
              have h110 := h110.mono S377
              have h270 := h270.mono S377
              have h274 := S377 _ _ h274
              have hl275 := hl275.mono S377
              have hl366 := hl366.mono S377
              have h368 := S377 _ _ h368
              have hl380 := hl380.mono S377
              have h379 := R.lst (a := Int) h378 hl380
              refine ⟨(by show 2 ≤ sizeLine; decide), fun p381 hp382 => ?_⟩
              obtain ⟨F383, O384, S385, h386⟩ := O376.putE hp382 (.tup [V.ref p373, V.int (0 : Int)])
              have f_tree := f_tree.mono S385
              have hl12 := hl12.mono S385
              have h14 := S385 _ _ h14
              have hl30 := hl30.mono S385
              have h32 := S385 _ _ h32
              have h43 := h43.mono S385
              have h51 := h51.mono S385
              have hl64 := hl64.mono S385
              have h66 := S385 _ _ h66
              have hl82 := hl82.mono S385
              have h84 := S385 _ _ h84
              have h96 := h96.mono S385
              have h101 := S385 _ _ h101
              have hl102 := hl102.mono S385
              have h110 := h110.mono S385
              have h270 := h270.mono S385
              have h274 := S385 _ _ h274
              have hl275 := hl275.mono S385
              have hl366 := hl366.mono S385
              have h368 := S385 _ _ h368
              have h379 := h379.mono S385
              have h387 : R (a := ((List Int) × Int)) F383 (.ref p381) ([x_one], (0 : Int)) := R.t2 h386 h379 R.int
              refine ⟨_, _, (R.t2 (x := ((r355.1, r355.2) : ((List Int) × Int))) (O384.s _ _ h368) (R.lst (a := Int) (O384.at 0 rfl) (hl366.mono O384.s)) R.int), (R.mono h387 O384.s), ?_⟩
              exact hk _ _  O384.g 
      · have hk := wp_el hk q89
        refine iteF ?_
        refine ⟨_, rfl, _, rfl, _, _, _, _, R.int, rfl, (.inl (O86.at 0 rfl)), (RL.mono (hl82) O86.s), _, rfl, ?_⟩
        refine iteD (fun q388 => ?_) (fun q388 => ?_)
        · have hk := wp_if hk q388
          refine ⟨_, rfl, _, _, _, rfl, (.inl (O86.at 0 rfl)), hl82.len, _, rfl, _, _, _, rfl, (.inl (O86.at 3 rfl)), hl12.len, _, rfl, _, _, _, rfl, (.inl (O86.at 1 rfl)), hl64.len, _, _, rfl, rfl, _, _, rfl, rfl, _, _, rfl, rfl, _, rfl, ?_⟩
          refine iteD (fun q389 => ?_) (fun q389 => ?_)
          · have hk := wp_if hk q389
            exact hk _ _  O86.g 
          · have hk := wp_el hk q389
            refine ⟨_, rfl, _, rfl, _, _, _, _, rfl, O86.pre0, f_tree, wp_call hk (fun r390 er391 hk F392 H393 g394 p395 w396 hn397 hf398 h399 hl400 => ?_) (fun n hn C H1 hC kp => hn C H1 hC (O86.kp0 kp))⟩
            have O401 := O86.call0 g394
            have S_ := g394.f
            have f_tree := f_tree.mono S_
            have hl12 := hl12.mono S_
            have h14 := S_ _ _ h14
            have hl30 := hl30.mono S_
            have h32 := S_ _ _ h32
            have h43 := h43.mono S_
            have h51 := h51.mono S_
            have hl64 := hl64.mono S_
            have h66 := S_ _ _ h66
            have hl82 := hl82.mono S_
            have h84 := S_ _ _ h84
            have O402 := O86.got O401 rfl hn397 hf398 h399
            have z403 := O86.was hn397
            obtain ⟨F404, O405, S406, h407⟩ := O402.frzE 0 rfl z403
            have f_tree := f_tree.mono S406
            have hl12 := hl12.mono S406
            have h14 := S406 _ _ h14
            have hl30 := hl30.mono S406
            have h32 := S406 _ _ h32
            have h43 := h43.mono S406
            have h51 := h51.mono S406
            have hl64 := hl64.mono S406
            have h66 := S406 _ _ h66
            have hl82 := hl82.mono S406
            have h84 := S406 _ _ h84
            have hl400 := hl400.mono S406
            have h408 := R.lst (a := Int) h407 hl400
            obtain ⟨p409, w410, e411, h412, hl413⟩ := R.lst_ h408
            cases e411
            obtain ⟨L415, hL416, hLs417, hLd418⟩ := loopM_L hk
            refine ⟨_, rfl, ⟨_, (SqLF O405.s h412)⟩, ?_⟩
            refine for_list (K := K) (xs := w410) (fun i σ H => ∃ (F_ : Hp) (st : Unit) (t_0 : Option V), σ = [some v_tree, some (V.int x_one), some (V.int x_other), some (V.int x_last), t_0, some (V.ref p7), some (V.int r1.2), some (V.ref p59), some (V.int r53.2), some (V.ref p77), some (V.int r71.2)] ∧ Same F404 F_ ∧ Ow _ F_ [(p77, .lst w78), (p59, .lst w60), (p25, .lst w26), (p7, .lst w8)] H ∧ L415 (List.drop i r390) st) ⟨F404, (), none, rfl, Same.refl _, O405, hL416⟩ (fun i_ σ_ H_ _ hp_ => ?_) ?_ ?_
            · obtain ⟨_, _, _, _, hS_, hO_, _⟩ := hp_
              exact SqLF hO_.s (hS_ _ _ h412)
            · rintro i419 x420 sg421 H422 hi423 ⟨F427, st425, t426, rfl, S424, O428, hL416⟩
              have f_tree := f_tree.mono S424
              have hl12 := hl12.mono S424
              have h14 := S424 _ _ h14
              have hl30 := hl30.mono S424
              have h32 := S424 _ _ h32
              have h43 := h43.mono S424
              have h51 := h51.mono S424
              have hl64 := hl64.mono S424
              have h66 := S424 _ _ h66
              have hl82 := hl82.mono S424
              have h84 := S424 _ _ h84
              have h408 := h408.mono S424
              have h412 := S424 _ _ h412
              have hl413 := hl413.mono S424
              obtain ⟨y414, e429, r430⟩ := RL.got hl413 hi423
              rw [drop_at e429] at hL416
              have hk := hLs417 _ _ _ hL416
              obtain rfl := R.int_ r430
              refine ⟨_, rfl, _, rfl, _, rfl, _, _, _, _, _, rfl, O428.pre0, f_tree, wp_call hk (fun r431 er432 hk F433 H434 g435 p436 p437 w438 hn439 hf440 h441 hl442 h444 => ?_) (fun n hn C H1 hC kp => hn C H1 hC (O428.kp0 kp))⟩
              have O445 := O428.call0 g435
              have S_ := g435.f
              have f_tree := f_tree.mono S_
              have hl12 := hl12.mono S_
              have h14 := S_ _ _ h14
              have hl30 := hl30.mono S_
              have h32 := S_ _ _ h32
              have h43 := h43.mono S_
              have h51 := h51.mono S_
              have hl64 := hl64.mono S_
              have h66 := S_ _ _ h66
              have hl82 := hl82.mono S_
              have h84 := S_ _ _ h84
              have h408 := h408.mono S_
              have h412 := S_ _ _ h412
              have hl413 := hl413.mono S_
              have S424 := S424.trans S_
              have z447 := O428.was hn439
              have O446 := O445.add' (O428.fresh hn439) z447 hf440 h441
              refine ⟨_, _, _, _, rfl, rfl, (SqTF O446.s h444), rfl, _, rfl, _, rfl, (by show 2 ≤ sizeLine; decide), fun p449 hp450 => ?_⟩
              have hl456 : RL (a := Int) F433 ([V.int x_one, V.int y414]) ([x_one, y414]) := RL.cons R.int (RL.cons R.int RL.nil)
              obtain ⟨F451, O452, S453, h454⟩ := O446.putE hp450 (.lst ([V.int x_one, V.int y414]))
              have f_tree := f_tree.mono S453
              have hl12 := hl12.mono S453
              have h14 := S453 _ _ h14
              have hl30 := hl30.mono S453
              have h32 := S453 _ _ h32
              have h43 := h43.mono S453
              have h51 := h51.mono S453
              have hl64 := hl64.mono S453
              have h66 := S453 _ _ h66
              have hl82 := hl82.mono S453
              have h84 := S453 _ _ h84
              have h408 := h408.mono S453
              have h412 := S453 _ _ h412
              have hl413 := hl413.mono S453
              have S424 := S424.trans S453
              have hl442 := hl442.mono S453
              have h444 := S453 _ _ h444
              have hl456 := hl456.mono S453
              have h455 := R.lst (a := Int) h454 hl456
              refine ⟨_, _, (R.lst (a := Int) (O452.at 0 rfl) (hl442.mono O452.s)), (R.mono h455 O452.s), _, rfl, ?_⟩
              refine iteD (fun q457 => ?_) (fun q457 => ?_)
              · have hk := wp_if hk q457
                refine iteT ?_
                exact hk _ _  O452.g 
              · have hk := wp_el hk q457
                refine ⟨_, rfl, _, rfl, _, rfl, _, _, _, _, rfl, O452.pre0, f_tree, wp_call hk (fun r458 er459 hk F460 H461 g462 p463 w464 hn465 hf466 h467 hl468 => ?_) (fun n hn C H1 hC kp => hn C H1 hC (O452.kp0 kp))⟩
                have O469 := O452.call0 g462
                have S_ := g462.f
                have f_tree := f_tree.mono S_
                have hl12 := hl12.mono S_
                have h14 := S_ _ _ h14
                have hl30 := hl30.mono S_
                have h32 := S_ _ _ h32
                have h43 := h43.mono S_
                have h51 := h51.mono S_
                have hl64 := hl64.mono S_
                have h66 := S_ _ _ h66
                have hl82 := hl82.mono S_
                have h84 := S_ _ _ h84
                have h408 := h408.mono S_
                have h412 := S_ _ _ h412
                have hl413 := hl413.mono S_
                have S424 := S424.trans S_
                have hl442 := hl442.mono S_
                have h444 := S_ _ _ h444
                have h455 := h455.mono S_
                have O470 := O452.got O469 rfl hn465 hf466 h467
                have z471 := O452.was hn465
                obtain ⟨F472, O473, S474, h475⟩ := O470.frzE 0 rfl z471
                have f_tree := f_tree.mono S474
                have hl12 := hl12.mono S474
                have h14 := S474 _ _ h14
                have hl30 := hl30.mono S474
                have h32 := S474 _ _ h32
                have h43 := h43.mono S474
                have h51 := h51.mono S474
                have hl64 := hl64.mono S474
                have h66 := S474 _ _ h66
                have hl82 := hl82.mono S474
                have h84 := S474 _ _ h84
                have h408 := h408.mono S474
                have h412 := S474 _ _ h412
                have hl413 := hl413.mono S474
                have S424 := S424.trans S474
                have hl442 := hl442.mono S474
                have h444 := S474 _ _ h444
                have h455 := h455.mono S474
                have hl468 := hl468.mono S474
                have h476 := R.lst (a := Int) h475 hl468
                obtain ⟨p477, w478, e479, h480, hl481⟩ := R.lst_ h476
                cases e479
                refine ⟨_, _, _, _, R.int, rfl, (.inl (O473.s _ _ h480)), (RL.mono (hl481) O473.s), _, rfl, ?_⟩
                refine iteD (fun q482 => ?_) (fun q482 => ?_)
                · have hk := wp_if hk q482
                  exact hk _ _  O473.g 
                · have hk := wp_el hk q482
                  have O483 := O473.drop 0
                  exact ⟨F472, (), some (V.int y414), rfl, S424, O483, hk⟩
            rintro sg484 H485 ⟨F490, st487, t489, rfl, S486, O491, hL488⟩
            rw [drop_end hl413.len] at hL488
            have hk := hLd418 _ hL488
            have f_tree := f_tree.mono S486
            have hl12 := hl12.mono S486
            have h14 := S486 _ _ h14
            have hl30 := hl30.mono S486
            have h32 := S486 _ _ h32
            have h43 := h43.mono S486
            have h51 := h51.mono S486
            have hl64 := hl64.mono S486
            have h66 := S486 _ _ h66
            have hl82 := hl82.mono S486
            have h84 := S486 _ _ h84
            have h408 := h408.mono S486
            have h412 := S486 _ _ h412
            have hl413 := hl413.mono S486
            refine ⟨_, rfl, _, rfl, _, rfl, _, _, _, _, _, rfl, O491.pre0, f_tree, wp_call hk (fun r493 er494 hk F495 H496 g497 p498 p499 w500 hn501 hf502 h503 hl504 h506 => ?_) (fun n hn C H1 hC kp => hn C H1 hC (O491.kp0 kp))⟩
            have O507 := O491.call0 g497
            have S_ := g497.f
            have f_tree := f_tree.mono S_
            have hl12 := hl12.mono S_
            have h14 := S_ _ _ h14
            have hl30 := hl30.mono S_
            have h32 := S_ _ _ h32
            have h43 := h43.mono S_
            have h51 := h51.mono S_
            have hl64 := hl64.mono S_
            have h66 := S_ _ _ h66
            have hl82 := hl82.mono S_
            have h84 := S_ _ _ h84
            have h408 := h408.mono S_
            have h412 := S_ _ _ h412
            have hl413 := hl413.mono S_
            have z509 := O491.was hn501
            have O508 := O507.add' (O491.fresh hn501) z509 hf502 h503
            refine ⟨_, rfl, (by show 1 ≤ sizeLine; decide), fun p511 hp512 => ?_⟩
            have hl518 : RL (a := Int) F495 ([V.int x_one]) ([x_one]) := RL.cons R.int RL.nil
            obtain ⟨F513, O514, S515, h516⟩ := O508.putE hp512 (.lst ([V.int x_one]))
            have f_tree := f_tree.mono S515
            have hl12 := hl12.mono S515
            have h14 := S515 _ _ h14
            have hl30 := hl30.mono S515
            have h32 := S515 _ _ h32
            have h43 := h43.mono S515
            have h51 := h51.mono S515
            have hl64 := hl64.mono S515
            have h66 := S515 _ _ h66
            have hl82 := hl82.mono S515
            have h84 := S515 _ _ h84
            have h408 := h408.mono S515
            have h412 := S515 _ _ h412
            have hl413 := hl413.mono S515
            have hl504 := hl504.mono S515
            have h506 := S515 _ _ h506
            have hl518 := hl518.mono S515
            have h517 := R.lst (a := Int) h516 hl518
            refine ⟨(by show 2 ≤ sizeLine; decide), fun p519 hp520 => ?_⟩
            obtain ⟨F521, O522, S523, h524⟩ := O514.putE hp520 (.tup [V.ref p511, V.int (0 : Int)])
            have f_tree := f_tree.mono S523
            have hl12 := hl12.mono S523
            have h14 := S523 _ _ h14
            have hl30 := hl30.mono S523
            have h32 := S523 _ _ h32
            have h43 := h43.mono S523
            have h51 := h51.mono S523
            have hl64 := hl64.mono S523
            have h66 := S523 _ _ h66
            have hl82 := hl82.mono S523
            have h84 := S523 _ _ h84
            have h408 := h408.mono S523
            have h412 := S523 _ _ h412
            have hl413 := hl413.mono S523
            have hl504 := hl504.mono S523
            have h506 := S523 _ _ h506
            have h517 := h517.mono S523
            have h525 : R (a := ((List Int) × Int)) F521 (.ref p519) ([x_one], (0 : Int)) := R.t2 h524 h517 R.int
            refine ⟨_, _, (R.t2 (x := ((r493.1, r493.2) : ((List Int) × Int))) (O522.s _ _ h506) (R.lst (a := Int) (O522.at 0 rfl) (hl504.mono O522.s)) R.int), (R.mono h525 O522.s), ?_⟩
            exact hk _ _  O522.g 
        · have hk := wp_el hk q388
          refine iteF ?_
          refine ⟨_, rfl, _, rfl, _, _, _, _, rfl, O86.pre0, f_tree, wp_call hk (fun r526 er527 hk F528 H529 g530 p531 w532 hn533 hf534 h535 hl536 => ?_) (fun n hn C H1 hC kp => hn C H1 hC (O86.kp0 kp))⟩
          have O537 := O86.call0 g530
          have S_ := g530.f
          have f_tree := f_tree.mono S_
          have hl12 := hl12.mono S_
          have h14 := S_ _ _ h14
          have hl30 := hl30.mono S_
          have h32 := S_ _ _ h32
          have h43 := h43.mono S_
          have h51 := h51.mono S_
          have hl64 := hl64.mono S_
          have h66 := S_ _ _ h66
          have hl82 := hl82.mono S_
          have h84 := S_ _ _ h84
          have O538 := O86.got O537 rfl hn533 hf534 h535
          have z539 := O86.was hn533
          obtain ⟨F540, O541, S542, h543⟩ := O538.frzE 0 rfl z539
          have f_tree := f_tree.mono S542
          have hl12 := hl12.mono S542
          have h14 := S542 _ _ h14
          have hl30 := hl30.mono S542
          have h32 := S542 _ _ h32
          have h43 := h43.mono S542
          have h51 := h51.mono S542
          have hl64 := hl64.mono S542
          have h66 := S542 _ _ h66
          have hl82 := hl82.mono S542
          have h84 := S542 _ _ h84
          have hl536 := hl536.mono S542
          have h544 := R.lst (a := Int) h543 hl536
          obtain ⟨p545, w546, e547, h548, hl549⟩ := R.lst_ h544
          cases e547
          obtain ⟨L551, hL552, hLs553, hLd554⟩ := loopM_L hk
          refine ⟨_, rfl, ⟨_, (SqLF O541.s h548)⟩, ?_⟩
          refine for_list (K := K) (xs := w546) (fun i σ H => ∃ (F_ : Hp) (st : Unit) (t_0 : Option V), σ = [some v_tree, some (V.int x_one), some (V.int x_other), some (V.int x_last), t_0, some (V.ref p7), some (V.int r1.2), some (V.ref p59), some (V.int r53.2), some (V.ref p77), some (V.int r71.2)] ∧ Same F540 F_ ∧ Ow _ F_ [(p77, .lst w78), (p59, .lst w60), (p25, .lst w26), (p7, .lst w8)] H ∧ L551 (List.drop i r526) st) ⟨F540, (), none, rfl, Same.refl _, O541, hL552⟩ (fun i_ σ_ H_ _ hp_ => ?_) ?_ ?_
          · obtain ⟨_, _, _, _, hS_, hO_, _⟩ := hp_
            exact SqLF hO_.s (hS_ _ _ h548)
          · rintro i555 x556 sg557 H558 hi559 ⟨F563, st561, t562, rfl, S560, O564, hL552⟩
            have f_tree := f_tree.mono S560
            have hl12 := hl12.mono S560
            have h14 := S560 _ _ h14
            have hl30 := hl30.mono S560
            have h32 := S560 _ _ h32
            have h43 := h43.mono S560
            have h51 := h51.mono S560
            have hl64 := hl64.mono S560
            have h66 := S560 _ _ h66
            have hl82 := hl82.mono S560
            have h84 := S560 _ _ h84
            have h544 := h544.mono S560
            have h548 := S560 _ _ h548
            have hl549 := hl549.mono S560
            obtain ⟨y550, e565, r566⟩ := RL.got hl549 hi559
            rw [drop_at e565] at hL552
            have hk := hLs553 _ _ _ hL552
            obtain rfl := R.int_ r566
            refine ⟨_, rfl, _, rfl, _, rfl, _, _, _, _, _, rfl, O564.pre0, f_tree, wp_call hk (fun r567 er568 hk F569 H570 g571 p572 p573 w574 hn575 hf576 h577 hl578 h580 => ?_) (fun n hn C H1 hC kp => hn C H1 hC (O564.kp0 kp))⟩
            have O581 := O564.call0 g571
            have S_ := g571.f
            have f_tree := f_tree.mono S_
            have hl12 := hl12.mono S_
            have h14 := S_ _ _ h14
            have hl30 := hl30.mono S_
            have h32 := S_ _ _ h32
            have h43 := h43.mono S_
            have h51 := h51.mono S_
            have hl64 := hl64.mono S_
            have h66 := S_ _ _ h66
            have hl82 := hl82.mono S_
            have h84 := S_ _ _ h84
            have h544 := h544.mono S_
            have h548 := S_ _ _ h548
            have hl549 := hl549.mono S_
            have S560 := S560.trans S_
            have z583 := O564.was hn575
            have O582 := O581.add' (O564.fresh hn575) z583 hf576 h577
            refine ⟨_, _, _, _, rfl, rfl, (SqTF O582.s h580), rfl, _, rfl, _, rfl, (by show 2 ≤ sizeLine; decide), fun p585 hp586 => ?_⟩
            have hl592 : RL (a := Int) F569 ([V.int x_one, V.int y550]) ([x_one, y550]) := RL.cons R.int (RL.cons R.int RL.nil)
            obtain ⟨F587, O588, S589, h590⟩ := O582.putE hp586 (.lst ([V.int x_one, V.int y550]))
            have f_tree := f_tree.mono S589
            have hl12 := hl12.mono S589
            have h14 := S589 _ _ h14
            have hl30 := hl30.mono S589
            have h32 := S589 _ _ h32
            have h43 := h43.mono S589
            have h51 := h51.mono S589
            have hl64 := hl64.mono S589
            have h66 := S589 _ _ h66
            have hl82 := hl82.mono S589
            have h84 := S589 _ _ h84
            have h544 := h544.mono S589
            have h548 := S589 _ _ h548
            have hl549 := hl549.mono S589
            have S560 := S560.trans S589
            have hl578 := hl578.mono S589
            have h580 := S589 _ _ h580
            have hl592 := hl592.mono S589
            have h591 := R.lst (a := Int) h590 hl592
            refine ⟨_, _, (R.lst (a := Int) (O588.at 0 rfl) (hl578.mono O588.s)), (R.mono h591 O588.s), _, rfl, ?_⟩
            refine iteD (fun q593 => ?_) (fun q593 => ?_)
            · have hk := wp_if hk q593
              refine iteT ?_
              exact hk _ _  O588.g 
            · have hk := wp_el hk q593
              refine ⟨_, rfl, _, rfl, _, rfl, _, _, _, _, rfl, O588.pre0, f_tree, wp_call hk (fun r594 er595 hk F596 H597 g598 p599 w600 hn601 hf602 h603 hl604 => ?_) (fun n hn C H1 hC kp => hn C H1 hC (O588.kp0 kp))⟩
              have O605 := O588.call0 g598
              have S_ := g598.f
              have f_tree := f_tree.mono S_
              have hl12 := hl12.mono S_
              have h14 := S_ _ _ h14
              have hl30 := hl30.mono S_
              have h32 := S_ _ _ h32
              have h43 := h43.mono S_
              have h51 := h51.mono S_
              have hl64 := hl64.mono S_
              have h66 := S_ _ _ h66
              have hl82 := hl82.mono S_
              have h84 := S_ _ _ h84
              have h544 := h544.mono S_
              have h548 := S_ _ _ h548
              have hl549 := hl549.mono S_
              have S560 := S560.trans S_
              have hl578 := hl578.mono S_
              have h580 := S_ _ _ h580
              have h591 := h591.mono S_
              have O606 := O588.got O605 rfl hn601 hf602 h603
              have z607 := O588.was hn601
              obtain ⟨F608, O609, S610, h611⟩ := O606.frzE 0 rfl z607
              have f_tree := f_tree.mono S610
              have hl12 := hl12.mono S610
              have h14 := S610 _ _ h14
              have hl30 := hl30.mono S610
              have h32 := S610 _ _ h32
              have h43 := h43.mono S610
              have h51 := h51.mono S610
              have hl64 := hl64.mono S610
              have h66 := S610 _ _ h66
              have hl82 := hl82.mono S610
              have h84 := S610 _ _ h84
              have h544 := h544.mono S610
              have h548 := S610 _ _ h548
              have hl549 := hl549.mono S610
              have S560 := S560.trans S610
              have hl578 := hl578.mono S610
              have h580 := S610 _ _ h580
              have h591 := h591.mono S610
              have hl604 := hl604.mono S610
              have h612 := R.lst (a := Int) h611 hl604
              obtain ⟨p613, w614, e615, h616, hl617⟩ := R.lst_ h612
              cases e615
              refine ⟨_, _, _, _, R.int, rfl, (.inl (O609.s _ _ h616)), (RL.mono (hl617) O609.s), _, rfl, ?_⟩
              refine iteD (fun q618 => ?_) (fun q618 => ?_)
              · have hk := wp_if hk q618
                exact hk _ _  O609.g 
              · have hk := wp_el hk q618
                have O619 := O609.drop 0
                exact ⟨F608, (), some (V.int y550), rfl, S560, O619, hk⟩
          rintro sg620 H621 ⟨F626, st623, t625, rfl, S622, O627, hL624⟩
          rw [drop_end hl549.len] at hL624
          have hk := hLd554 _ hL624
          have f_tree := f_tree.mono S622
          have hl12 := hl12.mono S622
          have h14 := S622 _ _ h14
          have hl30 := hl30.mono S622
          have h32 := S622 _ _ h32
          have h43 := h43.mono S622
          have h51 := h51.mono S622
          have hl64 := hl64.mono S622
          have h66 := S622 _ _ h66
          have hl82 := hl82.mono S622
          have h84 := S622 _ _ h84
          have h544 := h544.mono S622
          have h548 := S622 _ _ h548
          have hl549 := hl549.mono S622
          refine ⟨_, rfl, _, rfl, _, rfl, _, _, _, _, _, rfl, O627.pre0, f_tree, wp_call hk (fun r629 er630 hk F631 H632 g633 p634 p635 w636 hn637 hf638 h639 hl640 h642 => ?_) (fun n hn C H1 hC kp => hn C H1 hC (O627.kp0 kp))⟩
          have O643 := O627.call0 g633
          have S_ := g633.f
          have f_tree := f_tree.mono S_
          have hl12 := hl12.mono S_
          have h14 := S_ _ _ h14
          have hl30 := hl30.mono S_
          have h32 := S_ _ _ h32
          have h43 := h43.mono S_
          have h51 := h51.mono S_
          have hl64 := hl64.mono S_
          have h66 := S_ _ _ h66
          have hl82 := hl82.mono S_
          have h84 := S_ _ _ h84
          have h544 := h544.mono S_
          have h548 := S_ _ _ h548
          have hl549 := hl549.mono S_
          have z645 := O627.was hn637
          have O644 := O643.add' (O627.fresh hn637) z645 hf638 h639
          refine ⟨_, rfl, (by show 1 ≤ sizeLine; decide), fun p647 hp648 => ?_⟩
          have hl654 : RL (a := Int) F631 ([V.int x_one]) ([x_one]) := RL.cons R.int RL.nil
          obtain ⟨F649, O650, S651, h652⟩ := O644.putE hp648 (.lst ([V.int x_one]))
          have f_tree := f_tree.mono S651
          have hl12 := hl12.mono S651
          have h14 := S651 _ _ h14
          have hl30 := hl30.mono S651
          have h32 := S651 _ _ h32
          have h43 := h43.mono S651
          have h51 := h51.mono S651
          have hl64 := hl64.mono S651
          have h66 := S651 _ _ h66
          have hl82 := hl82.mono S651
          have h84 := S651 _ _ h84
          have h544 := h544.mono S651
          have h548 := S651 _ _ h548
          have hl549 := hl549.mono S651
          have hl640 := hl640.mono S651
          have h642 := S651 _ _ h642
          have hl654 := hl654.mono S651
          have h653 := R.lst (a := Int) h652 hl654
          refine ⟨(by show 2 ≤ sizeLine; decide), fun p655 hp656 => ?_⟩
          obtain ⟨F657, O658, S659, h660⟩ := O650.putE hp656 (.tup [V.ref p647, V.int (0 : Int)])
          have f_tree := f_tree.mono S659
          have hl12 := hl12.mono S659
          have h14 := S659 _ _ h14
          have hl30 := hl30.mono S659
          have h32 := S659 _ _ h32
          have h43 := h43.mono S659
          have h51 := h51.mono S659
          have hl64 := hl64.mono S659
          have h66 := S659 _ _ h66
          have hl82 := hl82.mono S659
          have h84 := S659 _ _ h84
          have h544 := h544.mono S659
          have h548 := S659 _ _ h548
          have hl549 := hl549.mono S659
          have hl640 := hl640.mono S659
          have h642 := S659 _ _ h642
          have h653 := h653.mono S659
          have h661 : R (a := ((List Int) × Int)) F657 (.ref p655) ([x_one], (0 : Int)) := R.t2 h660 h653 R.int
          refine ⟨_, _, (R.t2 (x := ((r629.1, r629.2) : ((List Int) × Int))) (O658.s _ _ h642) (R.lst (a := Int) (O658.at 0 rfl) (hl640.mono O658.s)) R.int), (R.mono h661 O658.s), ?_⟩
          exact hk _ _  O658.g 
abbrev s_law_turned_right : Stmt := top 24
theorem sc_law_turned_right : FnScope ["tree", "order", "one", "other", "turned", "near", "places", "length", "place"] ["tree", "order", "one", "other"] (defScope s_law_turned_right) := ⟨rfl, rfl, rfl, by decide +kernel, rfl, by decide +kernel, by decide +kernel⟩
def m_law_turned_right (x_tree : ((List Int) × (List (T3 Int Int Int)))) (x_order : (List Int)) (x_one : Int) (x_other : Int) : M (Bool) :=
m_turned_tree x_tree x_order >>= fun r14 =>
m_way_between (r14.1, r14.2) x_one x_other >>= fun r45 =>
compS (fun (y67 : Int) (st84 : Unit) =>
opt (atI x_order y67) >>= fun y95 =>
.ok (some y95, ())) r45.1 () >>= fun q111 =>
opt (atI x_order x_one) >>= fun y129 =>
opt (atI x_order x_other) >>= fun y139 =>
m_way_between x_tree y129 y139 >>= fun r144 =>
if (q111.1, r45.2) ≠ (r144.1, r144.2) then (
.ok false)
else (
chk (okR (x_order.length : Int)) >>= fun _ =>
compS (fun (y168 : Int) (st186 : Unit) =>
ixI x_order y168 >>= fun n200 =>
.ok (some n200, ())) (rangeL 0 (x_order.length : Int)) () >>= fun q212 =>
m_turned_tree (r14.1, r14.2) q212.1 >>= fun r222 =>
if (r222.1, r222.2) ≠ x_tree then (
.ok false)
else (
m_tied_to (r14.1, r14.2) x_one >>= fun r258 =>
compS (fun (y286 : Int) (st303 : Unit) =>
opt (atI x_order y286) >>= fun y314 =>
.ok (some y314, ())) r258 () >>= fun q330 =>
opt (atI x_order x_one) >>= fun y354 =>
m_tied_to x_tree y354 >>= fun r359 =>
if (sortT q330.1) = r359 then (
chk (okR (x_order.length : Int)) >>= fun _ =>
m_turned_tree x_tree (rangeL 0 (x_order.length : Int)) >>= fun r393 =>
.ok (decide ((r393.1, r393.2) = x_tree)))
else (
.ok false)))
def sp_law_turned_right (mg : Str → Option Value) : Sp := fun vs H Q E => ∃ (F : Hp) (v_tree : V) (x_tree : ((List Int) × (List (T3 Int Int Int)))) (v_order : V) (x_order : (List Int)) (x_one : Int) (x_other : Int), vs = [v_tree, v_order, V.int x_one, V.int x_other] ∧ Pre F [] H ∧ R (a := ((List Int) × (List (T3 Int Int Int)))) F v_tree x_tree ∧ R (a := (List Int)) F v_order x_order ∧
  wp (m_law_turned_right x_tree x_order x_one x_other) (fun r => ∀ (F' H' : Hp), Gr [] F H F' H' → Q (V.bl r) H')
  (fun n => ∀ (C : Addr) (H' : Hp), mg (Str.ofString n) = some (.ref C) → Kp [] H H' → E (.ref C) none H')
set_option maxHeartbeats 2000000 in
theorem ok_law_turned_right (nb : Nb mg) (C_tied_to : Ca P w K mg base "tied_to" 2 ["tree", "place"] (sp_tied_to mg)) (C_turned_tree : Ca P w K mg base "turned_tree" 1 ["tree", "order"] (sp_turned_tree mg)) (C_way_between : Ca P w K mg base "way_between" 2 ["tree", "one", "other"] (sp_way_between mg)) (D : Df K mg "_law_turned_right" "_law_turned_right" s_law_turned_right ["tree", "order", "one", "other"]) : Ca P w K mg base "_law_turned_right" 3 ["tree", "order", "one", "other"] (sp_law_turned_right mg) := by
  obtain ⟨fa_tied_to, fd_tied_to, G_tied_to, M_tied_to, K_tied_to, B_tied_to⟩ := C_tied_to.ex
  obtain ⟨fa_turned_tree, fd_turned_tree, G_turned_tree, M_turned_tree, K_turned_tree, B_turned_tree⟩ := C_turned_tree.ex
  obtain ⟨fa_way_between, fd_way_between, G_way_between, M_way_between, K_way_between, B_way_between⟩ := C_way_between.ex
  refine Ca.mk' D sc_law_turned_right (fun vs H Q E h => ?_) (fun q_ f_ cdv A outer s H vs Q E hr h => ?_)
  · obtain ⟨F, _, _, _, _, _, _, rfl, _⟩ := h
    rfl
  · obtain ⟨F, v_tree, x_tree, v_order, x_order, x_one, x_other, rfl, P0, f_tree, f_order, hk⟩ := h
    have nd := sc_law_turned_right.nd
    have hu64 := hr.units
    have hu128 := hu128_of hr
    have O := P0.start
    refine ⟨_, (pss_cons (ps_set (i := 4) nd rfl (Or.inl rfl) (pe_call G_turned_tree (hr.mono (by decide)) rfl M_turned_tree K_turned_tree B_turned_tree .nil (passes_call (takes_of rfl rfl rfl rfl) fun _ _ _ _ h => h) (pa_cons (pv 0) (pa_cons (pe_callTy (listOfK (K := K) rfl) (by rfl) nb.b_list (by decide +kernel) (pa_cons (pv 1) pa_nil)) pa_nil))))
  (pss_cons (ps_asg (pe_call G_way_between (hr.mono (by decide)) rfl M_way_between K_way_between B_way_between .nil (passes_call (takes_of rfl rfl rfl rfl) fun _ _ _ _ h => h) (pa_cons (pv 4) (pa_cons (pv 2) (pa_cons (pv 3) pa_nil)))) (pg_tup rfl (pgs_cons (pg_name (i := 6) nd rfl (Or.inl rfl)) (pgs_cons (pg_name (i := 7) nd rfl (Or.inl rfl)) pgs_nil))))
  (pss_cons (ps_if (pt_cmpR (op_neT ((List Int) × Int) hu64) (pe_tup (pa_cons (pe_lc (own := [("place", 8)]) (g := gName 8) (tt := _) rfl nd (piListK (K := K) rfl (pv 6)) (blkOk_by (own := [("place", 8)]) (N := ["tree", "order", "one", "other", "turned", "near", "places", "length", "place"]) (sc := defScope s_law_turned_right) (by decide +kernel)) (fun _ _ _ _ _ => (pg_name (i := 8) nd rfl (Or.inl rfl))) (fun _ _ _ _ _ => pts_nil) (fun _ _ _ _ _ => (pe_ix (ixListK (K := K) rfl) (pv 1) (pv 8) (fun _ _ => rfl)))) (pa_cons (pv 7) pa_nil))) (pe_call G_way_between (hr.mono (by decide)) rfl M_way_between K_way_between B_way_between .nil (passes_call (takes_of rfl rfl rfl rfl) fun _ _ _ _ h => h) (pa_cons (pv 0) (pa_cons (pe_ix (ixListK (K := K) rfl) (pv 1) (pv 2) (fun _ _ => rfl)) (pa_cons (pe_ix (ixListK (K := K) rfl) (pv 1) (pv 3) (fun _ _ => rfl)) pa_nil)))) (nomark _)) (pss_one (ps_ret pe_bl)) pss_nil)
  (pss_cons (ps_if (pt_cmpR (op_neT ((List Int) × (List (T3 Int Int Int))) hu64) (pe_call G_turned_tree (hr.mono (by decide)) rfl M_turned_tree K_turned_tree B_turned_tree .nil (passes_call (takes_of rfl rfl rfl rfl) fun _ _ _ _ h => h) (pa_cons (pv 4) (pa_cons (pe_lc (own := [("place", 8)]) (g := gName 8) (tt := _) rfl nd (pi_range1 rfl nb.b_range (pa_cons (pe_callB call_lenT (by rfl) nb.b_len PySem.boot_len (pa_cons (pv 1) pa_nil)) pa_nil)) (blkOk_by (own := [("place", 8)]) (N := ["tree", "order", "one", "other", "turned", "near", "places", "length", "place"]) (sc := defScope s_law_turned_right) (by decide +kernel)) (fun _ _ _ _ _ => (pg_name (i := 8) nd rfl (Or.inl rfl))) (fun _ _ _ _ _ => pts_nil) (fun _ _ _ _ _ => (bmK (K := K) rfl (pe_bm PySem.F.plainAttrs_list PySem.F.slot_list_index PySem.F.type_list_index (indexK (K := K) rfl) (pv 1) (pa_cons (pv 8) pa_nil))))) pa_nil))) (pv 0) (nomark _)) (pss_one (ps_ret pe_bl)) pss_nil)
  (pss_cons (ps_set (i := 5) nd rfl (Or.inl rfl) (pe_callB (cr_sortedT Int hu128) (by rfl) nb.b_sorted (by decide +kernel) (pa_cons (pe_lc (own := [("place", 8)]) (g := gName 8) (tt := _) rfl nd (piListK (K := K) rfl (pe_call G_tied_to (hr.mono (by decide)) rfl M_tied_to K_tied_to B_tied_to .nil (passes_call (takes_of rfl rfl rfl rfl) fun _ _ _ _ h => h) (pa_cons (pv 4) (pa_cons (pv 2) pa_nil)))) (blkOk_by (own := [("place", 8)]) (N := ["tree", "order", "one", "other", "turned", "near", "places", "length", "place"]) (sc := defScope s_law_turned_right) (by decide +kernel)) (fun _ _ _ _ _ => (pg_name (i := 8) nd rfl (Or.inl rfl))) (fun _ _ _ _ _ => pts_nil) (fun _ _ _ _ _ => (pe_ix (ixListK (K := K) rfl) (pv 1) (pv 8) (fun _ _ => rfl)))) pa_nil)))
  (pss_one (ps_ret (pe_and (pe_cmpR (op_eqT (List Int) hu64) (pv 5) (pe_call G_tied_to (hr.mono (by decide)) rfl M_tied_to K_tied_to B_tied_to .nil (passes_call (takes_of rfl rfl rfl rfl) fun _ _ _ _ h => h) (pa_cons (pv 0) (pa_cons (pe_ix (ixListK (K := K) rfl) (pv 1) (pv 2) (fun _ _ => rfl)) pa_nil))) (nomark _)) (pe_one (pe_cmpR (op_eqT ((List Int) × (List (T3 Int Int Int))) hu64) (pe_call G_turned_tree (hr.mono (by decide)) rfl M_turned_tree K_turned_tree B_turned_tree .nil (passes_call (takes_of rfl rfl rfl rfl) fun _ _ _ _ h => h) (pa_cons (pv 0) (pa_cons (pe_listRg rfl (by rfl) nb.b_list (prg_1 (by rfl) nb.b_range (pe_callB call_lenT (by rfl) nb.b_len PySem.boot_len (pa_cons (pv 1) pa_nil)))) pa_nil))) (pv 0) (nomark _))))))))))), ?_⟩
    obtain ⟨p1, w2, e3, h4, hl5⟩ := R.lst_ f_order
    cases e3
    refine ⟨_, rfl, _, rfl, _, _, rfl, (.inl (SqLF O.s h4)), fun p6 hp7 => ?_⟩
    have hl13 : RL (a := Int) F w2 x_order := hl5
    obtain ⟨F8, O9, S10, h11⟩ := O.putE hp7 (.lst w2)
    have f_tree := f_tree.mono S10
    have f_order := f_order.mono S10
    have h4 := S10 _ _ h4
    have hl5 := hl5.mono S10
    have hl13 := hl13.mono S10
    have h12 := R.lst (a := Int) h11 hl13
    refine ⟨_, _, _, _, _, rfl, O9.pre0, f_tree, h12, wp_call hk (fun r14 er15 hk F16 H17 g18 p19 p20 w21 p26 w27 hn22 hf23 h24 hl25 hn28 hf29 h30 hl31 hne32 h33 => ?_) (fun n hn C H1 hC kp => hn C H1 hC (O9.kp0 kp))⟩
    have O34 := O9.call0 g18
    have S_ := g18.f
    have f_tree := f_tree.mono S_
    have f_order := f_order.mono S_
    have h4 := S_ _ _ h4
    have hl5 := hl5.mono S_
    have h12 := h12.mono S_
    have z36 := O9.was hn28
    have O35 := O34.add' (O9.fresh hn28) z36 hf29 h30
    have z39 := O9.was hn22
    have O38 := O35.add' (nmem2 hne32 (O9.fresh hn22)) z39 hf23 h24
    have hi41 : ∀ b ∈ ([p20, p26] : List Addr), ∃ o, (b, o) ∈ ([(p20, .lst w21), (p26, .lst w27)] : List (Addr × HO)) := (inA_cons 0 rfl (inA_cons 1 rfl inA_nil))
    have S42 := O38.lendS hi41
    have h43 := R.lst (a := Int) ((lendF_at (by simp)).trans (O38.at 0 rfl) : lendF [p20, p26] F16 _ p20 = some (.lst w21)) (hl25.mono S42)
    have h44 := R.lst (a := (T3 Int Int Int)) ((lendF_at (by simp)).trans (O38.at 1 rfl) : lendF [p20, p26] F16 _ p26 = some (.lst w27)) (hl31.mono S42)
    refine ⟨_, rfl, _, rfl, _, rfl, _, _, _, _, _, rfl, (O38.lendP hi41), (R.t2 (x := ((r14.1, r14.2) : ((List Int) × (List (T3 Int Int Int))))) (S42 _ _ h33) h43 h44), wp_call hk (fun r45 er46 hk F47 H48 g49 p50 p51 w52 hn53 hf54 h55 hl56 h58 => ?_) (fun n hn C H1 hC kp => hn C H1 hC (O38.kp0 kp))⟩
    obtain ⟨O59, S61, hT62, hN63⟩ := O38.unlend hi41 g49
    obtain ⟨F60, hFb_⟩ : ∃ z_, z_ = backF [p20, p26] F47 := ⟨_, rfl⟩
    rw [← hFb_] at O59 S61 hT62 hN63
    have hf54 := hN63 _ hf54
    have hl56 := RL.mv hT62 hl56
    have h58 := hT62 _ _ h58
    have f_tree := f_tree.mono S61
    have f_order := f_order.mono S61
    have h4 := S61 _ _ h4
    have hl5 := hl5.mono S61
    have h12 := h12.mono S61
    have hl31 := hl31.mono S61
    have hl25 := hl25.mono S61
    have h33 := S61 _ _ h33
    have z65 := O38.was hn53
    have O64 := O59.add' (O38.fresh hn53) z65 hf54 h55
    obtain ⟨c72, L68, hL69, hLs70, hLd71⟩ := compS_L hk
    refine ⟨_, _, rfl, (SqTF O64.s h58), rfl, _, _, rfl, _, _, rfl, rfl, _, rfl, _, rfl, ⟨_, (SqL.of (O64.at 0 rfl))⟩, fun p73 hp74 => ?_⟩
    have z100 := O64.was hp74
    refine lc_list (K := K) (xs := w52) (fun i H => ∃ (F_ : Hp) (st : Unit) (acc : List Int) (wa : List V), Same F60 F_ ∧ Ow _ F_ [(p73, .lst wa), (p51, .lst w52), (p20, .lst w21), (p26, .lst w27)] H ∧ RL F_ wa acc ∧ wa.length ≤ i ∧ L68 (List.drop i r45.1) acc st) ⟨F60, (), [], [], Same.refl _, O64.new hp74, RL.nil, Nat.zero_le _, hL69⟩ (fun i_ H_ _ hp_ => ?_) ?_ ?_
    · obtain ⟨_, _, _, _, hS_, hO_, _⟩ := hp_
      exact SqL.of (hO_.at 1 rfl)
    · rintro i75 x76 H77 hi78 ⟨F83, st84, acc80, wa81, S85, O87, hl86, la82, hL69⟩
      have f_tree := f_tree.mono S85
      have f_order := f_order.mono S85
      have h4 := S85 _ _ h4
      have hl5 := hl5.mono S85
      have h12 := h12.mono S85
      have hl31 := hl31.mono S85
      have hl25 := hl25.mono S85
      have h33 := S85 _ _ h33
      have hl56 := hl56.mono S85
      have h58 := S85 _ _ h58
      obtain ⟨y67, e88, r89⟩ := RL.got hl56 hi78
      rw [drop_at e88] at hL69
      have hk := hLs70 _ _ _ _ hL69
      obtain rfl := R.int_ r89
      refine ⟨rfl, ?_⟩
      obtain ⟨p90, w91, e92, h93, hl94⟩ := R.lst_ f_order
      cases e92
      obtain ⟨y95, e96, hk⟩ := wp_opt hk
      obtain ⟨w97, e98, r99⟩ := hl94.atI e96
      obtain rfl := R.int_ r99
      refine ⟨_, rfl, _, rfl, _, _, _, _, rfl, rfl, (SqLF O87.s h93), e98, _, (O87.at 0 rfl), (comp_len la82 hi78 hl56.len c72), ?_⟩
      exact ⟨F83, (), acc80 ++ [y95], wa81 ++ [V.int y95], S85, O87.set 0 (.lst (wa81 ++ [V.int y95])) rfl, RL.snoc hl86 R.int, by rw [List.length_append]; exact Nat.succ_le_succ la82, hk⟩
    rintro H101 ⟨F102, st103, acc104, wa105, S106, O107, hl108, la109, hL110⟩
    rw [drop_end hl56.len] at hL110
    have hk := hLd71 _ _ hL110
    have f_tree := f_tree.mono S106
    have f_order := f_order.mono S106
    have h4 := S106 _ _ h4
    have hl5 := hl5.mono S106
    have h12 := h12.mono S106
    have hl31 := hl31.mono S106
    have hl25 := hl25.mono S106
    have h33 := S106 _ _ h33
    have hl56 := hl56.mono S106
    have h58 := S106 _ _ h58
    obtain ⟨F112, O113, S114, h115⟩ := O107.frzE 0 rfl z100
    have f_tree := f_tree.mono S114
    have f_order := f_order.mono S114
    have h4 := S114 _ _ h4
    have hl5 := hl5.mono S114
    have h12 := h12.mono S114
    have hl31 := hl31.mono S114
    have hl25 := hl25.mono S114
    have h33 := S114 _ _ h33
    have hl56 := hl56.mono S114
    have h58 := S114 _ _ h58
    have hl108 := hl108.mono S114
    have h116 := R.lst (a := Int) h115 hl108
    refine ⟨_, rfl, (by show 2 ≤ sizeLine; decide), fun p117 hp118 => ?_⟩
    obtain ⟨F119, O120, S121, h122⟩ := O113.putE hp118 (.tup [V.ref p73, V.int r45.2])
    have f_tree := f_tree.mono S121
    have f_order := f_order.mono S121
    have h4 := S121 _ _ h4
    have hl5 := hl5.mono S121
    have h12 := h12.mono S121
    have hl31 := hl31.mono S121
    have hl25 := hl25.mono S121
    have h33 := S121 _ _ h33
    have hl56 := hl56.mono S121
    have h58 := S121 _ _ h58
    have h116 := h116.mono S121
    have h123 : R (a := ((List Int) × Int)) F119 (.ref p117) (acc104, r45.2) := R.t2 h122 h116 R.int
    obtain ⟨p124, w125, e126, h127, hl128⟩ := R.lst_ f_order
    cases e126
    obtain ⟨y129, e130, hk⟩ := wp_opt hk
    obtain ⟨w131, e132, r133⟩ := hl128.atI e130
    obtain rfl := R.int_ r133
    obtain ⟨p134, w135, e136, h137, hl138⟩ := R.lst_ f_order
    cases e136
    obtain ⟨y139, e140, hk⟩ := wp_opt hk
    obtain ⟨w141, e142, r143⟩ := hl138.atI e140
    obtain rfl := R.int_ r143
    refine ⟨_, rfl, _, rfl, _, rfl, _, _, _, _, rfl, rfl, (SqLF O120.s h127), e132, _, rfl, _, rfl, _, _, _, _, rfl, rfl, (SqLF O120.s h137), e142, _, _, _, _, _, rfl, O120.pre0, f_tree, wp_call hk (fun r144 er145 hk F146 H147 g148 p149 p150 w151 hn152 hf153 h154 hl155 h157 => ?_) (fun n hn C H1 hC kp => hn C H1 hC (O120.kp0 kp))⟩
    have O158 := O120.call0 g148
    have S_ := g148.f
    have f_tree := f_tree.mono S_
    have f_order := f_order.mono S_
    have h4 := S_ _ _ h4
    have hl5 := hl5.mono S_
    have h12 := h12.mono S_
    have hl31 := hl31.mono S_
    have hl25 := hl25.mono S_
    have h33 := S_ _ _ h33
    have hl56 := hl56.mono S_
    have h58 := S_ _ _ h58
    have h116 := h116.mono S_
    have h123 := h123.mono S_
    have h127 := S_ _ _ h127
    have hl128 := hl128.mono S_
    have h137 := S_ _ _ h137
    have hl138 := hl138.mono S_
    have z160 := O120.was hn152
    have O159 := O158.add' (O120.fresh hn152) z160 hf153 h154
    refine ⟨_, _, (R.mono h123 O159.s), (R.t2 (x := ((r144.1, r144.2) : ((List Int) × Int))) (O159.s _ _ h157) (R.lst (a := Int) (O159.at 0 rfl) (hl155.mono O159.s)) R.int), _, rfl, ?_⟩
    refine iteD (fun q162 => ?_) (fun q162 => ?_)
    · have hk := wp_if hk q162
      exact hk _ _  O159.g 
    · have hk := wp_el hk q162
      obtain ⟨p163, w164, e165, h166, hl167⟩ := R.lst_ f_order
      cases e165
      obtain ⟨c169, hk⟩ := wp_chk hk
      obtain ⟨c174, L170, hL171, hLs172, hLd173⟩ := compS_L hk
      refine ⟨_, rfl, _, rfl, _, _, _, rfl, (.inl (O159.s _ _ h166)), hl167.len, _, rfl, c169.lo, c169.hi, fun p175 hp176 => ?_⟩
      have z201 := O159.was hp176
      refine lc_range (lo := 0) (n := ((x_order.length : Int)).toNat) (fun i H => ∃ (F_ : Hp) (st : Unit) (acc : List Int) (wa : List V), Same F146 F_ ∧ Ow _ F_ [(p175, .lst wa), (p150, .lst w151), (p51, .lst w52), (p20, .lst w21), (p26, .lst w27)] H ∧ RL F_ wa acc ∧ wa.length ≤ i ∧ L170 (List.drop i (rangeL 0 (x_order.length : Int))) acc st) ⟨F146, (), [], [], Same.refl _, O159.new hp176, RL.nil, Nat.zero_le _, hL171⟩ ?_ ?_
      · rintro i177 H179 hi180 ⟨F185, st186, acc182, wa183, S187, O189, hl188, la184, hL171⟩
        have f_tree := f_tree.mono S187
        have f_order := f_order.mono S187
        have h4 := S187 _ _ h4
        have hl5 := hl5.mono S187
        have h12 := h12.mono S187
        have hl31 := hl31.mono S187
        have hl25 := hl25.mono S187
        have h33 := S187 _ _ h33
        have hl56 := hl56.mono S187
        have h58 := S187 _ _ h58
        have h116 := h116.mono S187
        have h123 := h123.mono S187
        have h127 := S187 _ _ h127
        have hl128 := hl128.mono S187
        have h137 := S187 _ _ h137
        have hl138 := hl138.mono S187
        have hl155 := hl155.mono S187
        have h157 := S187 _ _ h157
        have h166 := S187 _ _ h166
        have hl167 := hl167.mono S187
        rw [rangeL_get0 hi180] at hL171
        have hk := hLs172 _ _ _ _ hL171
        obtain ⟨y168, he_⟩ : ∃ z_, z_ = 0 + (i177 : Int) := ⟨_, rfl⟩
        try rw [← he_] at hk
        rw [← he_]
        refine ⟨rfl, ?_⟩
        obtain ⟨p190, w191, e192, h193, hl194⟩ := R.lst_ f_order
        cases e192
        obtain ⟨j195, e196, e197, e198, hk⟩ := wp_ixI hk
        have hw199 := RL.ints hl194
        obtain ⟨n200, hn_⟩ : ∃ z_, z_ = (j195 : Int) := ⟨_, rfl⟩
        rw [← hn_] at hk
        refine ⟨_, rfl, (.inl ⟨rfl, _, (SqLF O189.s h193)⟩), _, rfl, _, _, _, j195, _, rfl, rfl, (SqLF O189.s h193), rfl, (by rw [hw199]; exact all_flat_int _), (by rw [hw199]; exact int_at e197), int_eq, (by rw [hw199]; exact int_noeq e198), ?_⟩
        rw [← hn_]
        refine ⟨_, (O189.at 0 rfl), (comp_lenR la184 hi180 (by rw [Int.sub_zero]) c174), ?_⟩
        exact ⟨F185, (), acc182 ++ [n200], wa183 ++ [V.int n200], S187, O189.set 0 (.lst (wa183 ++ [V.int n200])) rfl, RL.snoc hl188 R.int, by rw [List.length_append]; exact Nat.succ_le_succ la184, hk⟩
      rintro H202 ⟨F203, st204, acc205, wa206, S207, O208, hl209, la210, hL211⟩
      rw [rangeL_end0] at hL211
      have hk := hLd173 _ _ hL211
      have f_tree := f_tree.mono S207
      have f_order := f_order.mono S207
      have h4 := S207 _ _ h4
      have hl5 := hl5.mono S207
      have h12 := h12.mono S207
      have hl31 := hl31.mono S207
      have hl25 := hl25.mono S207
      have h33 := S207 _ _ h33
      have hl56 := hl56.mono S207
      have h58 := S207 _ _ h58
      have h116 := h116.mono S207
      have h123 := h123.mono S207
      have h127 := S207 _ _ h127
      have hl128 := hl128.mono S207
      have h137 := S207 _ _ h137
      have hl138 := hl138.mono S207
      have hl155 := hl155.mono S207
      have h157 := S207 _ _ h157
      have h166 := S207 _ _ h166
      have hl167 := hl167.mono S207
      obtain ⟨F213, O214, S215, h216⟩ := O208.frzE 0 rfl z201
      have f_tree := f_tree.mono S215
      have f_order := f_order.mono S215
      have h4 := S215 _ _ h4
      have hl5 := hl5.mono S215
      have h12 := h12.mono S215
      have hl31 := hl31.mono S215
      have hl25 := hl25.mono S215
      have h33 := S215 _ _ h33
      have hl56 := hl56.mono S215
      have h58 := S215 _ _ h58
      have h116 := h116.mono S215
      have h123 := h123.mono S215
      have h127 := S215 _ _ h127
      have hl128 := hl128.mono S215
      have h137 := S215 _ _ h137
      have hl138 := hl138.mono S215
      have hl155 := hl155.mono S215
      have h157 := S215 _ _ h157
      have h166 := S215 _ _ h166
      have hl167 := hl167.mono S215
      have hl209 := hl209.mono S215
      have h217 := R.lst (a := Int) h216 hl209
      have hi218 : ∀ b ∈ ([p20, p26] : List Addr), ∃ o, (b, o) ∈ ([(p150, .lst w151), (p51, .lst w52), (p20, .lst w21), (p26, .lst w27)] : List (Addr × HO)) := (inA_cons 2 rfl (inA_cons 3 rfl inA_nil))
      have S219 := O214.lendS hi218
      have h220 := R.lst (a := Int) ((lendF_at (by simp)).trans (O214.at 2 rfl) : lendF [p20, p26] F213 _ p20 = some (.lst w21)) (hl25.mono S219)
      have h221 := R.lst (a := (T3 Int Int Int)) ((lendF_at (by simp)).trans (O214.at 3 rfl) : lendF [p20, p26] F213 _ p26 = some (.lst w27)) (hl31.mono S219)
      refine ⟨_, _, _, _, _, rfl, (O214.lendP hi218), (R.t2 (x := ((r14.1, r14.2) : ((List Int) × (List (T3 Int Int Int))))) (S219 _ _ h33) h220 h221), (h217.mono S219), wp_call hk (fun r222 er223 hk F224 H225 g226 p227 p228 w229 p234 w235 hn230 hf231 h232 hl233 hn236 hf237 h238 hl239 hne240 h241 => ?_) (fun n hn C H1 hC kp => hn C H1 hC (O214.kp0 kp))⟩
      obtain ⟨O242, S244, hT245, hN246⟩ := O214.unlend hi218 g226
      obtain ⟨F243, hFb_⟩ : ∃ z_, z_ = backF [p20, p26] F224 := ⟨_, rfl⟩
      rw [← hFb_] at O242 S244 hT245 hN246
      have hf231 := hN246 _ hf231
      have hl233 := RL.mv hT245 hl233
      have hf237 := hN246 _ hf237
      have hl239 := RL.mv hT245 hl239
      have h241 := hT245 _ _ h241
      have f_tree := f_tree.mono S244
      have f_order := f_order.mono S244
      have h4 := S244 _ _ h4
      have hl5 := hl5.mono S244
      have h12 := h12.mono S244
      have hl31 := hl31.mono S244
      have hl25 := hl25.mono S244
      have h33 := S244 _ _ h33
      have hl56 := hl56.mono S244
      have h58 := S244 _ _ h58
      have h116 := h116.mono S244
      have h123 := h123.mono S244
      have h127 := S244 _ _ h127
      have hl128 := hl128.mono S244
      have h137 := S244 _ _ h137
      have hl138 := hl138.mono S244
      have hl155 := hl155.mono S244
      have h157 := S244 _ _ h157
      have h166 := S244 _ _ h166
      have hl167 := hl167.mono S244
      have h217 := h217.mono S244
      have z248 := O214.was hn236
      have O247 := O242.add' (O214.fresh hn236) z248 hf237 h238
      have z251 := O214.was hn230
      have O250 := O247.add' (nmem2 hne240 (O214.fresh hn230)) z251 hf231 h232
      refine ⟨_, rfl, _, _, (R.t2 (x := ((r222.1, r222.2) : ((List Int) × (List (T3 Int Int Int))))) (O250.s _ _ h241) (R.lst (a := Int) (O250.at 0 rfl) (hl233.mono O250.s)) (R.lst (a := (T3 Int Int Int)) (O250.at 1 rfl) (hl239.mono O250.s))), (R.mono f_tree O250.s), _, rfl, ?_⟩
      refine iteD (fun q253 => ?_) (fun q253 => ?_)
      · have hk := wp_if hk q253
        exact hk _ _  O250.g 
      · have hk := wp_el hk q253
        have hi254 : ∀ b ∈ ([p20, p26] : List Addr), ∃ o, (b, o) ∈ ([(p228, .lst w229), (p234, .lst w235), (p150, .lst w151), (p51, .lst w52), (p20, .lst w21), (p26, .lst w27)] : List (Addr × HO)) := (inA_cons 4 rfl (inA_cons 5 rfl inA_nil))
        have S255 := O250.lendS hi254
        have h256 := R.lst (a := Int) ((lendF_at (by simp)).trans (O250.at 4 rfl) : lendF [p20, p26] F243 _ p20 = some (.lst w21)) (hl25.mono S255)
        have h257 := R.lst (a := (T3 Int Int Int)) ((lendF_at (by simp)).trans (O250.at 5 rfl) : lendF [p20, p26] F243 _ p26 = some (.lst w27)) (hl31.mono S255)
        refine ⟨_, rfl, _, rfl, _, _, _, _, rfl, (O250.lendP hi254), (R.t2 (x := ((r14.1, r14.2) : ((List Int) × (List (T3 Int Int Int))))) (S255 _ _ h33) h256 h257), wp_call hk (fun r258 er259 hk F260 H261 g262 p263 w264 hn265 hf266 h267 hl268 => ?_) (fun n hn C H1 hC kp => hn C H1 hC (O250.kp0 kp))⟩
        obtain ⟨O269, S271, hT272, hN273⟩ := O250.unlend hi254 g262
        obtain ⟨F270, hFb_⟩ : ∃ z_, z_ = backF [p20, p26] F260 := ⟨_, rfl⟩
        rw [← hFb_] at O269 S271 hT272 hN273
        have hf266 := hN273 _ hf266
        have hl268 := RL.mv hT272 hl268
        have f_tree := f_tree.mono S271
        have f_order := f_order.mono S271
        have h4 := S271 _ _ h4
        have hl5 := hl5.mono S271
        have h12 := h12.mono S271
        have hl31 := hl31.mono S271
        have hl25 := hl25.mono S271
        have h33 := S271 _ _ h33
        have hl56 := hl56.mono S271
        have h58 := S271 _ _ h58
        have h116 := h116.mono S271
        have h123 := h123.mono S271
        have h127 := S271 _ _ h127
        have hl128 := hl128.mono S271
        have h137 := S271 _ _ h137
        have hl138 := hl138.mono S271
        have hl155 := hl155.mono S271
        have h157 := S271 _ _ h157
        have h166 := S271 _ _ h166
        have hl167 := hl167.mono S271
        have h217 := h217.mono S271
        have hl239 := hl239.mono S271
        have hl233 := hl233.mono S271
        have h241 := S271 _ _ h241
        have O274 := O250.got O269 rfl hn265 hf266 h267
        have z275 := O250.was hn265
        obtain ⟨F276, O277, S278, h279⟩ := O274.frzE 0 rfl z275
        have f_tree := f_tree.mono S278
        have f_order := f_order.mono S278
        have h4 := S278 _ _ h4
        have hl5 := hl5.mono S278
        have h12 := h12.mono S278
        have hl31 := hl31.mono S278
        have hl25 := hl25.mono S278
        have h33 := S278 _ _ h33
        have hl56 := hl56.mono S278
        have h58 := S278 _ _ h58
        have h116 := h116.mono S278
        have h123 := h123.mono S278
        have h127 := S278 _ _ h127
        have hl128 := hl128.mono S278
        have h137 := S278 _ _ h137
        have hl138 := hl138.mono S278
        have hl155 := hl155.mono S278
        have h157 := S278 _ _ h157
        have h166 := S278 _ _ h166
        have hl167 := hl167.mono S278
        have h217 := h217.mono S278
        have hl239 := hl239.mono S278
        have hl233 := hl233.mono S278
        have h241 := S278 _ _ h241
        have hl268 := hl268.mono S278
        have h280 := R.lst (a := Int) h279 hl268
        obtain ⟨p281, w282, e283, h284, hl285⟩ := R.lst_ h280
        cases e283
        obtain ⟨c291, L287, hL288, hLs289, hLd290⟩ := compS_L hk
        refine ⟨_, rfl, ⟨_, (SqLF O277.s h284)⟩, fun p292 hp293 => ?_⟩
        have z319 := O277.was hp293
        refine lc_list (K := K) (xs := w282) (fun i H => ∃ (F_ : Hp) (st : Unit) (acc : List Int) (wa : List V), Same F276 F_ ∧ Ow _ F_ [(p292, .lst wa), (p228, .lst w229), (p234, .lst w235), (p150, .lst w151), (p51, .lst w52), (p20, .lst w21), (p26, .lst w27)] H ∧ RL F_ wa acc ∧ wa.length ≤ i ∧ L287 (List.drop i r258) acc st) ⟨F276, (), [], [], Same.refl _, O277.new hp293, RL.nil, Nat.zero_le _, hL288⟩ (fun i_ H_ _ hp_ => ?_) ?_ ?_
        · obtain ⟨_, _, _, _, hS_, hO_, _⟩ := hp_
          exact SqLF hO_.s (hS_ _ _ h284)
        · rintro i294 x295 H296 hi297 ⟨F302, st303, acc299, wa300, S304, O306, hl305, la301, hL288⟩
          have f_tree := f_tree.mono S304
          have f_order := f_order.mono S304
          have h4 := S304 _ _ h4
          have hl5 := hl5.mono S304
          have h12 := h12.mono S304
          have hl31 := hl31.mono S304
          have hl25 := hl25.mono S304
          have h33 := S304 _ _ h33
          have hl56 := hl56.mono S304
          have h58 := S304 _ _ h58
          have h116 := h116.mono S304
          have h123 := h123.mono S304
          have h127 := S304 _ _ h127
          have hl128 := hl128.mono S304
          have h137 := S304 _ _ h137
          have hl138 := hl138.mono S304
          have hl155 := hl155.mono S304
          have h157 := S304 _ _ h157
          have h166 := S304 _ _ h166
          have hl167 := hl167.mono S304
          have h217 := h217.mono S304
          have hl239 := hl239.mono S304
          have hl233 := hl233.mono S304
          have h241 := S304 _ _ h241
          have h280 := h280.mono S304
          have h284 := S304 _ _ h284
          have hl285 := hl285.mono S304
          obtain ⟨y286, e307, r308⟩ := RL.got hl285 hi297
          rw [drop_at e307] at hL288
          have hk := hLs289 _ _ _ _ hL288
          obtain rfl := R.int_ r308
          refine ⟨rfl, ?_⟩
          obtain ⟨p309, w310, e311, h312, hl313⟩ := R.lst_ f_order
          cases e311
          obtain ⟨y314, e315, hk⟩ := wp_opt hk
          obtain ⟨w316, e317, r318⟩ := hl313.atI e315
          obtain rfl := R.int_ r318
          refine ⟨_, rfl, _, rfl, _, _, _, _, rfl, rfl, (SqLF O306.s h312), e317, _, (O306.at 0 rfl), (comp_len la301 hi297 hl285.len c291), ?_⟩
          exact ⟨F302, (), acc299 ++ [y314], wa300 ++ [V.int y314], S304, O306.set 0 (.lst (wa300 ++ [V.int y314])) rfl, RL.snoc hl305 R.int, by rw [List.length_append]; exact Nat.succ_le_succ la301, hk⟩
        rintro H320 ⟨F321, st322, acc323, wa324, S325, O326, hl327, la328, hL329⟩
        rw [drop_end hl285.len] at hL329
        have hk := hLd290 _ _ hL329
        have f_tree := f_tree.mono S325
        have f_order := f_order.mono S325
        have h4 := S325 _ _ h4
        have hl5 := hl5.mono S325
        have h12 := h12.mono S325
        have hl31 := hl31.mono S325
        have hl25 := hl25.mono S325
        have h33 := S325 _ _ h33
        have hl56 := hl56.mono S325
        have h58 := S325 _ _ h58
        have h116 := h116.mono S325
        have h123 := h123.mono S325
        have h127 := S325 _ _ h127
        have hl128 := hl128.mono S325
        have h137 := S325 _ _ h137
        have hl138 := hl138.mono S325
        have hl155 := hl155.mono S325
        have h157 := S325 _ _ h157
        have h166 := S325 _ _ h166
        have hl167 := hl167.mono S325
        have h217 := h217.mono S325
        have hl239 := hl239.mono S325
        have hl233 := hl233.mono S325
        have h241 := S325 _ _ h241
        have h280 := h280.mono S325
        have h284 := S325 _ _ h284
        have hl285 := hl285.mono S325
        obtain ⟨F331, O332, S333, h334⟩ := O326.frzE 0 rfl z319
        have f_tree := f_tree.mono S333
        have f_order := f_order.mono S333
        have h4 := S333 _ _ h4
        have hl5 := hl5.mono S333
        have h12 := h12.mono S333
        have hl31 := hl31.mono S333
        have hl25 := hl25.mono S333
        have h33 := S333 _ _ h33
        have hl56 := hl56.mono S333
        have h58 := S333 _ _ h58
        have h116 := h116.mono S333
        have h123 := h123.mono S333
        have h127 := S333 _ _ h127
        have hl128 := hl128.mono S333
        have h137 := S333 _ _ h137
        have hl138 := hl138.mono S333
        have hl155 := hl155.mono S333
        have h157 := S333 _ _ h157
        have h166 := S333 _ _ h166
        have hl167 := hl167.mono S333
        have h217 := h217.mono S333
        have hl239 := hl239.mono S333
        have hl233 := hl233.mono S333
        have h241 := S333 _ _ h241
        have h280 := h280.mono S333
        have h284 := S333 _ _ h284
        have hl285 := hl285.mono S333
        have hl327 := hl327.mono S333
        have h335 := R.lst (a := Int) h334 hl327
        obtain ⟨p336, w337, e338, h339, hl340⟩ := R.lst_ h335
        cases e338
        refine ⟨_, _, _, rfl, (O332.s _ _ h339), (RL.mono hl340 O332.s), fun p341 hp342 => ?_⟩
        have hl348 : RL (a := Int) F331 (sortV w337 acc323) (sortT acc323) := (RL.sorted hl340)
        obtain ⟨F343, O344, S345, h346⟩ := O332.putE hp342 (.lst (sortV w337 acc323))
        have f_tree := f_tree.mono S345
        have f_order := f_order.mono S345
        have h4 := S345 _ _ h4
        have hl5 := hl5.mono S345
        have h12 := h12.mono S345
        have hl31 := hl31.mono S345
        have hl25 := hl25.mono S345
        have h33 := S345 _ _ h33
        have hl56 := hl56.mono S345
        have h58 := S345 _ _ h58
        have h116 := h116.mono S345
        have h123 := h123.mono S345
        have h127 := S345 _ _ h127
        have hl128 := hl128.mono S345
        have h137 := S345 _ _ h137
        have hl138 := hl138.mono S345
        have hl155 := hl155.mono S345
        have h157 := S345 _ _ h157
        have h166 := S345 _ _ h166
        have hl167 := hl167.mono S345
        have h217 := h217.mono S345
        have hl239 := hl239.mono S345
        have hl233 := hl233.mono S345
        have h241 := S345 _ _ h241
        have h280 := h280.mono S345
        have h284 := S345 _ _ h284
        have hl285 := hl285.mono S345
        have h335 := h335.mono S345
        have h339 := S345 _ _ h339
        have hl340 := hl340.mono S345
        have hl348 := hl348.mono S345
        have h347 := R.lst (a := Int) h346 hl348
        obtain ⟨p349, w350, e351, h352, hl353⟩ := R.lst_ f_order
        cases e351
        obtain ⟨y354, e355, hk⟩ := wp_opt hk
        obtain ⟨w356, e357, r358⟩ := hl353.atI e355
        obtain rfl := R.int_ r358
        refine ⟨_, rfl, _, rfl, _, rfl, _, rfl, _, _, _, _, rfl, rfl, (SqLF O344.s h352), e357, _, _, _, _, rfl, O344.pre0, f_tree, wp_call hk (fun r359 er360 hk F361 H362 g363 p364 w365 hn366 hf367 h368 hl369 => ?_) (fun n hn C H1 hC kp => hn C H1 hC (O344.kp0 kp))⟩
        have O370 := O344.call0 g363
        have S_ := g363.f
        have f_tree := f_tree.mono S_
        have f_order := f_order.mono S_
        have h4 := S_ _ _ h4
        have hl5 := hl5.mono S_
        have h12 := h12.mono S_
        have hl31 := hl31.mono S_
        have hl25 := hl25.mono S_
        have h33 := S_ _ _ h33
        have hl56 := hl56.mono S_
        have h58 := S_ _ _ h58
        have h116 := h116.mono S_
        have h123 := h123.mono S_
        have h127 := S_ _ _ h127
        have hl128 := hl128.mono S_
        have h137 := S_ _ _ h137
        have hl138 := hl138.mono S_
        have hl155 := hl155.mono S_
        have h157 := S_ _ _ h157
        have h166 := S_ _ _ h166
        have hl167 := hl167.mono S_
        have h217 := h217.mono S_
        have hl239 := hl239.mono S_
        have hl233 := hl233.mono S_
        have h241 := S_ _ _ h241
        have h280 := h280.mono S_
        have h284 := S_ _ _ h284
        have hl285 := hl285.mono S_
        have h335 := h335.mono S_
        have h339 := S_ _ _ h339
        have hl340 := hl340.mono S_
        have h347 := h347.mono S_
        have h352 := S_ _ _ h352
        have hl353 := hl353.mono S_
        have O371 := O344.got O370 rfl hn366 hf367 h368
        have z372 := O344.was hn366
        obtain ⟨F373, O374, S375, h376⟩ := O371.frzE 0 rfl z372
        have f_tree := f_tree.mono S375
        have f_order := f_order.mono S375
        have h4 := S375 _ _ h4
        have hl5 := hl5.mono S375
        have h12 := h12.mono S375
        have hl31 := hl31.mono S375
        have hl25 := hl25.mono S375
        have h33 := S375 _ _ h33
        have hl56 := hl56.mono S375
        have h58 := S375 _ _ h58
        have h116 := h116.mono S375
        have h123 := h123.mono S375
        have h127 := S375 _ _ h127
        have hl128 := hl128.mono S375
        have h137 := S375 _ _ h137
        have hl138 := hl138.mono S375
        have hl155 := hl155.mono S375
        have h157 := S375 _ _ h157
        have h166 := S375 _ _ h166
        have hl167 := hl167.mono S375
        have h217 := h217.mono S375
        have hl239 := hl239.mono S375
        have hl233 := hl233.mono S375
        have h241 := S375 _ _ h241
        have h280 := h280.mono S375
        have h284 := S375 _ _ h284
        have hl285 := hl285.mono S375
        have h335 := h335.mono S375
        have h339 := S375 _ _ h339
        have hl340 := hl340.mono S375
        have h347 := h347.mono S375
        have h352 := S375 _ _ h352
        have hl353 := hl353.mono S375
        have hl369 := hl369.mono S375
        have h377 := R.lst (a := Int) h376 hl369
        refine ⟨_, _, (R.mono h347 O374.s), (R.mono h377 O374.s), _, rfl, ?_⟩
        refine iteD (fun q378 => ?_) (fun q378 => ?_)
        · have hk := wp_if hk q378
          obtain ⟨p379, w380, e381, h382, hl383⟩ := R.lst_ f_order
          cases e381
          obtain ⟨c384, hk⟩ := wp_chk hk
          refine ⟨_, rfl, _, rfl, _, _, _, rfl, (.inl (O374.s _ _ h382)), hl383.len, _, rfl, c384.rg1, fun p385 hp386 => ?_⟩
          have hl392 : RL (a := Int) F373 (rgV 0 (x_order.length : Int)) (rangeL 0 (x_order.length : Int)) := RL.rg
          obtain ⟨F387, O388, S389, h390⟩ := O374.putE hp386 (.lst (rgV 0 (x_order.length : Int)))
          have f_tree := f_tree.mono S389
          have f_order := f_order.mono S389
          have h4 := S389 _ _ h4
          have hl5 := hl5.mono S389
          have h12 := h12.mono S389
          have hl31 := hl31.mono S389
          have hl25 := hl25.mono S389
          have h33 := S389 _ _ h33
          have hl56 := hl56.mono S389
          have h58 := S389 _ _ h58
          have h116 := h116.mono S389
          have h123 := h123.mono S389
          have h127 := S389 _ _ h127
          have hl128 := hl128.mono S389
          have h137 := S389 _ _ h137
          have hl138 := hl138.mono S389
          have hl155 := hl155.mono S389
          have h157 := S389 _ _ h157
          have h166 := S389 _ _ h166
          have hl167 := hl167.mono S389
          have h217 := h217.mono S389
          have hl239 := hl239.mono S389
          have hl233 := hl233.mono S389
          have h241 := S389 _ _ h241
          have h280 := h280.mono S389
          have h284 := S389 _ _ h284
          have hl285 := hl285.mono S389
          have h335 := h335.mono S389
          have h339 := S389 _ _ h339
          have hl340 := hl340.mono S389
          have h347 := h347.mono S389
          have h352 := S389 _ _ h352
          have hl353 := hl353.mono S389
          have h377 := h377.mono S389
          have h382 := S389 _ _ h382
          have hl383 := hl383.mono S389
          have hl392 := hl392.mono S389
          have h391 := R.lst (a := Int) h390 hl392
          refine ⟨_, _, _, _, _, rfl, O388.pre0, f_tree, h391, wp_call hk (fun r393 er394 hk F395 H396 g397 p398 p399 w400 p405 w406 hn401 hf402 h403 hl404 hn407 hf408 h409 hl410 hne411 h412 => ?_) (fun n hn C H1 hC kp => hn C H1 hC (O388.kp0 kp))⟩
          have O413 := O388.call0 g397
          have S_ := g397.f
          have f_tree := f_tree.mono S_
          have f_order := f_order.mono S_
          have h4 := S_ _ _ h4
          have hl5 := hl5.mono S_
          have h12 := h12.mono S_
          have hl31 := hl31.mono S_
          have hl25 := hl25.mono S_
          have h33 := S_ _ _ h33
          have hl56 := hl56.mono S_
          have h58 := S_ _ _ h58
          have h116 := h116.mono S_
          have h123 := h123.mono S_
          have h127 := S_ _ _ h127
          have hl128 := hl128.mono S_
          have h137 := S_ _ _ h137
          have hl138 := hl138.mono S_
          have hl155 := hl155.mono S_
          have h157 := S_ _ _ h157
          have h166 := S_ _ _ h166
          have hl167 := hl167.mono S_
          have h217 := h217.mono S_
          have hl239 := hl239.mono S_
          have hl233 := hl233.mono S_
          have h241 := S_ _ _ h241
          have h280 := h280.mono S_
          have h284 := S_ _ _ h284
          have hl285 := hl285.mono S_
          have h335 := h335.mono S_
          have h339 := S_ _ _ h339
          have hl340 := hl340.mono S_
          have h347 := h347.mono S_
          have h352 := S_ _ _ h352
          have hl353 := hl353.mono S_
          have h377 := h377.mono S_
          have h382 := S_ _ _ h382
          have hl383 := hl383.mono S_
          have h391 := h391.mono S_
          have z415 := O388.was hn407
          have O414 := O413.add' (O388.fresh hn407) z415 hf408 h409
          have z418 := O388.was hn401
          have O417 := O414.add' (nmem2 hne411 (O388.fresh hn401)) z418 hf402 h403
          refine ⟨_, rfl, _, _, (R.t2 (x := ((r393.1, r393.2) : ((List Int) × (List (T3 Int Int Int))))) (O417.s _ _ h412) (R.lst (a := Int) (O417.at 0 rfl) (hl404.mono O417.s)) (R.lst (a := (T3 Int Int Int)) (O417.at 1 rfl) (hl410.mono O417.s))), (R.mono f_tree O417.s), ?_⟩
          exact hk _ _  O417.g 
        · have hk := wp_el hk q378
          exact hk _ _  O374.g 
abbrev s_law : Stmt := top 25
theorem sc_law : FnScope ["script", "cell", "deck", "tree", "many", "order", "one", "other", "last", "k", "place"] ["script"] (defScope s_law) := ⟨rfl, rfl, rfl, by decide +kernel, rfl, by decide +kernel, by decide +kernel⟩
def m_law (x_script : (List Int)) : M (Bool) :=
chk (([((10 : Int) ^ Int.toNat (18 : Int))]).length + (cutL x_script none (some (4 : Int))).length < 16777216) >>= fun _ =>
loopM (fun (y41 : Int) (st52 : Unit) =>
m_law_deck y41 >>= fun r66 =>
m_law_take r66 (4 : Int) >>= fun r88 =>
opt (atI ([(10 : Int), (10 : Int), (10 : Int), (40 : Int)]) r88.1) >>= fun y102 =>
m_law_far r88.2 >>= fun r107 =>
m_law_tree r107.2 y102 r107.1 >>= fun r116 =>
m_law_order r116.2 (r116.1.1.length : Int) >>= fun r139 =>
chk (okR (3 : Int)) >>= fun _ =>
compS (fun (y161 : Int) (st179 : (List Int)) =>
m_law_take st179 (r116.1.1.length : Int) >>= fun r185 =>
.ok (some r185.1, r185.2)) (rangeL 0 (3 : Int)) r139.2 >>= fun q207 =>
two3 q207.1 >>= fun (x218, x219, x220) =>
m_tree_of r116.1.1 (r116.1.2.reverse) >>= fun r264 =>
if (r264.1, r264.2) ≠ r116.1 then (
.ok (.rt false))
else (
chk (okR (r116.1.1.length : Int)) >>= fun _ =>
compS (fun (y292 : Int) (st310 : Unit) =>
m_tied_to r116.1 y292 >>= fun r314 =>
.ok (some (r314.length : Int), ())) (rangeL 0 (r116.1.1.length : Int)) () >>= fun q349 =>
chk (CMulW (2 : Int) (r116.1.1.length : Int)) >>= fun _ =>
if (List.sum q349.1) ≠ (((2 : Int) * (r116.1.1.length : Int)) - (2 : Int)) then (
.ok (.rt false))
else (
m_law_ways_right r116.1 x218 x219 x220 >>= fun r362 =>
if r362 = true then (
m_law_turned_right r116.1 r139.1 x218 x219 >>= fun r369 =>
if r369 = true then (
.ok (.nx ()))
else (
.ok (.rt false)))
else (
.ok (.rt false))))) (([((10 : Int) ^ Int.toNat (18 : Int))]) ++ (cutL x_script none (some (4 : Int)))) () >>= fun f394 => match f394 with
| .rt z_ => .ok z_
| .nx st382 =>
.ok true
def sp_law (K : PySem.W.Frag) : Sp := fun vs H Q E => ∃ (F : Hp) (a_script : Addr) (x_script : (List Int)), vs = [.ref a_script] ∧ Pre F [] H ∧ SqL K F a_script (x_script.map V.int) ∧
  wp (m_law x_script) (fun r => ∀ (F' H' : Hp), Gr [] F H F' H' → Q (V.bl r) H') (fun _ => False)
set_option maxHeartbeats 2000000 in
theorem ok_law (nb : Nb mg) (C_law_deck : Ca P w K mg base "_law_deck" 2 ["cell"] (sp_law_deck mg)) (C_law_far : Ca P w K mg base "_law_far" 2 ["deck"] (sp_law_far mg)) (C_law_order : Ca P w K mg base "_law_order" 2 ["deck", "many"] (sp_law_order mg)) (C_law_take : Ca P w K mg base "_law_take" 1 ["deck", "many"] (sp_law_take mg)) (C_law_tree : Ca P w K mg base "_law_tree" 3 ["deck", "most", "far"] (sp_law_tree mg)) (C_law_turned_right : Ca P w K mg base "_law_turned_right" 3 ["tree", "order", "one", "other"] (sp_law_turned_right mg)) (C_law_ways_right : Ca P w K mg base "_law_ways_right" 3 ["tree", "one", "other", "last"] (sp_law_ways_right mg)) (C_tied_to : Ca P w K mg base "tied_to" 2 ["tree", "place"] (sp_tied_to mg)) (C_tree_of : Ca P w K mg base "tree_of" 2 ["worths", "ties"] (sp_tree_of mg)) {f : Addr} {fd : FuncData} (F_ : Fun K "law" "law" s_law f fd) : FnOk P w K mg base (L2.CX P w) 4 f fd ["script"] (sp_law K) := by
  obtain ⟨fa_law_deck, fd_law_deck, G_law_deck, M_law_deck, K_law_deck, B_law_deck⟩ := C_law_deck.ex
  obtain ⟨fa_law_far, fd_law_far, G_law_far, M_law_far, K_law_far, B_law_far⟩ := C_law_far.ex
  obtain ⟨fa_law_order, fd_law_order, G_law_order, M_law_order, K_law_order, B_law_order⟩ := C_law_order.ex
  obtain ⟨fa_law_take, fd_law_take, G_law_take, M_law_take, K_law_take, B_law_take⟩ := C_law_take.ex
  obtain ⟨fa_law_tree, fd_law_tree, G_law_tree, M_law_tree, K_law_tree, B_law_tree⟩ := C_law_tree.ex
  obtain ⟨fa_law_turned_right, fd_law_turned_right, G_law_turned_right, M_law_turned_right, K_law_turned_right, B_law_turned_right⟩ := C_law_turned_right.ex
  obtain ⟨fa_law_ways_right, fd_law_ways_right, G_law_ways_right, M_law_ways_right, K_law_ways_right, B_law_ways_right⟩ := C_law_ways_right.ex
  obtain ⟨fa_tied_to, fd_tied_to, G_tied_to, M_tied_to, K_tied_to, B_tied_to⟩ := C_tied_to.ex
  obtain ⟨fa_tree_of, fd_tree_of, G_tree_of, M_tree_of, K_tree_of, B_tree_of⟩ := C_tree_of.ex
  refine F_.okX sc_law (fun vs H Q E h => ?_) (fun cdv A outer s H vs Q E hr h => ?_)
  · obtain ⟨F, _, _, rfl, _⟩ := h
    rfl
  · obtain ⟨F, a_script, x_script, rfl, P0, f_script, hk⟩ := h
    have nd := sc_law.nd
    have hu64 := hr.units
    have hu128 := hu128_of hr
    have O := P0.start
    refine ⟨_, (pss_cons (ps_for (passes_of rfl) rfl (piListK (K := K) rfl (pe_op op_cat (pe_lst (pa_cons (pe_op op_pow pe_int pe_int) pa_nil)) (pe_slice (slListK (K := K) rfl) (pv 0) po_none (po_some pe_int)))) (pg_name (i := 1) nd rfl (Or.inl rfl)) (pss_cons (ps_set (i := 2) nd rfl (Or.inr rfl) (pe_call G_law_deck (hr.mono (by decide)) rfl M_law_deck K_law_deck B_law_deck .nil (passes_call (takes_of rfl rfl rfl rfl) fun _ _ _ _ h => h) (pa_cons (pv 1) pa_nil)))
  (pss_cons (ps_set (i := 3) nd rfl (Or.inr rfl) (pe_call G_law_tree (hr.mono (by decide)) rfl M_law_tree K_law_tree B_law_tree .nil (passes_call (takes_of rfl rfl rfl rfl) fun _ _ _ _ h => h) (pa_cons (pv 2) (pa_cons (pe_ix (ixListK (K := K) rfl) (pe_lst (pa_cons pe_int (pa_cons pe_int (pa_cons pe_int (pa_cons pe_int pa_nil))))) (pe_call G_law_take (hr.mono (by decide)) rfl M_law_take K_law_take B_law_take .nil (passes_call (takes_of rfl rfl rfl rfl) fun _ _ _ _ h => h) (pa_cons (pv 2) (pa_cons pe_int pa_nil))) (fun _ _ => rfl)) (pa_cons (pe_call G_law_far (hr.mono (by decide)) rfl M_law_far K_law_far B_law_far .nil (passes_call (takes_of rfl rfl rfl rfl) fun _ _ _ _ h => h) (pa_cons (pv 2) pa_nil)) pa_nil)))))
  (pss_cons (ps_set (i := 4) nd rfl (Or.inr rfl) (pe_callB call_lenT (by rfl) nb.b_len PySem.boot_len (pa_cons (pe_ix (ixTupK (K := K) rfl) (pv 3) pe_int (fun _ _ => rfl)) pa_nil)))
  (pss_cons (ps_set (i := 5) nd rfl (Or.inl rfl) (pe_call G_law_order (hr.mono (by decide)) rfl M_law_order K_law_order B_law_order .nil (passes_call (takes_of rfl rfl rfl rfl) fun _ _ _ _ h => h) (pa_cons (pv 2) (pa_cons (pv 4) pa_nil))))
  (pss_cons (ps_asg (pe_lc (own := [("k", 9)]) (g := gName 9) (tt := _) rfl nd (pi_range1 rfl nb.b_range (pa_cons pe_int pa_nil)) (blkOk_by (own := [("k", 9)]) (N := ["script", "cell", "deck", "tree", "many", "order", "one", "other", "last", "k", "place"]) (sc := defScope s_law) (by decide +kernel)) (fun _ _ _ _ _ => (pg_name (i := 9) nd rfl (Or.inl rfl))) (fun _ _ _ _ _ => pts_nil) (fun _ _ _ _ _ => (pe_call G_law_take (hr.mono (by decide)) rfl M_law_take K_law_take B_law_take .nil passL (pa_cons (pv 2) (pa_cons (pv 4) pa_nil))))) (pgLstK (K := K) rfl rfl (pgs_cons (pg_name (i := 6) nd rfl (Or.inl rfl)) (pgs_cons (pg_name (i := 7) nd rfl (Or.inl rfl)) (pgs_cons (pg_name (i := 8) nd rfl (Or.inl rfl)) pgs_nil)))))
  (pss_cons (ps_if (pt_cmpR (op_neT ((List Int) × (List (T3 Int Int Int))) hu64) (pe_call G_tree_of (hr.mono (by decide)) rfl M_tree_of K_tree_of B_tree_of .nil (passes_call (takes_of rfl rfl rfl rfl) fun _ _ _ _ h => h) (pa_cons (pe_callTy (listOfK (K := K) rfl) (by rfl) nb.b_list (by decide +kernel) (pa_cons (pe_ix (ixTupK (K := K) rfl) (pv 3) pe_int (fun _ _ => rfl)) pa_nil)) (pa_cons (pe_revLK (K := K) rfl (pe_ix (ixTupK (K := K) rfl) (pv 3) pe_int (fun _ _ => rfl))) pa_nil))) (pv 3) (nomark _)) (pss_one (ps_ret pe_bl)) pss_nil)
  (pss_cons (ps_if (pt_cmpR (op_neT Int hu64) (pe_callB (cr_sumK (K := K) rfl rfl) (by rfl) nb.b_sum (by decide +kernel) (pa_cons (pe_lc (own := [("place", 10)]) (g := gName 10) (tt := _) rfl nd (pi_range1 rfl nb.b_range (pa_cons (pv 4) pa_nil)) (blkOk_by (own := [("place", 10)]) (N := ["script", "cell", "deck", "tree", "many", "order", "one", "other", "last", "k", "place"]) (sc := defScope s_law) (by decide +kernel)) (fun _ _ _ _ _ => (pg_name (i := 10) nd rfl (Or.inl rfl))) (fun _ _ _ _ _ => pts_nil) (fun _ _ _ _ _ => (pe_callB call_lenT (by rfl) nb.b_len PySem.boot_len (pa_cons (pe_call G_tied_to (hr.mono (by decide)) rfl M_tied_to K_tied_to B_tied_to .nil passL (pa_cons (pv 3) (pa_cons (pv 10) pa_nil))) pa_nil)))) pa_nil)) (pe_op op_sub (pe_op op_mulW pe_int (pv 4)) pe_int) (nomark _)) (pss_one (ps_ret pe_bl)) pss_nil)
  (pss_one (ps_if (PW.pt (pw_or (pt_not (pt_val (pe_call G_law_ways_right (hr.mono (by decide)) rfl M_law_ways_right K_law_ways_right B_law_ways_right .nil (passes_call (takes_of rfl rfl rfl rfl) fun _ _ _ _ h => h) (pa_cons (pv 3) (pa_cons (pv 6) (pa_cons (pv 7) (pa_cons (pv 8) pa_nil))))))) (pw_or1 (pt_not (pt_val (pe_call G_law_turned_right (hr.mono (by decide)) rfl M_law_turned_right K_law_turned_right B_law_turned_right .nil (passes_call (takes_of rfl rfl rfl rfl) fun _ _ _ _ h => h) (pa_cons (pv 3) (pa_cons (pv 5) (pa_cons (pv 6) (pa_cons (pv 7) pa_nil)))))))))) (pss_one (ps_ret pe_bl)) pss_nil))))))))))
  (pss_one (ps_ret pe_bl))), ?_⟩
    refine ⟨_, _, rfl, rfl, (by decide), (by show 1 ≤ sizeLine; decide), fun p1 hp2 => ?_⟩
    have hl8 : RL (a := Int) F ([V.int ((10 : Int) ^ Int.toNat (18 : Int))]) ([((10 : Int) ^ Int.toNat (18 : Int))]) := RL.cons R.int RL.nil
    obtain ⟨F3, O4, S5, h6⟩ := O.putE hp2 (.lst ([V.int ((10 : Int) ^ Int.toNat (18 : Int))]))
    have f_script := S5.seq f_script
    have hl8 := hl8.mono S5
    have h7 := R.lst (a := Int) h6 hl8
    refine ⟨_, rfl, _, rfl, _, _, rfl, (O4.s.seq f_script), fun p9 hp10 => ?_⟩
    have hl16 : RL (a := Int) F3 (cutV (List.map V.int x_script) none (some (4 : Int))) (cutL x_script none (some (4 : Int))) := RL.cutL RL.of_ints none (some (4 : Int))
    obtain ⟨F11, O12, S13, h14⟩ := O4.putE hp10 (.lst (cutV (List.map V.int x_script) none (some (4 : Int))))
    have f_script := S13.seq f_script
    have h7 := h7.mono S13
    have hl16 := hl16.mono S13
    have h15 := R.lst (a := Int) h14 hl16
    obtain ⟨p17, w18, e19, h20, hl21⟩ := R.lst_ h7
    cases e19
    obtain ⟨p22, w23, e24, h25, hl26⟩ := R.lst_ h15
    cases e24
    obtain ⟨c27, hk⟩ := wp_chk hk
    refine ⟨_, _, _, _, rfl, rfl, (O12.s _ _ h20), (O12.s _ _ h25), (by rw [hl21.len, hl26.len]; exact le_line c27), fun p28 hp29 => ?_⟩
    have hl35 : RL (a := Int) F11 (w18 ++ w23) (([((10 : Int) ^ Int.toNat (18 : Int))]) ++ (cutL x_script none (some (4 : Int)))) := RL.app hl21 hl26
    obtain ⟨F30, O31, S32, h33⟩ := O12.putE hp29 (.lst (w18 ++ w23))
    have f_script := S32.seq f_script
    have h7 := h7.mono S32
    have h15 := h15.mono S32
    have h20 := S32 _ _ h20
    have hl21 := hl21.mono S32
    have h25 := S32 _ _ h25
    have hl26 := hl26.mono S32
    have hl35 := hl35.mono S32
    have h34 := R.lst (a := Int) h33 hl35
    obtain ⟨p36, w37, e38, h39, hl40⟩ := R.lst_ h34
    cases e38
    obtain ⟨L42, hL43, hLs44, hLd45⟩ := loopM_L hk
    refine ⟨_, rfl, ⟨_, (SqLF O31.s h39)⟩, ?_⟩
    refine for_list (K := K) (xs := w37) (fun i σ H => ∃ (F_ : Hp) (st : Unit) (t_0 : Option V) (t_1 : Option V) (t_2 : Option V) (t_3 : Option V) (t_4 : Option V) (t_5 : Option V) (t_6 : Option V) (t_7 : Option V), σ = [some (V.ref a_script), t_0, t_1, t_2, t_3, t_4, t_5, t_6, t_7, none, none] ∧ Same F30 F_ ∧ Ow _ F_ [] H ∧ L42 (List.drop i (([((10 : Int) ^ Int.toNat (18 : Int))]) ++ (cutL x_script none (some (4 : Int))))) st) ⟨F30, (), none, none, none, none, none, none, none, none, rfl, Same.refl _, O31, hL43⟩ (fun i_ σ_ H_ _ hp_ => ?_) ?_ ?_
    · obtain ⟨_, _, _, _, _, _, _, _, _, _, _, hS_, hO_, _⟩ := hp_
      exact SqLF hO_.s (hS_ _ _ h39)
    · rintro i46 x47 sg48 H49 hi50 ⟨F61, st52, t53, t54, t55, t56, t57, t58, t59, t60, rfl, S51, O62, hL43⟩
      have f_script := S51.seq f_script
      have h7 := h7.mono S51
      have h15 := h15.mono S51
      have h20 := S51 _ _ h20
      have hl21 := hl21.mono S51
      have h25 := S51 _ _ h25
      have hl26 := hl26.mono S51
      have h34 := h34.mono S51
      have h39 := S51 _ _ h39
      have hl40 := hl40.mono S51
      obtain ⟨y41, e63, r64⟩ := RL.got hl40 hi50
      rw [drop_at e63] at hL43
      have hk := hLs44 _ _ _ hL43
      obtain rfl := R.int_ r64
      refine ⟨_, rfl, _, _, rfl, O62.pre0, wp_call hk (fun r66 er67 hk F68 H69 g70 p71 w72 hn73 hf74 h75 hl76 => ?_) (fun n hn C H1 hC kp => hn.elim)⟩
      have O77 := O62.call0 g70
      have S_ := g70.f
      have f_script := S_.seq f_script
      have h7 := h7.mono S_
      have h15 := h15.mono S_
      have h20 := S_ _ _ h20
      have hl21 := hl21.mono S_
      have h25 := S_ _ _ h25
      have hl26 := hl26.mono S_
      have h34 := h34.mono S_
      have h39 := S_ _ _ h39
      have hl40 := hl40.mono S_
      have S51 := S51.trans S_
      have O78 := O62.got O77 rfl hn73 hf74 h75
      have z79 := O62.was hn73
      refine ⟨_, rfl, (by show 4 ≤ sizeLine; decide), fun p80 hp81 => ?_⟩
      have hl87 : RL (a := Int) F68 ([V.int (10 : Int), V.int (10 : Int), V.int (10 : Int), V.int (40 : Int)]) ([(10 : Int), (10 : Int), (10 : Int), (40 : Int)]) := RL.cons R.int (RL.cons R.int (RL.cons R.int (RL.cons R.int RL.nil)))
      obtain ⟨F82, O83, S84, h85⟩ := O78.putE hp81 (.lst ([V.int (10 : Int), V.int (10 : Int), V.int (10 : Int), V.int (40 : Int)]))
      have f_script := S84.seq f_script
      have h7 := h7.mono S84
      have h15 := h15.mono S84
      have h20 := S84 _ _ h20
      have hl21 := hl21.mono S84
      have h25 := S84 _ _ h25
      have hl26 := hl26.mono S84
      have h34 := h34.mono S84
      have h39 := S84 _ _ h39
      have hl40 := hl40.mono S84
      have S51 := S51.trans S84
      have hl76 := hl76.mono S84
      have hl87 := hl87.mono S84
      have h86 := R.lst (a := Int) h85 hl87
      refine ⟨_, rfl, _, _, _, _, _, rfl, (O83.pre1 0 rfl), hl76, wp_call hk (fun r88 er89 hk F90 H91 w93 g92 h94 hl95 => ?_) (fun n hn C H1 hC kp => hn.elim)⟩
      have O96 := O83.call1 g92 0 rfl h94
      have S_ := g92.f
      have f_script := S_.seq f_script
      have h7 := h7.mono S_
      have h15 := h15.mono S_
      have h20 := S_ _ _ h20
      have hl21 := hl21.mono S_
      have h25 := S_ _ _ h25
      have hl26 := hl26.mono S_
      have h34 := h34.mono S_
      have h39 := S_ _ _ h39
      have hl40 := hl40.mono S_
      have S51 := S51.trans S_
      have h86 := h86.mono S_
      obtain ⟨p97, w98, e99, h100, hl101⟩ := R.lst_ h86
      cases e99
      obtain ⟨y102, e103, hk⟩ := wp_opt hk
      obtain ⟨w104, e105, r106⟩ := hl101.atI e103
      obtain rfl := R.int_ r106
      refine ⟨_, _, _, _, rfl, rfl, (SqLF O96.s h100), e105, _, rfl, _, _, _, _, rfl, (O96.pre1 0 rfl), hl95, wp_call hk (fun r107 er108 hk F109 H110 w112 g111 h113 hl114 => ?_) (fun n hn C H1 hC kp => hn.elim)⟩
      have O115 := O96.call1 g111 0 rfl h113
      have S_ := g111.f
      have f_script := S_.seq f_script
      have h7 := h7.mono S_
      have h15 := h15.mono S_
      have h20 := S_ _ _ h20
      have hl21 := hl21.mono S_
      have h25 := S_ _ _ h25
      have hl26 := hl26.mono S_
      have h34 := h34.mono S_
      have h39 := S_ _ _ h39
      have hl40 := hl40.mono S_
      have S51 := S51.trans S_
      have h86 := h86.mono S_
      have h100 := S_ _ _ h100
      have hl101 := hl101.mono S_
      refine ⟨_, _, _, _, _, _, rfl, (O115.pre1 0 rfl), hl114, wp_call hk (fun r116 er117 hk F118 H119 w121 g120 h122 hl123 v124 r125 => ?_) (fun n hn C H1 hC kp => hn.elim)⟩
      have O126 := O115.call1 g120 0 rfl h122
      have S_ := g120.f
      have f_script := S_.seq f_script
      have h7 := h7.mono S_
      have h15 := h15.mono S_
      have h20 := S_ _ _ h20
      have hl21 := hl21.mono S_
      have h25 := S_ _ _ h25
      have hl26 := hl26.mono S_
      have h34 := h34.mono S_
      have h39 := S_ _ _ h39
      have hl40 := hl40.mono S_
      have S51 := S51.trans S_
      have h86 := h86.mono S_
      have h100 := S_ _ _ h100
      have hl101 := hl101.mono S_
      obtain ⟨p127, v130, v131, e128, h129, r132, r133⟩ := R.t2_ r125
      cases e128
      obtain ⟨p134, w135, e136, h137, hl138⟩ := R.lst_ r132
      cases e136
      refine ⟨_, rfl, _, _, _, _, rfl, rfl, (SqTF O126.s h129), rfl, _, _, _, rfl, (.inl (O126.s _ _ h137)), hl138.len, _, rfl, _, rfl, _, _, _, _, _, rfl, (O126.pre1 0 rfl), hl123, wp_call hk (fun r139 er140 hk F141 H142 w144 g143 h145 hl146 p147 w148 hn149 hf150 h151 hl152 => ?_) (fun n hn C H1 hC kp => hn.elim)⟩
      have O153 := O126.call1 g143 0 rfl h145
      have S_ := g143.f
      have f_script := S_.seq f_script
      have h7 := h7.mono S_
      have h15 := h15.mono S_
      have h20 := S_ _ _ h20
      have hl21 := hl21.mono S_
      have h25 := S_ _ _ h25
      have hl26 := hl26.mono S_
      have h34 := h34.mono S_
      have h39 := S_ _ _ h39
      have hl40 := hl40.mono S_
      have S51 := S51.trans S_
      have h86 := h86.mono S_
      have h100 := S_ _ _ h100
      have hl101 := hl101.mono S_
      have r125 := r125.mono S_
      have h129 := S_ _ _ h129
      have r132 := r132.mono S_
      have r133 := r133.mono S_
      have h137 := S_ _ _ h137
      have hl138 := hl138.mono S_
      have O154 := O126.got O153 rfl hn149 hf150 h151
      have z155 := O126.was hn149
      obtain ⟨F156, O157, S158, h159⟩ := O154.frzE 0 rfl z155
      have f_script := S158.seq f_script
      have h7 := h7.mono S158
      have h15 := h15.mono S158
      have h20 := S158 _ _ h20
      have hl21 := hl21.mono S158
      have h25 := S158 _ _ h25
      have hl26 := hl26.mono S158
      have h34 := h34.mono S158
      have h39 := S158 _ _ h39
      have hl40 := hl40.mono S158
      have S51 := S51.trans S158
      have h86 := h86.mono S158
      have h100 := S158 _ _ h100
      have hl101 := hl101.mono S158
      have r125 := r125.mono S158
      have h129 := S158 _ _ h129
      have r132 := r132.mono S158
      have r133 := r133.mono S158
      have h137 := S158 _ _ h137
      have hl138 := hl138.mono S158
      have hl146 := hl146.mono S158
      have hl152 := hl152.mono S158
      have h160 := R.lst (a := Int) h159 hl152
      obtain ⟨c162, hk⟩ := wp_chk hk
      obtain ⟨c167, L163, hL164, hLs165, hLd166⟩ := compS_L hk
      refine ⟨_, rfl, c162.lo, c162.hi, fun p168 hp169 => ?_⟩
      have z194 := O157.was hp169
      refine lc_range (lo := 0) (n := ((3 : Int)).toNat) (fun i H => ∃ (F_ : Hp) (st : (List Int)) (acc : List Int) (wa : List V) (w_0 : (List V)), Same F156 F_ ∧ Ow _ F_ [(p168, .lst wa), (p71, .lst w_0)] H ∧ RL F_ wa acc ∧ RL (a := Int) F_ w_0 st ∧ wa.length ≤ i ∧ L163 (List.drop i (rangeL 0 (3 : Int))) acc st) ⟨F156, r139.2, [], [], w144, Same.refl _, O157.new hp169, RL.nil, hl146, Nat.zero_le _, hL164⟩ ?_ ?_
      · rintro i170 H172 hi173 ⟨F178, st179, acc175, wa176, w181, S180, O184, hl183, hl182, la177, hL164⟩
        have f_script := S180.seq f_script
        have h7 := h7.mono S180
        have h15 := h15.mono S180
        have h20 := S180 _ _ h20
        have hl21 := hl21.mono S180
        have h25 := S180 _ _ h25
        have hl26 := hl26.mono S180
        have h34 := h34.mono S180
        have h39 := S180 _ _ h39
        have hl40 := hl40.mono S180
        have S51 := S51.trans S180
        have h86 := h86.mono S180
        have h100 := S180 _ _ h100
        have hl101 := hl101.mono S180
        have r125 := r125.mono S180
        have h129 := S180 _ _ h129
        have r132 := r132.mono S180
        have r133 := r133.mono S180
        have h137 := S180 _ _ h137
        have hl138 := hl138.mono S180
        have h160 := h160.mono S180
        rw [rangeL_get0 hi173] at hL164
        have hk := hLs165 _ _ _ _ hL164
        obtain ⟨y161, he_⟩ : ∃ z_, z_ = 0 + (i170 : Int) := ⟨_, rfl⟩
        try rw [← he_] at hk
        rw [← he_]
        refine ⟨rfl, ?_⟩
        refine ⟨_, rfl, _, rfl, _, _, _, _, _, rfl, (O184.pre1 1 rfl), hl182, wp_call hk (fun r185 er186 hk F187 H188 w190 g189 h191 hl192 => ?_) (fun n hn => hn.elim)⟩
        have O193 := O184.call1 g189 1 rfl h191
        have S_ := g189.f
        have f_script := S_.seq f_script
        have h7 := h7.mono S_
        have h15 := h15.mono S_
        have h20 := S_ _ _ h20
        have hl21 := hl21.mono S_
        have h25 := S_ _ _ h25
        have hl26 := hl26.mono S_
        have h34 := h34.mono S_
        have h39 := S_ _ _ h39
        have hl40 := hl40.mono S_
        have S51 := S51.trans S_
        have h86 := h86.mono S_
        have h100 := S_ _ _ h100
        have hl101 := hl101.mono S_
        have r125 := r125.mono S_
        have h129 := S_ _ _ h129
        have r132 := r132.mono S_
        have r133 := r133.mono S_
        have h137 := S_ _ _ h137
        have hl138 := hl138.mono S_
        have h160 := h160.mono S_
        have S180 := S180.trans S_
        have hl183 := hl183.mono S_
        refine ⟨_, (O193.at 0 rfl), (comp_lenR la177 hi173 (by rw [Int.sub_zero]) c167), ?_⟩
        exact ⟨F187, r185.2, acc175 ++ [r185.1], wa176 ++ [V.int r185.1], w190, S180, O193.set 0 (.lst (wa176 ++ [V.int r185.1])) rfl, RL.snoc hl183 R.int, hl192, by rw [List.length_append]; exact Nat.succ_le_succ la177, hk⟩
      rintro H195 ⟨F196, st197, acc198, wa199, w205, S200, O201, hl202, hl206, la203, hL204⟩
      rw [rangeL_end0] at hL204
      have hk := hLd166 _ _ hL204
      have f_script := S200.seq f_script
      have h7 := h7.mono S200
      have h15 := h15.mono S200
      have h20 := S200 _ _ h20
      have hl21 := hl21.mono S200
      have h25 := S200 _ _ h25
      have hl26 := hl26.mono S200
      have h34 := h34.mono S200
      have h39 := S200 _ _ h39
      have hl40 := hl40.mono S200
      have S51 := S51.trans S200
      have h86 := h86.mono S200
      have h100 := S200 _ _ h100
      have hl101 := hl101.mono S200
      have r125 := r125.mono S200
      have h129 := S200 _ _ h129
      have r132 := r132.mono S200
      have r133 := r133.mono S200
      have h137 := S200 _ _ h137
      have hl138 := hl138.mono S200
      have h160 := h160.mono S200
      obtain ⟨F208, O209, S210, h211⟩ := O201.frzE 0 rfl z194
      have f_script := S210.seq f_script
      have h7 := h7.mono S210
      have h15 := h15.mono S210
      have h20 := S210 _ _ h20
      have hl21 := hl21.mono S210
      have h25 := S210 _ _ h25
      have hl26 := hl26.mono S210
      have h34 := h34.mono S210
      have h39 := S210 _ _ h39
      have hl40 := hl40.mono S210
      have S51 := S51.trans S210
      have h86 := h86.mono S210
      have h100 := S210 _ _ h100
      have hl101 := hl101.mono S210
      have r125 := r125.mono S210
      have h129 := S210 _ _ h129
      have r132 := r132.mono S210
      have r133 := r133.mono S210
      have h137 := S210 _ _ h137
      have hl138 := hl138.mono S210
      have h160 := h160.mono S210
      have hl206 := hl206.mono S210
      have hl202 := hl202.mono S210
      have h212 := R.lst (a := Int) h211 hl202
      obtain ⟨p213, w214, e215, h216, hl217⟩ := R.lst_ h212
      cases e215
      obtain ⟨x218, x219, x220, e221, hk⟩ := wp_two3 hk
      have hl222 : RL (a := Int) F208 w214 [x218, x219, x220] := by rw [← e221]; exact hl217
      obtain ⟨w223, w224, e225, r226, q227⟩ := RL.cons_ hl222
      obtain ⟨w228, w229, e230, r231, q232⟩ := RL.cons_ q227
      obtain ⟨w233, w234, e235, r236, q237⟩ := RL.cons_ q232
      rw [e230, e235, RL.nil_ q237] at e225
      obtain rfl := R.int_ r226
      obtain rfl := R.int_ r231
      obtain rfl := R.int_ r236
      refine ⟨_, _, rfl, (SqLF O209.s h216), (by rw [e225]; rfl), ?_⟩
      rw [e225]
      obtain ⟨p238, w239, e240, h241, hl242⟩ := R.lst_ r132
      cases e240
      refine ⟨_, _, rfl, _, _, rfl, _, _, rfl, rfl, _, rfl, _, _, _, _, rfl, rfl, (SqTF O209.s h129), rfl, _, _, rfl, (.inl (SqLF O209.s h241)), fun p243 hp244 => ?_⟩
      have hl250 : RL (a := Int) F208 w239 r116.1.1 := hl242
      obtain ⟨F245, O246, S247, h248⟩ := O209.putE hp244 (.lst w239)
      have f_script := S247.seq f_script
      have h7 := h7.mono S247
      have h15 := h15.mono S247
      have h20 := S247 _ _ h20
      have hl21 := hl21.mono S247
      have h25 := S247 _ _ h25
      have hl26 := hl26.mono S247
      have h34 := h34.mono S247
      have h39 := S247 _ _ h39
      have hl40 := hl40.mono S247
      have S51 := S51.trans S247
      have h86 := h86.mono S247
      have h100 := S247 _ _ h100
      have hl101 := hl101.mono S247
      have r125 := r125.mono S247
      have h129 := S247 _ _ h129
      have r132 := r132.mono S247
      have r133 := r133.mono S247
      have h137 := S247 _ _ h137
      have hl138 := hl138.mono S247
      have h160 := h160.mono S247
      have hl206 := hl206.mono S247
      have h212 := h212.mono S247
      have h216 := S247 _ _ h216
      have h241 := S247 _ _ h241
      have hl242 := hl242.mono S247
      have hl250 := hl250.mono S247
      have h249 := R.lst (a := Int) h248 hl250
      obtain ⟨p251, w252, e253, h254, hl255⟩ := R.lst_ r133
      cases e253
      refine ⟨_, rfl, _, _, _, _, rfl, rfl, (SqTF O246.s h129), rfl, _, _, rfl, (SqLF O246.s h254), fun p256 hp257 => ?_⟩
      have hl263 : RL (a := (T3 Int Int Int)) F245 w252.reverse (r116.1.2.reverse) := RL.rev hl255
      obtain ⟨F258, O259, S260, h261⟩ := O246.putE hp257 (.lst w252.reverse)
      have f_script := S260.seq f_script
      have h7 := h7.mono S260
      have h15 := h15.mono S260
      have h20 := S260 _ _ h20
      have hl21 := hl21.mono S260
      have h25 := S260 _ _ h25
      have hl26 := hl26.mono S260
      have h34 := h34.mono S260
      have h39 := S260 _ _ h39
      have hl40 := hl40.mono S260
      have S51 := S51.trans S260
      have h86 := h86.mono S260
      have h100 := S260 _ _ h100
      have hl101 := hl101.mono S260
      have r125 := r125.mono S260
      have h129 := S260 _ _ h129
      have r132 := r132.mono S260
      have r133 := r133.mono S260
      have h137 := S260 _ _ h137
      have hl138 := hl138.mono S260
      have h160 := h160.mono S260
      have hl206 := hl206.mono S260
      have h212 := h212.mono S260
      have h216 := S260 _ _ h216
      have h241 := S260 _ _ h241
      have hl242 := hl242.mono S260
      have h249 := h249.mono S260
      have h254 := S260 _ _ h254
      have hl255 := hl255.mono S260
      have hl263 := hl263.mono S260
      have h262 := R.lst (a := (T3 Int Int Int)) h261 hl263
      refine ⟨_, _, _, _, _, rfl, O259.pre0, h249, h262, wp_call hk (fun r264 er265 hk F266 H267 g268 p269 p270 w271 p276 w277 hn272 hf273 h274 hl275 hn278 hf279 h280 hl281 hne282 h283 => ?_) (fun n hn C H1 hC kp => hn.elim)⟩
      have O284 := O259.call0 g268
      have S_ := g268.f
      have f_script := S_.seq f_script
      have h7 := h7.mono S_
      have h15 := h15.mono S_
      have h20 := S_ _ _ h20
      have hl21 := hl21.mono S_
      have h25 := S_ _ _ h25
      have hl26 := hl26.mono S_
      have h34 := h34.mono S_
      have h39 := S_ _ _ h39
      have hl40 := hl40.mono S_
      have S51 := S51.trans S_
      have h86 := h86.mono S_
      have h100 := S_ _ _ h100
      have hl101 := hl101.mono S_
      have r125 := r125.mono S_
      have h129 := S_ _ _ h129
      have r132 := r132.mono S_
      have r133 := r133.mono S_
      have h137 := S_ _ _ h137
      have hl138 := hl138.mono S_
      have h160 := h160.mono S_
      have hl206 := hl206.mono S_
      have h212 := h212.mono S_
      have h216 := S_ _ _ h216
      have h241 := S_ _ _ h241
      have hl242 := hl242.mono S_
      have h249 := h249.mono S_
      have h254 := S_ _ _ h254
      have hl255 := hl255.mono S_
      have h262 := h262.mono S_
      have z286 := O259.was hn278
      have O285 := O284.add' (O259.fresh hn278) z286 hf279 h280
      have z289 := O259.was hn272
      have O288 := O285.add' (nmem2 hne282 (O259.fresh hn272)) z289 hf273 h274
      refine ⟨_, rfl, _, _, (R.t2 (x := ((r264.1, r264.2) : ((List Int) × (List (T3 Int Int Int))))) (O288.s _ _ h283) (R.lst (a := Int) (O288.at 0 rfl) (hl275.mono O288.s)) (R.lst (a := (T3 Int Int Int)) (O288.at 1 rfl) (hl281.mono O288.s))), (R.mono r125 O288.s), _, rfl, ?_⟩
      refine iteD (fun q291 => ?_) (fun q291 => ?_)
      · have hk := wp_if hk q291
        exact hk _ _  O288.g 
      · have hk := wp_el hk q291
        obtain ⟨c293, hk⟩ := wp_chk hk
        obtain ⟨c298, L294, hL295, hLs296, hLd297⟩ := compS_L hk
        refine ⟨_, rfl, _, rfl, c293.lo, c293.hi, fun p299 hp300 => ?_⟩
        have z338 := O288.was hp300
        refine lc_range (lo := 0) (n := ((r116.1.1.length : Int)).toNat) (fun i H => ∃ (F_ : Hp) (st : Unit) (acc : List Int) (wa : List V), Same F266 F_ ∧ Ow _ F_ [(p299, .lst wa), (p270, .lst w271), (p276, .lst w277), (p71, .lst w205)] H ∧ RL F_ wa acc ∧ wa.length ≤ i ∧ L294 (List.drop i (rangeL 0 (r116.1.1.length : Int))) acc st) ⟨F266, (), [], [], Same.refl _, O288.new hp300, RL.nil, Nat.zero_le _, hL295⟩ ?_ ?_
        · rintro i301 H303 hi304 ⟨F309, st310, acc306, wa307, S311, O313, hl312, la308, hL295⟩
          have f_script := S311.seq f_script
          have h7 := h7.mono S311
          have h15 := h15.mono S311
          have h20 := S311 _ _ h20
          have hl21 := hl21.mono S311
          have h25 := S311 _ _ h25
          have hl26 := hl26.mono S311
          have h34 := h34.mono S311
          have h39 := S311 _ _ h39
          have hl40 := hl40.mono S311
          have S51 := S51.trans S311
          have h86 := h86.mono S311
          have h100 := S311 _ _ h100
          have hl101 := hl101.mono S311
          have r125 := r125.mono S311
          have h129 := S311 _ _ h129
          have r132 := r132.mono S311
          have r133 := r133.mono S311
          have h137 := S311 _ _ h137
          have hl138 := hl138.mono S311
          have h160 := h160.mono S311
          have hl206 := hl206.mono S311
          have h212 := h212.mono S311
          have h216 := S311 _ _ h216
          have h241 := S311 _ _ h241
          have hl242 := hl242.mono S311
          have h249 := h249.mono S311
          have h254 := S311 _ _ h254
          have hl255 := hl255.mono S311
          have h262 := h262.mono S311
          have hl281 := hl281.mono S311
          have hl275 := hl275.mono S311
          have h283 := S311 _ _ h283
          rw [rangeL_get0 hi304] at hL295
          have hk := hLs296 _ _ _ _ hL295
          obtain ⟨y292, he_⟩ : ∃ z_, z_ = 0 + (i301 : Int) := ⟨_, rfl⟩
          try rw [← he_] at hk
          rw [← he_]
          refine ⟨rfl, ?_⟩
          refine ⟨_, rfl, _, rfl, _, _, _, _, rfl, O313.pre0, r125, wp_call hk (fun r314 er315 hk F316 H317 g318 p319 w320 hn321 hf322 h323 hl324 => ?_) (fun n hn => hn.elim)⟩
          have O325 := O313.call0 g318
          have S_ := g318.f
          have f_script := S_.seq f_script
          have h7 := h7.mono S_
          have h15 := h15.mono S_
          have h20 := S_ _ _ h20
          have hl21 := hl21.mono S_
          have h25 := S_ _ _ h25
          have hl26 := hl26.mono S_
          have h34 := h34.mono S_
          have h39 := S_ _ _ h39
          have hl40 := hl40.mono S_
          have S51 := S51.trans S_
          have h86 := h86.mono S_
          have h100 := S_ _ _ h100
          have hl101 := hl101.mono S_
          have r125 := r125.mono S_
          have h129 := S_ _ _ h129
          have r132 := r132.mono S_
          have r133 := r133.mono S_
          have h137 := S_ _ _ h137
          have hl138 := hl138.mono S_
          have h160 := h160.mono S_
          have hl206 := hl206.mono S_
          have h212 := h212.mono S_
          have h216 := S_ _ _ h216
          have h241 := S_ _ _ h241
          have hl242 := hl242.mono S_
          have h249 := h249.mono S_
          have h254 := S_ _ _ h254
          have hl255 := hl255.mono S_
          have h262 := h262.mono S_
          have hl281 := hl281.mono S_
          have hl275 := hl275.mono S_
          have h283 := S_ _ _ h283
          have S311 := S311.trans S_
          have hl312 := hl312.mono S_
          have O326 := O313.got O325 rfl hn321 hf322 h323
          have z327 := O313.was hn321
          obtain ⟨F328, O329, S330, h331⟩ := O326.frzE 0 rfl z327
          have f_script := S330.seq f_script
          have h7 := h7.mono S330
          have h15 := h15.mono S330
          have h20 := S330 _ _ h20
          have hl21 := hl21.mono S330
          have h25 := S330 _ _ h25
          have hl26 := hl26.mono S330
          have h34 := h34.mono S330
          have h39 := S330 _ _ h39
          have hl40 := hl40.mono S330
          have S51 := S51.trans S330
          have h86 := h86.mono S330
          have h100 := S330 _ _ h100
          have hl101 := hl101.mono S330
          have r125 := r125.mono S330
          have h129 := S330 _ _ h129
          have r132 := r132.mono S330
          have r133 := r133.mono S330
          have h137 := S330 _ _ h137
          have hl138 := hl138.mono S330
          have h160 := h160.mono S330
          have hl206 := hl206.mono S330
          have h212 := h212.mono S330
          have h216 := S330 _ _ h216
          have h241 := S330 _ _ h241
          have hl242 := hl242.mono S330
          have h249 := h249.mono S330
          have h254 := S330 _ _ h254
          have hl255 := hl255.mono S330
          have h262 := h262.mono S330
          have hl281 := hl281.mono S330
          have hl275 := hl275.mono S330
          have h283 := S330 _ _ h283
          have S311 := S311.trans S330
          have hl312 := hl312.mono S330
          have hl324 := hl324.mono S330
          have h332 := R.lst (a := Int) h331 hl324
          obtain ⟨p333, w334, e335, h336, hl337⟩ := R.lst_ h332
          cases e335
          refine ⟨_, _, _, rfl, (.inl (O329.s _ _ h336)), hl337.len, _, (O329.at 0 rfl), (comp_lenR la308 hi304 (by rw [Int.sub_zero]) c298), ?_⟩
          exact ⟨F328, (), acc306 ++ [(r314.length : Int)], wa307 ++ [V.int (r314.length : Int)], S311, O329.set 0 (.lst (wa307 ++ [V.int (r314.length : Int)])) rfl, RL.snoc hl312 R.int, by rw [List.length_append]; exact Nat.succ_le_succ la308, hk⟩
        rintro H339 ⟨F340, st341, acc342, wa343, S344, O345, hl346, la347, hL348⟩
        rw [rangeL_end0] at hL348
        have hk := hLd297 _ _ hL348
        have f_script := S344.seq f_script
        have h7 := h7.mono S344
        have h15 := h15.mono S344
        have h20 := S344 _ _ h20
        have hl21 := hl21.mono S344
        have h25 := S344 _ _ h25
        have hl26 := hl26.mono S344
        have h34 := h34.mono S344
        have h39 := S344 _ _ h39
        have hl40 := hl40.mono S344
        have S51 := S51.trans S344
        have h86 := h86.mono S344
        have h100 := S344 _ _ h100
        have hl101 := hl101.mono S344
        have r125 := r125.mono S344
        have h129 := S344 _ _ h129
        have r132 := r132.mono S344
        have r133 := r133.mono S344
        have h137 := S344 _ _ h137
        have hl138 := hl138.mono S344
        have h160 := h160.mono S344
        have hl206 := hl206.mono S344
        have h212 := h212.mono S344
        have h216 := S344 _ _ h216
        have h241 := S344 _ _ h241
        have hl242 := hl242.mono S344
        have h249 := h249.mono S344
        have h254 := S344 _ _ h254
        have hl255 := hl255.mono S344
        have h262 := h262.mono S344
        have hl281 := hl281.mono S344
        have hl275 := hl275.mono S344
        have h283 := S344 _ _ h283
        obtain ⟨F350, O351, S352, h353⟩ := O345.frzE 0 rfl z338
        have f_script := S352.seq f_script
        have h7 := h7.mono S352
        have h15 := h15.mono S352
        have h20 := S352 _ _ h20
        have hl21 := hl21.mono S352
        have h25 := S352 _ _ h25
        have hl26 := hl26.mono S352
        have h34 := h34.mono S352
        have h39 := S352 _ _ h39
        have hl40 := hl40.mono S352
        have S51 := S51.trans S352
        have h86 := h86.mono S352
        have h100 := S352 _ _ h100
        have hl101 := hl101.mono S352
        have r125 := r125.mono S352
        have h129 := S352 _ _ h129
        have r132 := r132.mono S352
        have r133 := r133.mono S352
        have h137 := S352 _ _ h137
        have hl138 := hl138.mono S352
        have h160 := h160.mono S352
        have hl206 := hl206.mono S352
        have h212 := h212.mono S352
        have h216 := S352 _ _ h216
        have h241 := S352 _ _ h241
        have hl242 := hl242.mono S352
        have h249 := h249.mono S352
        have h254 := S352 _ _ h254
        have hl255 := hl255.mono S352
        have h262 := h262.mono S352
        have hl281 := hl281.mono S352
        have hl275 := hl275.mono S352
        have h283 := S352 _ _ h283
        have hl346 := hl346.mono S352
        have h354 := R.lst (a := Int) h353 hl346
        obtain ⟨p355, w356, e357, h358, hl359⟩ := R.lst_ h354
        cases e357
        obtain ⟨c360, hk⟩ := wp_chk hk
        refine ⟨_, acc342, rfl, (by rw [← RL.ints hl359]; exact (SqLF O351.s h358)), _, rfl, _, _, rfl, rfl, c360, _, _, rfl, rfl, _, _, R.int, R.int, _, rfl, ?_⟩
        refine iteD (fun q361 => ?_) (fun q361 => ?_)
        · have hk := wp_if hk q361
          exact hk _ _  O351.g 
        · have hk := wp_el hk q361
          refine ⟨_, rfl, _, rfl, _, rfl, _, rfl, _, _, _, _, _, _, rfl, O351.pre0, r125, wp_call hk (fun r362 er363 hk F364 H365 g366 => ?_) (fun n hn C H1 hC kp => hn.elim)⟩
          have O367 := O351.call0 g366
          have S_ := g366.f
          have f_script := S_.seq f_script
          have h7 := h7.mono S_
          have h15 := h15.mono S_
          have h20 := S_ _ _ h20
          have hl21 := hl21.mono S_
          have h25 := S_ _ _ h25
          have hl26 := hl26.mono S_
          have h34 := h34.mono S_
          have h39 := S_ _ _ h39
          have hl40 := hl40.mono S_
          have S51 := S51.trans S_
          have h86 := h86.mono S_
          have h100 := S_ _ _ h100
          have hl101 := hl101.mono S_
          have r125 := r125.mono S_
          have h129 := S_ _ _ h129
          have r132 := r132.mono S_
          have r133 := r133.mono S_
          have h137 := S_ _ _ h137
          have hl138 := hl138.mono S_
          have h160 := h160.mono S_
          have hl206 := hl206.mono S_
          have h212 := h212.mono S_
          have h216 := S_ _ _ h216
          have h241 := S_ _ _ h241
          have hl242 := hl242.mono S_
          have h249 := h249.mono S_
          have h254 := S_ _ _ h254
          have hl255 := hl255.mono S_
          have h262 := h262.mono S_
          have hl281 := hl281.mono S_
          have hl275 := hl275.mono S_
          have h283 := S_ _ _ h283
          have h354 := h354.mono S_
          have h358 := S_ _ _ h358
          have hl359 := hl359.mono S_
          refine ⟨_, rfl, ?_⟩
          refine iteBN (fun q368 => ?_) (fun q368 => ?_)
          · have hk := wp_if hk q368
            refine ⟨_, rfl, _, rfl, _, rfl, _, rfl, _, _, _, _, _, _, _, rfl, O367.pre0, r125, h160, wp_call hk (fun r369 er370 hk F371 H372 g373 => ?_) (fun n hn C H1 hC kp => hn.elim)⟩
            have O374 := O367.call0 g373
            have S_ := g373.f
            have f_script := S_.seq f_script
            have h7 := h7.mono S_
            have h15 := h15.mono S_
            have h20 := S_ _ _ h20
            have hl21 := hl21.mono S_
            have h25 := S_ _ _ h25
            have hl26 := hl26.mono S_
            have h34 := h34.mono S_
            have h39 := S_ _ _ h39
            have hl40 := hl40.mono S_
            have S51 := S51.trans S_
            have h86 := h86.mono S_
            have h100 := S_ _ _ h100
            have hl101 := hl101.mono S_
            have r125 := r125.mono S_
            have h129 := S_ _ _ h129
            have r132 := r132.mono S_
            have r133 := r133.mono S_
            have h137 := S_ _ _ h137
            have hl138 := hl138.mono S_
            have h160 := h160.mono S_
            have hl206 := hl206.mono S_
            have h212 := h212.mono S_
            have h216 := S_ _ _ h216
            have h241 := S_ _ _ h241
            have hl242 := hl242.mono S_
            have h249 := h249.mono S_
            have h254 := S_ _ _ h254
            have hl255 := hl255.mono S_
            have h262 := h262.mono S_
            have hl281 := hl281.mono S_
            have hl275 := hl275.mono S_
            have h283 := S_ _ _ h283
            have h354 := h354.mono S_
            have h358 := S_ _ _ h358
            have hl359 := hl359.mono S_
            refine ⟨_, rfl, ?_⟩
            refine iteBN (fun q375 => ?_) (fun q375 => ?_)
            · have hk := wp_if hk q375
              have O376 := O374.drop 0
              have O377 := O376.drop 0
              have O378 := O377.drop 0
              exact ⟨F371, (), some (V.int y41), some (V.ref p71), some (V.ref p127), some (V.int (r116.1.1.length : Int)), some (V.ref p147), some (V.int x218), some (V.int x219), some (V.int x220), rfl, S51, O378, hk⟩
            · have hk := wp_el hk q375
              exact hk _ _  O374.g 
          · have hk := wp_el hk q368
            refine iteT ?_
            exact hk _ _  O367.g 
    rintro sg379 H380 ⟨F392, st382, t384, t385, t386, t387, t388, t389, t390, t391, rfl, S381, O393, hL383⟩
    rw [drop_end hl40.len] at hL383
    have hk := hLd45 _ hL383
    have f_script := S381.seq f_script
    have h7 := h7.mono S381
    have h15 := h15.mono S381
    have h20 := S381 _ _ h20
    have hl21 := hl21.mono S381
    have h25 := S381 _ _ h25
    have hl26 := hl26.mono S381
    have h34 := h34.mono S381
    have h39 := S381 _ _ h39
    have hl40 := hl40.mono S381
    exact hk _ _  O393.g 
end
set_option maxHeartbeats 2000000
/-! ### the law's own helpers -/
theorem take_ok (d m : Int) (h : 0 < m) (h2 : m ≤ 10 ^ 40) : m_law_take [d] m = .ok (d % m, [d / m]) := by
  unfold m_law_take
  rw [opt_b (show L2.atI [d] (0 : Int) = some d from rfl), chk_b h, opt_b (show L2.atI [d] (0 : Int) = some d from rfl), chk_b (cdivW h h2)]
  rfl
theorem pow10 (n : Nat) : (10 : Int) ^ n = ((10 ^ n : Nat) : Int) := by rw [Int.natCast_pow]; rfl
theorem stir_ok (c k : Int) (h : 1 ≤ k ∧ k ≤ 3) : ∃ s, m_law_stir c k = .ok s ∧ 0 ≤ s ∧ s < 10 ^ 62 := by
  unfold m_law_stir
  have e40 : (10 : Int) ^ Int.toNat (40 : Int) = 10000000000000000000000000000000000000000 := by decide
  have e60 : (3 : Int) ^ Int.toNat (60 : Int) = 42391158275216203514294433201 := by decide
  have e61 : (10 : Int) ^ Int.toNat (61 : Int) = 10000000000000000000000000000000000000000000000000000000000000 := by decide
  rw [e40, e60, e61]
  obtain ⟨r, hr⟩ : ∃ r, r = c % 10000000000000000000000000000000000000000 := ⟨_, rfl⟩
  have r0 : 0 ≤ r := by omega
  have r1 : r < 10000000000000000000000000000000000000000 := by omega
  rw [← hr]
  rw [chk_b (by decide)]
  rw [chk_b (cmulW (Nat.lt_of_lt_of_le (m := 10 ^ 40) (by omega) (by decide +kernel)) (by decide +kernel))]
  rw [chk_b (cmulW (by decide +kernel) (Nat.lt_of_lt_of_le (m := 5) (by omega) (by decide +kernel)))]
  obtain ⟨q, hq⟩ : ∃ q, q = 42391158275216203514294433201 * (k + 1) := ⟨_, rfl⟩
  have q0 : 0 ≤ q ∧ q ≤ 42391158275216203514294433201 * 4 := by omega
  rw [← hq]
  rw [chk_b (cmulW (Nat.lt_of_lt_of_le (m := 10 ^ 40) (by omega) (by decide +kernel)) (Nat.lt_of_lt_of_le (m := 5) (by omega) (by decide +kernel)))]
  have q2 : 0 ≤ q * (k + 1) ∧ q * (k + 1) ≤ 42391158275216203514294433201 * 16 := by
    have : k = 1 ∨ k = 2 ∨ k = 3 := by omega
    rcases this with rfl | rfl | rfl <;> omega
  rw [ret_b]
  obtain ⟨n, hn⟩ : ∃ n, n = r * 48271 + q * (k + 1) + k := ⟨_, rfl⟩
  rw [← hn]
  have n0 : 0 ≤ n := by omega
  have n1 : n.natAbs < 2 ^ 160 := Nat.lt_of_lt_of_le (m := 10 ^ 46) (by omega) (by decide)
  rw [chk_b (cmulW (Nat.lt_of_lt_of_le n1 (Nat.pow_le_pow_right (by decide) (by decide))) (Nat.lt_of_lt_of_le n1 (Nat.pow_le_pow_right (by decide) (by decide))))]
  rw [chk_b (cmulW (by decide +kernel) (Nat.lt_of_lt_of_le n1 (Nat.pow_le_pow_right (by decide) (by decide))))]
  rw [ret_b]
  have m1 : (n * n).natAbs < 2 ^ (160 + 160) := wide_lt n1 n1
  have m2 : ((69621 : Int) * n).natAbs < 2 ^ (17 + 160) := wide_lt (by decide) n1
  have m3 : (n * n + 69621 * n).natAbs < 2 ^ 321 := by
    have a1 := Int.natAbs_add_le (n * n) (69621 * n)
    have a2 : (2 : Nat) ^ (17 + 160) ≤ 2 ^ 320 := Nat.pow_le_pow_right (by decide) (by decide)
    have a3 : (2 : Nat) ^ 321 = 2 ^ 320 + 2 ^ 320 := by decide
    omega
  rw [chk_b (cmulW (Nat.lt_of_lt_of_le m3 (Nat.pow_le_pow_right (by decide) (by decide))) (Nat.lt_of_lt_of_le m3 (Nat.pow_le_pow_right (by decide) (by decide))))]
  rw [chk_b (by decide), chk_b (cdivW (by decide) (by decide))]
  refine ⟨_, rfl, ?_⟩
  have : (10 : Int) ^ 62 = 100000000000000000000000000000000000000000000000000000000000000 := by decide
  rw [this]
  omega
theorem deck_ok (c : Int) : ∃ d, m_law_deck c = .ok [d] := by
  unfold m_law_deck
  have e60 : (10 : Int) ^ Int.toNat (60 : Int) = 10 ^ 60 := rfl
  by_cases h : (10 : Int) ^ Int.toNat (18 : Int) ≤ c
  · rw [if_pos h]
    exact ⟨_, rfl⟩
  · rw [if_neg h]
    obtain ⟨s1, e1, a1, b1⟩ := stir_ok c 1 (by decide)
    obtain ⟨s2, e2, a2, b2⟩ := stir_ok c 2 (by decide)
    obtain ⟨s3, e3, _, _⟩ := stir_ok c 3 (by decide)
    have k62 : ((10 : Int) ^ 62).natAbs < 2 ^ 210 := by decide
    have w1 : s1.natAbs < 2 ^ 210 := wide_le a1 (Int.le_of_lt b1) k62
    have w2 : s2.natAbs < 2 ^ 210 := wide_le a2 (Int.le_of_lt b2) k62
    have k60 : ((10 : Int) ^ 60).natAbs < 2 ^ 200 := by decide
    rw [bind_ok e1, e60, chk_b (cmulW (Nat.lt_of_lt_of_le w1 (Nat.pow_le_pow_right (by decide) (by decide))) (Nat.lt_of_lt_of_le k60 (Nat.pow_le_pow_right (by decide) (by decide)))), bind_ok e2]
    have m1 : (s1 * 10 ^ 60).natAbs < 2 ^ (210 + 200) := wide_lt w1 k60
    have m2 : (s1 * 10 ^ 60 + s2).natAbs < 2 ^ 411 := by
      have x1 := Int.natAbs_add_le (s1 * 10 ^ 60) s2
      have x2 : (2 : Nat) ^ 210 ≤ 2 ^ 410 := Nat.pow_le_pow_right (by decide) (by decide)
      have x3 : (2 : Nat) ^ 411 = 2 ^ 410 + 2 ^ 410 := by decide
      omega
    rw [chk_b (cmulW (Nat.lt_of_lt_of_le m2 (Nat.pow_le_pow_right (by decide) (by decide))) (Nat.lt_of_lt_of_le k60 (Nat.pow_le_pow_right (by decide) (by decide)))), bind_ok e3]
    exact ⟨_, rfl⟩
/-- how far numbers go -/
def farB : Int := 100000000000000000000000000000
theorem number_ok (d far : Int) (h : 0 ≤ far) (h2 : far ≤ farB) : ∃ x d', m_law_number [d] far = .ok (x, [d']) ∧ -far ≤ x ∧ x ≤ far := by
  unfold m_law_number
  have hb : far ≤ 100000000000000000000000000000 := h2
  rw [chk_b (cmulW (by decide +kernel) (Nat.lt_of_lt_of_le (m := 10 ^ 40) (by omega) (by decide +kernel)))]
  rw [bind_ok (take_ok d (2 * far + 1) (by omega) (by have : (10 : Int) ^ 40 = 10000000000000000000000000000000000000000 := by decide
                                                      omega))]
  refine ⟨_, _, rfl, ?_, ?_⟩
  · show -far ≤ d % (2 * far + 1) - far
    have := Int.emod_nonneg d (show (2 * far + 1) ≠ 0 by omega)
    omega
  · show d % (2 * far + 1) - far ≤ far
    have := Int.emod_lt_of_pos d (show 0 < (2 * far + 1) by omega)
    omega
theorem take_small (d m : Int) (h : 0 < m) (h2 : m ≤ 1000000) : ∃ x d', m_law_take [d] m = .ok (x, [d']) ∧ 0 ≤ x ∧ x < m := by
  have k : (10 : Int) ^ 40 = 10000000000000000000000000000000000000000 := by decide
  exact ⟨_, _, take_ok d m h (by omega), Int.emod_nonneg _ (by omega), Int.emod_lt_of_pos _ h⟩
theorem nums_ok (far : Int) (h : 0 ≤ far) (h2 : far ≤ farB) {items : List Int} (hl : items.length < 16777216) (d : Int) :
    ∃ xs d', compS (fun (_ : Int) (st : List Int) => m_law_number st far >>= fun r => .ok (some r.1, r.2)) items [d] = .ok (xs, [d']) ∧ xs.length = items.length ∧ ∀ x ∈ xs, -far ≤ x ∧ x ≤ far := by
  obtain ⟨acc, st, e, ⟨d', rfl⟩, h3, h4⟩ := compS_run (f := fun (_ : Int) (st : List Int) => m_law_number st far >>= fun r => .ok (some r.1, r.2)) hl
    (fun pre acc st => (∃ d', st = [d']) ∧ acc.length = pre.length ∧ ∀ x ∈ acc, -far ≤ x ∧ x ≤ far) (x := [d]) ⟨⟨d, rfl⟩, rfl, fun _ h => nomatch h⟩ fun pre y post acc st _ ⟨⟨d', hd⟩, h3, h4⟩ => by
      subst hd
      obtain ⟨x, d2, e, hx⟩ := number_ok d' far h h2
      refine ⟨some x, [d2], by rw [bind_ok e], ⟨d2, rfl⟩, by simp [h3], fun z hz => ?_⟩
      rcases List.mem_append.mp hz with hz | hz
      · exact h4 z hz
      · rw [List.mem_singleton.mp hz]; exact hx
  exact ⟨acc, d', e, h3, h4⟩
theorem rangeL_mem {lo hi x : Int} : x ∈ rangeL lo hi ↔ lo ≤ x ∧ x < hi := by
  unfold rangeL
  rw [List.mem_map]
  constructor
  · rintro ⟨j, hj, rfl⟩
    have := List.mem_range.mp hj
    omega
  · rintro ⟨h1, h2⟩
    exact ⟨(x - lo).toNat, List.mem_range.mpr (by omega), by omega⟩
theorem rangeL_nodup (lo hi : Int) : (rangeL lo hi).Nodup := by
  unfold rangeL
  rw [List.nodup_iff_pairwise_ne, List.pairwise_map]
  exact List.nodup_range.imp fun h e => h (by omega)
/-- an order of all places -/
theorem order_ok (d n : Int) (h0 : 0 ≤ n) (h1 : n ≤ 1000000) : ∃ o d', m_law_order [d] n = .ok (o, [d']) ∧ o.Perm (rangeL 0 n) := by
  unfold m_law_order
  have hr : okR n := ⟨by omega, h1⟩
  rw [chk_b hr, chk_b hr]
  have hlen : (rangeL 0 n).length = n.toNat := by rw [rangeL_length]; omega
  obtain ⟨st, e, h2⟩ := loopN_run (f := fun (_ : Int) (st26 : (List Int) × (List Int) × (List Int)) =>
      m_law_take st26.2.2 (st26.2.1.length : Int) >>= fun r36 => popI st26.2.1 r36.1 >>= fun t54 => appL st26.1 t54.1 >>= fun _ => (.ok ((st26.1 ++ [t54.1]), t54.2, r36.2) : M _))
    (all := rangeL 0 n) (fun pre st => (∃ d', st.2.2 = [d']) ∧ (st.1 ++ st.2.1).Perm (rangeL 0 n) ∧ st.1.length = pre.length) (x := ([], rangeL 0 n, [d])) ⟨⟨d, rfl⟩, List.Perm.refl _, rfl⟩ fun pre y post st ea ⟨⟨d', hd⟩, hp, hl⟩ => by
      obtain ⟨fs, ls, ds⟩ := st
      have hd : ds = [d'] := hd
      subst hd
      have hp : (fs ++ ls).Perm (rangeL 0 n) := hp
      have hl : fs.length = pre.length := hl
      have hpl := hp.length_eq
      rw [List.length_append, hlen] at hpl
      have hal := congrArg List.length ea
      rw [List.length_append, List.length_cons, hlen] at hal
      obtain ⟨x, d2, ex, x0, x1⟩ := take_small d' (ls.length : Int) (by omega) (by omega)
      have hx : x.toNat < ls.length := by omega
      have eg : ls[x.toNat]? = some ls[x.toNat] := List.getElem?_eq_getElem hx
      refine ⟨(fs ++ [ls[x.toNat]], ls.eraseIdx x.toNat, [d2]), ?_, ⟨d2, rfl⟩, ?_, by simp [hl]⟩
      · show (m_law_take [d'] (ls.length : Int) >>= fun r36 => popI ls r36.1 >>= fun t54 => appL fs t54.1 >>= fun _ => (.ok ((fs ++ [t54.1]), t54.2, r36.2) : M _)) = _
        rw [bind_ok ex, bind_ok (popI_ok x0 eg (by omega)), bind_ok (appL_ok (by omega))]
      · show ((fs ++ [ls[x.toNat]]) ++ ls.eraseIdx x.toNat).Perm (rangeL 0 n)
        refine List.Perm.trans ?_ hp
        rw [List.append_assoc]
        refine List.Perm.append_left fs ?_
        show (ls[x.toNat] :: ls.eraseIdx x.toNat).Perm ls
        exact erase_perm hx
  obtain ⟨fs, ls, ds⟩ := st
  obtain ⟨⟨d', hd⟩, hp, hl⟩ := h2
  have hd : ds = [d'] := hd
  subst hd
  have hp : (fs ++ ls).Perm (rangeL 0 n) := hp
  have hl : fs.length = (rangeL 0 n).length := hl
  have hpl := hp.length_eq
  rw [List.length_append] at hpl
  have : ls = [] := List.length_eq_zero_iff.mp (by omega)
  subst this
  rw [List.append_nil] at hp
  rw [bind_ok e]
  exact ⟨fs, d', rfl, hp⟩

theorem at5 (a b c d e k : Int) (h : 0 ≤ k) (h5 : k < 5) (P : Int → Prop) (pa : P a) (pb : P b) (pc : P c) (pd : P d) (pe : P e) : ∃ x, L2.atI [a, b, c, d, e] k = some x ∧ P x := by
  obtain ⟨x, e1, e2⟩ := atI_some (xs := [a, b, c, d, e]) h (by simpa using h5)
  refine ⟨x, e1, ?_⟩
  have hm := List.mem_of_getElem? e2
  simp only [List.mem_cons, List.not_mem_nil, or_false] at hm
  rcases hm with rfl | rfl | rfl | rfl | rfl <;> assumption
theorem tree_ok (d most far : Int) (m1 : 1 ≤ most) (m2 : most ≤ 1000) (f0 : 0 ≤ far) (f1 : far ≤ farB) :
    ∃ t d', m_law_tree [d] most far = .ok (t, [d']) ∧ TreeOk t ∧ (t.1.length : Int) ≤ most ∧ (∀ x ∈ t.1, -far ≤ x ∧ x ≤ far) ∧ ∀ x ∈ t.2, -far ≤ x.c ∧ x.c ≤ far := by
  unfold m_law_tree
  obtain ⟨r, d1, e1, r0, r1⟩ := take_small d most (by omega) (by omega)
  rw [bind_ok e1]
  show ∃ t d', (m_law_order [d1] ((1 : Int) + r) >>= _) = _ ∧ _
  obtain ⟨o, d2, e2, po⟩ := order_ok d1 (1 + r) (by omega) (by omega)
  rw [bind_ok e2]
  obtain ⟨kd, d3, e3, k0, k5⟩ := take_small d2 5 (by decide) (by decide)
  show ∃ t d', (m_law_take [d2] 5 >>= _) = _ ∧ _
  rw [bind_ok e3, chk_b (show okR 1 by decide), chk_b (show okR (1 + r) from ⟨by omega, by omega⟩)]
  have olen : o.length = (1 + r).toNat := by
    have := po.length_eq
    rw [rangeL_length] at this
    omega
  have ond : o.Nodup := po.nodup_iff.mpr (rangeL_nodup _ _)
  obtain ⟨st, e4, h4⟩ := loopN_run (f := fun (y47 : Int) (st60 : (List Int) × (List (T3 Int Int Int))) =>
      m_law_take st60.1 y47 >>= fun r70 =>
      m_law_take r70.2 (3 : Int) >>= fun r79 =>
      m_law_take r79.2 y47 >>= fun r88 =>
      opt (atI ([r70.1, (y47 - (1 : Int)), (0 : Int), (if ((y47 - (1 : Int)) - r79.1) > (0 : Int) then ((y47 - (1 : Int)) - r79.1) else (0 : Int)), r88.1]) kd) >>= fun y110 =>
      opt (atI o y47) >>= fun y120 =>
      opt (atI o y110) >>= fun y130 =>
      opt (atI (sortT ([y120, y130])) (0 : Int)) >>= fun y161 =>
      opt (atI (sortT ([y120, y130])) (1 : Int)) >>= fun y171 =>
      m_law_number r88.2 far >>= fun r176 =>
      appL st60.2 (T3.mk y161 y171 r176.1) >>= fun _ =>
      (.ok (r176.2, (st60.2 ++ [(T3.mk y161 y171 r176.1)])) : M _)) (all := rangeL (1 : Int) ((1 : Int) + r)) (x := ([d3], []))
    (fun pre st => (∃ d', st.1 = [d']) ∧ Grown (o.take (pre.length + 1)) st.2 ∧ ∀ x ∈ st.2, -far ≤ x.c ∧ x.c ≤ far)
    ⟨⟨d3, rfl⟩, by
      cases o with
      | nil => simp at olen; omega
      | cons p o => exact Grown.one p, fun _ h => nomatch h⟩
    fun pre y post st ea ⟨⟨d', hd⟩, hg, hc⟩ => by
      obtain ⟨ds, ts⟩ := st
      have hd : ds = [d'] := hd
      subst hd
      have hg : Grown (o.take (pre.length + 1)) ts := hg
      have hc : ∀ x ∈ ts, -far ≤ x.c ∧ x.c ≤ far := hc
      -- the turn's number
      have hy : y = 1 + (pre.length : Int) ∧ pre.length < r.toNat := by
        have hl := congrArg List.length ea
        rw [rangeL_length, List.length_append, List.length_cons] at hl
        have hg2 : (rangeL 1 (1 + r))[pre.length]? = some y := by rw [ea]; simp
        unfold rangeL at hg2
        rw [List.getElem?_map, List.getElem?_range (by omega)] at hg2
        exact ⟨(Option.some.inj hg2).symm, by omega⟩
      obtain ⟨hy, hpl⟩ := hy
      obtain ⟨q1, d4, a1, b1, c1⟩ := take_small d' y (by omega) (by omega)
      obtain ⟨q2, d5, a2, b2, c2⟩ := take_small d4 3 (by decide) (by decide)
      obtain ⟨q3, d6, a3, b3, c3⟩ := take_small d5 y (by omega) (by omega)
      obtain ⟨at_, a4, b4, c4⟩ := at5 q1 (y - 1) 0 (if (y - 1) - q2 > 0 then (y - 1) - q2 else 0) q3 kd k0 k5 (fun x => 0 ≤ x ∧ x < y) ⟨b1, c1⟩ (by omega) (by omega) (by split <;> omega) ⟨b3, c3⟩
      obtain ⟨p, a5, b5⟩ := atI_some (xs := o) (j := y) (by omega) (by omega)
      obtain ⟨q, a6, b6⟩ := atI_some (xs := o) (j := at_) b4 (by omega)
      obtain ⟨c, d7, a7, b7⟩ := number_ok d6 far f0 f1
      have hq : q ∈ o.take (pre.length + 1) := by
        refine List.mem_iff_getElem?.mpr ⟨at_.toNat, ?_⟩
        rw [List.getElem?_take_of_lt (by omega)]
        exact b6
      have hp : p ∉ o.take (pre.length + 1) := fun hm => by
        obtain ⟨j, hj⟩ := List.mem_iff_getElem?.mp hm
        rw [List.getElem?_take] at hj
        split at hj
        · have := nd_ix ond hj b5
          omega
        · cases hj
      have hpq : p ≠ q := fun e => hp (e ▸ hq)
      have hs : sortT [p, q] = [(tieOf p q c).a, (tieOf p q c).b] := by
        rw [sort2]
        unfold tieOf
        by_cases hh : p ≤ q
        · rw [if_pos hh, if_pos hh]
        · rw [if_neg hh, if_neg hh]
      have hcc : (tieOf p q c).c = c := (tieOf_lt hpq).2.2
      have et : T3.mk (tieOf p q c).a (tieOf p q c).b c = tieOf p q c := PySem.W.T3.same rfl rfl hcc.symm
      have hlt : ts.length < 16777216 := by
        have := hg.len
        rw [List.length_take] at this
        omega
      refine ⟨([d7], ts ++ [tieOf p q c]), ?_, ⟨d7, rfl⟩, ?_, fun x hx => ?_⟩
      · show (m_law_take [d'] y >>= _) = _
        rw [bind_ok a1]
        show (m_law_take [d4] 3 >>= _) = _
        rw [bind_ok a2]
        show (m_law_take [d5] y >>= _) = _
        rw [bind_ok a3]
        show (opt (atI [q1, y - 1, 0, (if (y - 1) - q2 > 0 then (y - 1) - q2 else 0), q3] kd) >>= _) = _
        rw [opt_b a4, opt_b a5, opt_b a6, hs]
        rw [opt_b (show L2.atI [(tieOf p q c).a, (tieOf p q c).b] (0 : Int) = some (tieOf p q c).a from rfl), opt_b (show L2.atI [(tieOf p q c).a, (tieOf p q c).b] (1 : Int) = some (tieOf p q c).b from rfl)]
        show (m_law_number [d6] far >>= _) = _
        rw [bind_ok a7]
        show (appL ts (T3.mk (tieOf p q c).a (tieOf p q c).b c) >>= _) = _
        rw [bind_ok (appL_ok hlt)]
        show (Except.ok ([d7], ts ++ [T3.mk (tieOf p q c).a (tieOf p q c).b c]) : M _) = _
        rw [et]
      · have e5 : o.take ((pre ++ [y]).length + 1) = o.take (pre.length + 1) ++ [p] := by
          rw [List.length_append]
          show o.take (pre.length + 1 + 1) = _
          rw [List.take_succ]
          have e6 : y.toNat = pre.length + 1 := by omega
          rw [e6] at b5
          rw [b5]
          rfl
        rw [e5]
        exact Grown.more q p c hg hq hp
      · rcases List.mem_append.mp hx with hx | hx
        · exact hc x hx
        · rw [List.mem_singleton.mp hx, hcc]
          exact b7
  obtain ⟨ds, ts⟩ := st
  obtain ⟨⟨d8, hd⟩, hg, hc⟩ := h4
  have hd : ds = [d8] := hd
  subst hd
  have hg : Grown (o.take ((rangeL 1 (1 + r)).length + 1)) ts := hg
  have hc : ∀ x ∈ ts, -far ≤ x.c ∧ x.c ≤ far := hc
  rw [rangeL_length] at hg
  have e5 : o.take ((1 + r - 1).toNat + 1) = o := List.take_of_length_le (by omega)
  rw [e5] at hg
  show ∃ t d', (loopN _ (rangeL 1 (1 + r)) ([d3], []) >>= _) = _ ∧ _
  rw [bind_ok e4, chk_b (show okR (1 + r) from ⟨by omega, by omega⟩)]
  obtain ⟨ws, d9, e6, w1, w2⟩ := nums_ok far f0 f1 (items := rangeL 0 (1 + r)) (by rw [rangeL_length]; omega) d8
  show ∃ t d', (compS _ (rangeL 0 (1 + r)) [d8] >>= _) = _ ∧ _
  rw [bind_ok e6]
  rw [rangeL_length] at w1
  have hlen : ((1 + r).toNat : Int) = 1 + r := by omega
  refine ⟨(ws, sortT ts), d9, rfl, ⟨⟨o, ts, hg, ?_, rfl⟩⟩, ?_, w2, fun x hx => hc x (sortT_mem.mp hx)⟩
  · show o.Perm (rangeL 0 (ws.length : Int))
    have : (ws.length : Int) = 1 + r := by omega
    rw [this]
    exact po
  · show (ws.length : Int) ≤ most
    omega

theorem rangeL_len0 (n : Nat) : (rangeL 0 (n : Int)).length = n := by rw [rangeL_length]; omega

theorem cut10 (ns : List Int) (k : Nat) : (cutL ns none (some (k : Int))).length ≤ ns.length := by
  unfold cutL
  rw [List.length_take, List.length_drop]
  omega
theorem at4 (k : Int) (h : 0 ≤ k) (h4 : k < 4) : ∃ x, L2.atI [(10 : Int), 10, 10, 40] k = some x ∧ (x = 10 ∨ x = 40) := by
  obtain ⟨x, e1, e2⟩ := atI_some (xs := [(10 : Int), 10, 10, 40]) h (by simpa using h4)
  refine ⟨x, e1, ?_⟩
  have hm := List.mem_of_getElem? e2
  simp only [List.mem_cons, List.not_mem_nil, or_false] at hm
  omega

theorem dPut_new {κ β : Type} [DecidableEq κ] {xs : List (κ × β)} {k : κ} {y : β} (h : ∀ p ∈ xs, p.1 ≠ k) : dPut xs k y = xs ++ [(k, y)] := by
  unfold dPut
  rw [if_neg]
  intro z
  obtain ⟨p, hp, e⟩ := List.any_eq_true.mp z
  exact h p hp (of_decide_eq_true e)

def lenOf (ts : List Tie) : List ((Int × Int) × Int) := ts.flatMap fun t => [((t.a, t.b), t.c), ((t.b, t.a), t.c)]
theorem lenOf_mem {ts : List Tie} {p : (Int × Int) × Int} : p ∈ lenOf ts ↔ ∃ t ∈ ts, p = ((t.a, t.b), t.c) ∨ p = ((t.b, t.a), t.c) := by
  unfold lenOf
  simp [List.mem_flatMap]
theorem lenOf_len : ∀ ts : List Tie, (lenOf ts).length = 2 * ts.length
  | [] => rfl
  | t :: ts => by
    show (lenOf ts).length + 1 + 1 = 2 * (ts.length + 1)
    rw [lenOf_len ts]
    omega
theorem grown_pairs {ps : List Int} {ts : List Tie} (g : Grown ps ts) : (ts.map fun x => (x.a, x.b)).Nodup := by
  induction g with
  | one p => exact List.nodup_nil
  | @more ps ts q p c g hq hp ih =>
    rw [List.map_append, List.nodup_append]
    refine ⟨ih, by simp, fun x hx y hy e => ?_⟩
    obtain ⟨t, ht, rfl⟩ := List.mem_map.mp hx
    rw [List.map_singleton, List.mem_singleton] at hy
    have hpq : p ≠ q := fun z => hp (z ▸ hq)
    obtain ⟨h1, h2, _⟩ := tieOf_lt (c := c) hpq
    obtain ⟨i1, i2, _⟩ := g.in t ht
    rw [hy] at e
    injection e with e1 e2
    rcases h2 with ⟨a, b⟩ | ⟨a, b⟩
    · rw [e1, a] at i1; exact hp i1
    · rw [e2, b] at i2; exact hp i2
theorem tree_pairs {t : Tr} (h : TreeOk t) : (t.2.map fun x => (x.a, x.b)).Nodup := by
  obtain ⟨o, ts, g, _, e⟩ := h.ex
  rw [e]
  exact ((sortT_perm ts).map _).nodup_iff.mpr (grown_pairs g)
theorem lengths_ok (t : Tr) (ht : TreeOk t) (hn : t.1.length ≤ 1000000) : m_lengths_of t = .ok (lenOf t.2) := by
  have hlen := ht.len
  have nd := tree_pairs ht
  obtain ⟨st, e1, e2⟩ := loopN_run (f := fun (y19 : (T3 Int Int Int)) (st30 : (List ((Int × Int) × Int))) =>
    putD st30 ((y19.a, y19.b).1, (y19.a, y19.b).2) y19.c >>= fun z64 =>
    putD z64 ((y19.b, y19.a).1, (y19.b, y19.a).2) y19.c >>= fun z82 =>
    (.ok z82 : M _)) (all := t.2) (x := []) (fun pre st => st = lenOf pre) rfl fun pre y post st ea es => by
      subst es
      have hm : ∀ x ∈ pre, x ∈ t.2 := fun x hx => by rw [ea]; exact List.mem_append_left _ hx
      have hy := ht.tie y (by rw [ea]; simp)
      have hlp : (lenOf pre).length = 2 * pre.length := lenOf_len pre
      have hpl : pre.length + 1 ≤ t.2.length := by
        rw [ea, List.length_append, List.length_cons]
        omega
      have n1 : ∀ x ∈ pre, ¬ (x.a = y.a ∧ x.b = y.b) := fun x hx ⟨z1, z2⟩ => by
        rw [ea, List.map_append, List.map_cons, List.nodup_append] at nd
        exact nd.2.2 (x.a, x.b) (List.mem_map.mpr ⟨x, hx, rfl⟩) (y.a, y.b) List.mem_cons_self (by rw [z1, z2])
      have k1 : ∀ p ∈ lenOf pre, p.1 ≠ (y.a, y.b) := fun p hp e => by
        obtain ⟨x, hx, h | h⟩ := lenOf_mem.mp hp
        · rw [h] at e; injection e with z1 z2; exact n1 x hx ⟨z1, z2⟩
        · rw [h] at e
          injection e with z1 z2
          have := ht.tie x (hm x hx)
          have z1 : x.b = y.a := z1
          have z2 : x.a = y.b := z2
          omega
      have k2 : ∀ p ∈ lenOf pre ++ [((y.a, y.b), y.c)], p.1 ≠ (y.b, y.a) := fun p hp e => by
        rcases List.mem_append.mp hp with hp | hp
        · obtain ⟨x, hx, h | h⟩ := lenOf_mem.mp hp
          · rw [h] at e
            injection e with z1 z2
            have := ht.tie x (hm x hx)
            have z1 : x.a = y.b := z1
            have z2 : x.b = y.a := z2
            omega
          · rw [h] at e; injection e with z1 z2; exact n1 x hx ⟨z2, z1⟩
        · rw [List.mem_singleton.mp hp] at e
          injection e with z1 z2
          have z1 : y.a = y.b := z1
          omega
      refine ⟨_, ?_, rfl⟩
      show (putD (lenOf pre) (y.a, y.b) y.c >>= fun z64 => putD z64 (y.b, y.a) y.c >>= fun z82 => _) = _
      rw [bind_ok (show putD (lenOf pre) (y.a, y.b) y.c = .ok (lenOf pre ++ [((y.a, y.b), y.c)]) by unfold putD; rw [if_pos (by omega), dPut_new k1])]
      rw [bind_ok (show putD (lenOf pre ++ [((y.a, y.b), y.c)]) (y.b, y.a) y.c = .ok ((lenOf pre ++ [((y.a, y.b), y.c)]) ++ [((y.b, y.a), y.c)]) by unfold putD; rw [if_pos (by rw [List.length_append, List.length_singleton]; omega), dPut_new k2])]
      unfold lenOf
      rw [List.flatMap_append, List.append_assoc]
      rfl
  unfold m_lengths_of
  rw [bind_ok e1, e2]
theorem keys_perm : ∀ ts : List Tie, ((lenOf ts).map (·.1)).Perm (ts.map (fun t => (t.a, t.b)) ++ ts.map (fun t => (t.b, t.a)))
  | [] => .nil
  | t :: ts => by
    show ((t.a, t.b) :: (t.b, t.a) :: (lenOf ts).map (·.1)).Perm ((t.a, t.b) :: (ts.map (fun t => (t.a, t.b)) ++ (t.b, t.a) :: ts.map (fun t => (t.b, t.a))))
    refine .cons _ (((keys_perm ts).cons _).trans List.perm_middle.symm)

/-! ### neighbours -/
def other (p : Int) (t : Tie) : Option Int := if t.a = p then some t.b else if t.b = p then some t.a else none
/-- the neighbours of a place, rising -/
def nearOf (ties : List Tie) (p : Int) : List Int := sortT (ties.filterMap (other p))
def nearAll (n : Nat) (ties : List Tie) : List (List Int) := (List.range n).map fun (i : Nat) => nearOf ties (i : Int)
theorem addAt_ok {fs : List (List Int)} {x y : Int} {l : List Int} (h0 : 0 ≤ x) (h : fs[x.toNat]? = some l) (hl : l.length < 16777216) : addAt fs x y = .ok (fs.set x.toNat (l ++ [y])) := by
  have h1 := (List.getElem?_eq_some_iff.mp h).1
  unfold addAt
  rw [ixN_nat h0 (by omega)]
  show (match fs[x.toNat]? with
    | some x_1 => appL x_1 y >>= fun y => .ok (fs.set x.toNat y)
    | none => bad) = _
  rw [h]
  show (appL l y >>= fun y => (.ok (fs.set x.toNat y) : M _)) = _
  rw [bind_ok (appL_ok hl)]
theorem tied_places_ok (n : Int) (ties : List Tie) (h0 : 0 ≤ n) (h1 : n ≤ 1000000) (hl : ties.length < 16777216) (hv : ∀ t ∈ ties, 0 ≤ t.a ∧ t.a < t.b ∧ t.b < n) : m_tied_places n ties = .ok (nearAll n.toNat ties) := by
  unfold m_tied_places
  rw [chk_b (show okR n from ⟨by omega, h1⟩)]
  obtain ⟨fs, e, h⟩ := loopN_run (f := fun (t : T3 Int Int Int) (fs : List (List Int)) => addAt fs t.a t.b >>= fun f1 => addAt f1 t.b t.a) (all := sortT ties) (x := List.replicate n.toNat [])
    (fun pre fs => fs = (List.range n.toNat).map fun (i : Nat) => pre.filterMap (other (i : Int))) (by
      refine List.ext_getElem? fun i => ?_
      rw [List.getElem?_replicate, List.getElem?_map]
      by_cases hi : i < n.toNat
      · rw [if_pos hi, List.getElem?_range hi]; rfl
      · rw [if_neg hi, List.getElem?_eq_none (by simpa using hi)]; rfl) fun pre t post fs ea hf => by
      subst hf
      have mt : t ∈ ties := sortT_mem.mp (by rw [ea]; simp)
      obtain ⟨a0, ab, bn⟩ := hv t mt
      have plen : pre.length < 16777216 := by
        have := congrArg List.length ea
        rw [sortT_len, List.length_append, List.length_cons] at this
        omega
      have g1 : ((List.range n.toNat).map fun (i : Nat) => pre.filterMap (other (i : Int)))[t.a.toNat]? = some (pre.filterMap (other t.a)) := by
        rw [List.getElem?_map, List.getElem?_range (by omega)]
        show some (pre.filterMap (other ((t.a.toNat : Nat) : Int))) = _
        rw [Int.toNat_of_nonneg a0]
      have l1 : (pre.filterMap (other t.a)).length < 16777216 := Nat.lt_of_le_of_lt (List.length_filterMap_le _ _) plen
      have g2 : (((List.range n.toNat).map fun (i : Nat) => pre.filterMap (other (i : Int))).set t.a.toNat (pre.filterMap (other t.a) ++ [t.b]))[t.b.toNat]? = some (pre.filterMap (other t.b)) := by
        rw [List.getElem?_set_ne (by omega), List.getElem?_map, List.getElem?_range (by omega)]
        show some (pre.filterMap (other ((t.b.toNat : Nat) : Int))) = _
        rw [Int.toNat_of_nonneg (by omega)]
      have l2 : (pre.filterMap (other t.b)).length < 16777216 := Nat.lt_of_le_of_lt (List.length_filterMap_le _ _) plen
      refine ⟨_, by rw [bind_ok (addAt_ok a0 g1 l1)]; exact addAt_ok (by omega) g2 l2, ?_⟩
      refine List.ext_getElem? fun i => ?_
      rw [List.getElem?_map]
      by_cases hi : i < n.toNat
      · rw [List.getElem?_range hi]
        show _ = some ((pre ++ [t]).filterMap (other (i : Int)))
        rw [List.filterMap_append]
        by_cases hb : t.b.toNat = i
        · subst hb
          rw [List.getElem?_set_self (by simpa using hi)]
          have e1 : other ((t.b.toNat : Nat) : Int) t = some t.a := by
            unfold other
            rw [if_neg (by omega), if_pos (by omega)]
          have e2 : ((t.b.toNat : Nat) : Int) = t.b := Int.toNat_of_nonneg (by omega)
          rw [List.filterMap_cons, e1, List.filterMap_nil, e2]
        · rw [List.getElem?_set_ne hb]
          by_cases ha : t.a.toNat = i
          · subst ha
            rw [List.getElem?_set_self (by simpa using hi)]
            have e1 : other ((t.a.toNat : Nat) : Int) t = some t.b := by
              unfold other
              rw [if_pos (by omega)]
            have e2 : ((t.a.toNat : Nat) : Int) = t.a := Int.toNat_of_nonneg a0
            rw [List.filterMap_cons, e1, List.filterMap_nil, e2]
          · rw [List.getElem?_set_ne ha, List.getElem?_map, List.getElem?_range hi]
            have e1 : other (i : Int) t = none := by
              unfold other
              rw [if_neg (by omega), if_neg (by omega)]
            rw [List.filterMap_cons, e1, List.filterMap_nil, List.append_nil]
            rfl
      · have z : (List.range n.toNat)[i]? = none := List.getElem?_eq_none (by simpa using hi)
        rw [z]
        show _ = none
        refine List.getElem?_eq_none ?_
        rw [List.length_set, List.length_set, List.length_map, List.length_range]
        omega
  rw [bind_ok e, h]
  refine congrArg Except.ok ?_
  unfold nearAll
  rw [List.map_map]
  refine List.map_congr_left fun i _ => ?_
  show sortT ((sortT ties).filterMap (other (i : Int))) = nearOf ties (i : Int)
  exact sortT_eq ((sortT_perm ties).filterMap _)
theorem nearAll_at {n : Nat} {ties : List Tie} {p : Int} (h0 : 0 ≤ p) (h : p < n) : L2.atI (nearAll n ties) p = some (nearOf ties p) := by
  refine atI_of h0 ?_
  unfold nearAll
  rw [List.getElem?_map, List.getElem?_range (by omega)]
  show some (nearOf ties ((p.toNat : Nat) : Int)) = _
  rw [Int.toNat_of_nonneg h0]

theorem need_place_ok (t : Tr) (p : Int) (h0 : 0 ≤ p) (h : p < (t.1.length : Int)) : m_need_place t p = .ok () := by
  unfold m_need_place
  rw [if_pos h0, if_pos h]
theorem tied_to_ok (t : Tr) (ht : TreeOk t) (hn : t.1.length ≤ 1000000) (p : Int) (h0 : 0 ≤ p) (h : p < (t.1.length : Int)) : m_tied_to t p = .ok (nearOf t.2 p) := by
  unfold m_tied_to
  have := ht.len
  rw [bind_ok (need_place_ok t p h0 h), bind_ok (tied_places_ok (t.1.length : Int) t.2 (by omega) (by omega) (by omega) ht.tie), opt_b (nearAll_at h0 (by omega))]
theorem nearOf_len (ts : List Tie) (p : Int) : (nearOf ts p).length ≤ ts.length := by
  unfold nearOf
  rw [sortT_len]
  exact List.length_filterMap_le _ _

theorem whL_run {s r : Type} {b : s → M (Ws s r)} (P : s → Prop) (μ : s → Nat) (Qf : s → Prop) (step : ∀ x, P x → (∃ x', b x = .ok (.go x') ∧ P x' ∧ μ x' < μ x) ∨ (∃ x', b x = .ok (.stop x') ∧ Qf x')) : ∀ (n : Nat) (x : s), P x → μ x < n → ∃ x', whL b n x = .ok (.nx x') ∧ Qf x'
  | 0, x, _, h => absurd h (Nat.not_lt_zero _)
  | n + 1, x, p, h => by
    rcases step x p with ⟨x', e, p', l⟩ | ⟨x', e, q⟩
    · obtain ⟨x2, e2, q2⟩ := whL_run P μ Qf step n x' p' (by omega)
      refine ⟨x2, ?_, q2⟩
      show (b x >>= _) = _
      rw [bind_ok e]
      exact e2
    · refine ⟨x', ?_, q⟩
      show (b x >>= _) = _
      rw [bind_ok e]
theorem nd_sub_len {a : Type} [DecidableEq a] : ∀ {l m : List a}, l.Nodup → (∀ x ∈ l, x ∈ m) → l.length ≤ m.length
  | [], _, _, _ => Nat.zero_le _
  | x :: l, m, nd, h => by
    have hx := h x List.mem_cons_self
    obtain ⟨n1, n2⟩ := List.nodup_cons.mp nd
    have := nd_sub_len (l := l) (m := m.erase x) n2 fun y hy => (List.mem_erase_of_ne fun e => n1 (by rw [← e]; exact hy)).mpr (h y (List.mem_cons_of_mem _ hy))
    rw [List.length_erase_of_mem hx] at this
    have hp := List.length_pos_of_mem hx
    rw [List.length_cons]
    omega
theorem nearOf_mem {ts : List Tie} {x y : Int} (h : ∀ t ∈ ts, t.a < t.b) : y ∈ nearOf ts x ↔ ∃ t ∈ ts, (t.a = x ∧ t.b = y) ∨ (t.b = x ∧ t.a = y) := by
  unfold nearOf
  rw [sortT_mem, List.mem_filterMap]
  constructor
  · rintro ⟨t, ht, e⟩
    unfold other at e
    by_cases ha : t.a = x
    · rw [if_pos ha] at e
      exact ⟨t, ht, .inl ⟨ha, Option.some.inj e⟩⟩
    · rw [if_neg ha] at e
      by_cases hb : t.b = x
      · rw [if_pos hb] at e
        exact ⟨t, ht, .inr ⟨hb, Option.some.inj e⟩⟩
      · rw [if_neg hb] at e; cases e
  · rintro ⟨t, ht, ⟨ha, hb⟩ | ⟨hb, ha⟩⟩
    · refine ⟨t, ht, ?_⟩
      unfold other
      rw [if_pos ha, hb]
    · refine ⟨t, ht, ?_⟩
      have := h t ht
      unfold other
      rw [if_neg (by omega), if_pos hb, ha]
/-- what holds of one place and goes over ties holds of all -/
theorem grown_all {ps : List Int} {ts : List Tie} (g : Grown ps ts) (S : Int → Prop) (hS : ∀ t ∈ ts, S t.a ↔ S t.b) : (∃ x ∈ ps, S x) → ∀ x ∈ ps, S x := by
  induction g with
  | one p =>
    rintro ⟨x, hx, h⟩ y hy
    rw [List.mem_singleton.mp hx] at h
    rw [List.mem_singleton.mp hy]
    exact h
  | @more ps ts q p c g hq hp ih =>
    have ih := ih fun t ht => hS t (List.mem_append_left _ ht)
    have hpq : p ≠ q := fun z => hp (z ▸ hq)
    have hl := hS (tieOf p q c) (by simp)
    obtain ⟨_, h2, _⟩ := tieOf_lt (c := c) hpq
    have hpq2 : S p ↔ S q := by
      rcases h2 with ⟨a, b⟩ | ⟨a, b⟩
      · rw [a, b] at hl; exact hl
      · rw [a, b] at hl; exact hl.symm
    rintro ⟨x, hx, h⟩
    have hall : ∀ y ∈ ps, S y := by
      rcases List.mem_append.mp hx with hx | hx
      · exact ih ⟨x, hx, h⟩
      · rw [List.mem_singleton.mp hx] at h
        exact ih ⟨q, hq, hpq2.mp h⟩
    intro y hy
    rcases List.mem_append.mp hy with hy | hy
    · exact hall y hy
    · rw [List.mem_singleton.mp hy]
      exact hpq2.mpr (hall q hq)
theorem tree_all {t : Tr} (ht : TreeOk t) (S : Int → Prop) (hS : ∀ x ∈ t.2, S x.a ↔ S x.b) (x : Int) (x0 : 0 ≤ x) (x1 : x < (t.1.length : Int)) (h : S x) : ∀ y, 0 ≤ y → y < (t.1.length : Int) → S y := by
  obtain ⟨ps, ts, g, p, e⟩ := ht.ex
  rw [e] at hS
  intro y y0 y1
  exact grown_all g S (fun t ht => hS t (sortT_mem.mpr ht)) ⟨x, p.mem_iff.mpr (rangeL_mem.mpr ⟨x0, x1⟩), h⟩ y (p.mem_iff.mpr (rangeL_mem.mpr ⟨y0, y1⟩))
theorem nearAll_len (n : Nat) (ts : List Tie) : (nearAll n ts).length = n := by unfold nearAll; simp

theorem come_to_ok (near : List (List Int)) (hn : near.length ≤ 100000) (hv : ∀ l ∈ near, ∀ y ∈ l, 0 ≤ y ∧ y < near.length) (hl : ∀ l ∈ near, l.length < 16777216) (p : Int) (p0 : 0 ≤ p) (p1 : p < near.length) :
    ∃ f, m_come_to near p = .ok f ∧ f.Nodup ∧ p ∈ f ∧ (∀ x ∈ f, 0 ≤ x ∧ x < near.length) ∧ ∀ x ∈ f, ∀ l, near[x.toNat]? = some l → ∀ y ∈ l, y ∈ f := by
  have small : ∀ f : List Int, f.Nodup → (∀ x ∈ f, 0 ≤ x ∧ x < near.length) → f.length ≤ near.length := fun f nd hf => by
    have := nd_sub_len (m := rangeL 0 (near.length : Int)) nd fun x hx => rangeL_mem.mpr (hf x hx)
    rw [rangeL_len0] at this
    exact this
  obtain ⟨st, e, q1, q2, q3, q4⟩ := whL_run (r := Unit) (b := fun (st17 : Int × (List Int)) =>
    if st17.1 < (st17.2.length : Int) then (
    opt (atI st17.2 st17.1) >>= fun y25 =>
    opt (atI near y25) >>= fun y35 =>
    loopN (fun (y45 : Int) (st56 : (List Int)) =>
    if y45 ∉ st56 then (
    appL st56 y45 >>= fun _ =>
    .ok (st56 ++ [y45]))
    else (
    .ok st56)) y35 st17.2 >>= fun st72 =>
    .ok (.go ((st17.1 + (1 : Int)), st72)))
    else (
    .ok (.stop (st17.1, st17.2))))
    (fun st => st.2.Nodup ∧ p ∈ st.2 ∧ (∀ x ∈ st.2, 0 ≤ x ∧ x < near.length) ∧ 0 ≤ st.1 ∧ st.1 ≤ st.2.length ∧ ∀ (i : Nat) x, (i : Int) < st.1 → st.2[i]? = some x → ∀ l, near[x.toNat]? = some l → ∀ y ∈ l, y ∈ st.2)
    (fun st => near.length + 1 - st.1.toNat)
    (fun st => st.2.Nodup ∧ p ∈ st.2 ∧ (∀ x ∈ st.2, 0 ≤ x ∧ x < near.length) ∧ ∀ x ∈ st.2, ∀ l, near[x.toNat]? = some l → ∀ y ∈ l, y ∈ st.2)
    (fun ⟨at_, fs⟩ ⟨h1, h2, h3, h4, h5, h6⟩ => by
      have h1 : fs.Nodup := h1
      have h2 : p ∈ fs := h2
      have h3 : ∀ x ∈ fs, 0 ≤ x ∧ x < near.length := h3
      have h4 : 0 ≤ at_ := h4
      have h5 : at_ ≤ fs.length := h5
      have h6 : ∀ (i : Nat) x, (i : Int) < at_ → fs[i]? = some x → ∀ l, near[x.toNat]? = some l → ∀ y ∈ l, y ∈ fs := h6
      show (∃ x', (if at_ < (fs.length : Int) then _ else _) = _ ∧ _) ∨ (∃ x', (if at_ < (fs.length : Int) then _ else _) = _ ∧ _)
      by_cases hlt : at_ < (fs.length : Int)
      · refine .inl ?_
        rw [if_pos hlt]
        obtain ⟨x, a1, b1⟩ := atI_some (xs := fs) (j := at_) h4 hlt
        have hx := h3 x (List.mem_of_getElem? b1)
        obtain ⟨l, a2, b2⟩ := atI_some (xs := near) (j := x) hx.1 hx.2
        have hlm := List.mem_of_getElem? b2
        obtain ⟨f2, e2, c1, c2, c3, c4⟩ := loopN_run (f := fun (y45 : Int) (st56 : (List Int)) =>
          if y45 ∉ st56 then (
          appL st56 y45 >>= fun _ =>
          (.ok (st56 ++ [y45]) : M _))
          else (
          .ok st56)) (all := l) (x := fs) (fun pre st => st.Nodup ∧ (∀ x ∈ st, 0 ≤ x ∧ x < near.length) ∧ (∃ ex, st = fs ++ ex) ∧ ∀ y ∈ pre, y ∈ st) ⟨h1, h3, ⟨[], by simp⟩, fun _ h => nomatch h⟩
          (fun pre y post st ea ⟨g1, g2, ⟨ex, g3⟩, g4⟩ => by
            have hy := hv l hlm y (by rw [ea]; simp)
            by_cases hm : y ∉ st
            · refine ⟨st ++ [y], ?_, ?_, fun z hz => ?_, ⟨ex ++ [y], by rw [g3]; simp⟩, fun z hz => ?_⟩
              · rw [if_pos hm, bind_ok (appL_ok (by have := small st g1 g2; omega))]
              · exact List.nodup_append.mpr ⟨g1, by simp, fun a ha b hb e => by rw [List.mem_singleton.mp hb] at e; exact hm (e ▸ ha)⟩
              · rcases List.mem_append.mp hz with hz | hz
                · exact g2 z hz
                · rw [List.mem_singleton.mp hz]; exact hy
              · rcases List.mem_append.mp hz with hz | hz
                · exact List.mem_append_left _ (g4 z hz)
                · exact List.mem_append_right _ hz
            · refine ⟨st, by rw [if_neg hm], g1, g2, ⟨ex, g3⟩, fun z hz => ?_⟩
              rcases List.mem_append.mp hz with hz | hz
              · exact g4 z hz
              · rw [List.mem_singleton.mp hz]
                exact Classical.not_not.mp hm)
        obtain ⟨ex, c3⟩ := c3
        refine ⟨(at_ + 1, f2), ?_, ⟨c1, ?_, c2, ?_, ?_, fun i y hi hy l' hl' z hz => ?_⟩, ?_⟩
        · rw [opt_b a1, opt_b a2, bind_ok e2]
        · show p ∈ f2
          rw [c3]; exact List.mem_append_left _ h2
        · show 0 ≤ at_ + 1
          omega
        · show at_ + 1 ≤ (f2.length : Int)
          rw [c3, List.length_append]
          omega
        · have hi : (i : Int) < at_ + 1 := hi
          have hy : f2[i]? = some y := hy
          show z ∈ f2
          have hil : i < fs.length := by omega
          have hy' : fs[i]? = some y := by
            rw [c3, List.getElem?_append_left hil] at hy
            exact hy
          by_cases hia : (i : Int) < at_
          · rw [c3]; exact List.mem_append_left _ (h6 i y hia hy' l' hl' z hz)
          · have hie : i = at_.toNat := by omega
            rw [hie, b1] at hy'
            rw [← Option.some.inj hy', b2] at hl'
            rw [← Option.some.inj hl'] at hz
            exact c4 z hz
        · show near.length + 1 - (at_ + 1).toNat < near.length + 1 - at_.toNat
          have := small fs h1 h3
          omega
      · refine .inr ?_
        rw [if_neg hlt]
        refine ⟨(at_, fs), rfl, h1, h2, h3, fun x hx l hl' y hy => ?_⟩
        have hx : x ∈ fs := hx
        obtain ⟨i, hi⟩ := List.mem_iff_getElem?.mp hx
        have hil := (List.getElem?_eq_some_iff.mp hi).1
        exact h6 i x (by omega) hi l hl' y hy)
    1000000 (0, [p]) ⟨by simp, by simp, fun x hx => by
      have hx : x ∈ [p] := hx
      rw [List.mem_singleton.mp hx]; exact ⟨p0, p1⟩, by simp, by simp, fun i x hi => by
      have hi : (i : Int) < 0 := hi
      omega⟩ (by show near.length + 1 - 0 < 1000000; omega)
  refine ⟨st.2, ?_, q1, q2, q3, q4⟩
  unfold m_come_to
  rw [bind_ok e]
theorem tree_of_ok (t : Tr) (ht : TreeOk t) (hn : t.1.length ≤ 100000) (ties : List Tie) (hp : ties.Perm t.2) : m_tree_of t.1 ties = .ok (t.1, t.2) := by
  have hlen := ht.len
  have hpos := ht.pos
  have htl : ties.length = t.2.length := hp.length_eq
  have hv : ∀ x ∈ ties, 0 ≤ x.a ∧ x.a < x.b ∧ x.b < (t.1.length : Int) := fun x hx => ht.tie x (hp.mem_iff.mp hx)
  unfold m_tree_of
  rw [bind_ok (compS_pure (fun y => some (y.a, y.b)) (by omega) fun y _ => rfl)]
  rw [List.filterMap_eq_map']
  rw [if_neg (by
    show ¬ ((((ties.map fun y => (y.a, y.b)).length : Nat) : Int) ≠ _)
    rw [List.length_map]; omega)]
  show (compS _ (ties.map fun y => (y.a, y.b)) () >>= _) = _
  rw [bind_ok (compS_pure (fun _ => none) (by rw [List.length_map]; omega) fun y hy => by
    obtain ⟨x, hx, rfl⟩ := List.mem_map.mp hy
    obtain ⟨h0, h1, h2⟩ := hv x hx
    rw [if_pos h0, if_pos h1, if_pos h2])]
  rw [if_neg (by
    intro z
    refine z ?_
    show List.filterMap _ _ = []
    rw [List.filterMap_eq_nil_iff]
    exact fun _ _ => rfl)]
  have hlen2 : ∀ l ∈ nearAll t.1.length ties, l.length ≤ ties.length := fun l hl => by
    unfold nearAll at hl
    obtain ⟨i, _, rfl⟩ := List.mem_map.mp hl
    unfold nearOf
    rw [sortT_len]
    exact List.length_filterMap_le _ _
  rw [bind_ok (tied_places_ok (t.1.length : Int) ties (by omega) (by omega) (by omega) hv)]
  rw [show ((t.1.length : Int)).toNat = t.1.length from rfl]
  obtain ⟨f, e, q1, q2, q3, q4⟩ := come_to_ok (nearAll t.1.length ties) (by rw [nearAll_len]; exact hn) (fun l hl y hy => by
    unfold nearAll at hl
    obtain ⟨i, _, rfl⟩ := List.mem_map.mp hl
    rw [nearAll_len]
    obtain ⟨x, hx, h⟩ := (nearOf_mem fun x hx => (hv x hx).2.1).mp hy
    obtain ⟨h0, h1, h2⟩ := hv x hx
    rcases h with ⟨a, b⟩ | ⟨a, b⟩ <;> omega) (fun l hl => by have := hlen2 l hl; omega) 0 (by omega) (by rw [nearAll_len]; omega)
  rw [nearAll_len] at q3
  rw [bind_ok e]
  have near_at : ∀ x : Int, 0 ≤ x → x < (t.1.length : Int) → (nearAll t.1.length ties)[x.toNat]? = some (nearOf ties x) := fun x x0 x1 => by
    unfold nearAll
    rw [List.getElem?_map, List.getElem?_range (by omega)]
    show some (nearOf ties ((x.toNat : Nat) : Int)) = _
    rw [Int.toNat_of_nonneg x0]
  have hclosed : ∀ x ∈ t.2, (x.a ∈ f ↔ x.b ∈ f) := fun x hx => by
    have hx' := hp.mem_iff.mpr hx
    obtain ⟨h0, h1, h2⟩ := hv x hx'
    constructor
    · intro hm
      exact q4 _ hm _ (near_at x.a h0 (by omega)) _ ((nearOf_mem fun x hx => (hv x hx).2.1).mpr ⟨x, hx', .inl ⟨rfl, rfl⟩⟩)
    · intro hm
      exact q4 _ hm _ (near_at x.b (by omega) h2) _ ((nearOf_mem fun x hx => (hv x hx).2.1).mpr ⟨x, hx', .inr ⟨rfl, rfl⟩⟩)
  have hall := tree_all ht (fun x => x ∈ f) hclosed 0 (by omega) (by omega) q2
  have hfl := nd_sub_len (l := rangeL 0 (t.1.length : Int)) (m := f) (rangeL_nodup _ _) fun x hx => hall x (rangeL_mem.mp hx).1 (rangeL_mem.mp hx).2
  rw [rangeL_len0] at hfl
  rw [if_neg (by omega)]
  rw [sortT_eq hp, ht.sorted]

theorem far_ok (d : Int) : ∃ f d', m_law_far [d] = .ok (f, [d']) ∧ 0 ≤ f ∧ f ≤ farB := by
  obtain ⟨k, d', e, k0, k3⟩ := take_small d 3 (by decide) (by decide)
  obtain ⟨x, e1, e2⟩ := atI_some (xs := [(4 : Int), 1000, farB]) (j := k) k0 (by simpa using k3)
  refine ⟨x, d', ?_, ?_⟩
  · unfold m_law_far
    rw [bind_ok e]
    show (opt (atI [(4 : Int), 1000, (10 : Int) ^ Int.toNat 29] k) >>= _) = _
    rw [show (10 : Int) ^ Int.toNat 29 = farB by decide, opt_b e1]
  · have hm := List.mem_of_getElem? e2
    simp only [List.mem_cons, List.not_mem_nil, or_false] at hm
    unfold farB at *
    omega

/-! ### ways -/
def Step (t : Tr) (x y c : Int) : Prop := ∃ z ∈ t.2, ((z.a = x ∧ z.b = y) ∨ (z.a = y ∧ z.b = x)) ∧ z.c = c
theorem whL_runN {s r : Type} {b : s → M (Ws s r)} (P : Nat → s → Prop) (Qf : s → Prop) (step : ∀ m x, P m x → (∃ x' m', m' < m ∧ b x = .ok (.go x') ∧ P m' x') ∨ (∃ x', b x = .ok (.stop x') ∧ Qf x')) : ∀ (n m : Nat) (x : s), P m x → m < n → ∃ x', whL b n x = .ok (.nx x') ∧ Qf x'
  | 0, m, x, _, h => absurd h (Nat.not_lt_zero _)
  | n + 1, m, x, p, h => by
    rcases step m x p with ⟨x', m', l, e, p'⟩ | ⟨x', e, q⟩
    · obtain ⟨x2, e2, q2⟩ := whL_runN P Qf step n m' x' p' (by omega)
      refine ⟨x2, ?_, q2⟩
      show (b x >>= _) = _
      rw [bind_ok e]
      exact e2
    · refine ⟨x', ?_, q⟩
      show (b x >>= _) = _
      rw [bind_ok e]
theorem dGet_mem {κ β : Type} [DecidableEq κ] [Py β] : ∀ {xs : List (κ × β)} {k : κ} {v : β}, (xs.map (·.1)).Nodup → (k, v) ∈ xs → dGet xs k = some v
  | [], _, _, _, h => by cases h
  | p :: xs, k, v, nd, h => by
    rw [List.map_cons, List.nodup_cons] at nd
    rcases List.mem_cons.mp h with e | h
    · rw [← e]; exact dGet_pos rfl
    · rw [dGet_neg (fun e => nd.1 (List.mem_map.mpr ⟨(k, v), h, e.symm⟩))]
      exact dGet_mem nd.2 h
theorem dHas_iff {κ β : Type} [DecidableEq κ] [Py β] : ∀ {xs : List (κ × β)} {k : κ}, dHas xs k = true ↔ k ∈ xs.map (·.1)
  | [], k => by simp [dHas, dGet]
  | p :: xs, k => by
    rw [List.map_cons, List.mem_cons]
    unfold dHas
    by_cases e : p.1 = k
    · rw [dGet_pos e]; simp [e]
    · rw [dGet_neg e]
      have := dHas_iff (xs := xs) (k := k)
      unfold dHas at this
      rw [this]
      constructor
      · exact .inr
      · rintro (z | z)
        · exact (e z.symm).elim
        · exact z
theorem lenOf_nd {t : Tr} (ht : TreeOk t) : ((lenOf t.2).map (·.1)).Nodup := by
  refine (keys_perm t.2).nodup_iff.mpr (List.nodup_append.mpr ⟨tree_pairs ht, ?_, ?_⟩)
  · have h : (t.2.map fun x => (x.b, x.a)) = (t.2.map fun x => (x.a, x.b)).map fun p => (p.2, p.1) := by rw [List.map_map]; rfl
    rw [h]
    refine List.Pairwise.map _ ?_ (tree_pairs ht)
    intro a b hab e
    injection e with e1 e2
    exact hab (Prod.ext e2 e1)
  · rintro p hp q hq e
    subst e
    obtain ⟨x, hx, e1⟩ := List.mem_map.mp hp
    obtain ⟨y, hy, e2⟩ := List.mem_map.mp hq
    have h1 := ht.tie x hx
    have h2 := ht.tie y hy
    rw [← e2] at e1
    injection e1 with a1 a2
    omega
theorem step_len {t : Tr} (ht : TreeOk t) {x y c : Int} (h : Step t x y c) : dGet (lenOf t.2) (x, y) = some c := by
  obtain ⟨z, hz, ⟨a, b⟩ | ⟨a, b⟩, e⟩ := h
  · exact dGet_mem (lenOf_nd ht) (lenOf_mem.mpr ⟨z, hz, .inl (by rw [a, b, e])⟩)
  · exact dGet_mem (lenOf_nd ht) (lenOf_mem.mpr ⟨z, hz, .inr (by rw [a, b, e])⟩)
theorem step_rg {t : Tr} (ht : TreeOk t) {x y c : Int} (h : Step t x y c) : (0 ≤ x ∧ x < (t.1.length : Int)) ∧ (0 ≤ y ∧ y < (t.1.length : Int)) ∧ x ≠ y := by
  obtain ⟨z, hz, h, e⟩ := h
  have := ht.tie z hz
  omega
theorem near_step {t : Tr} (ht : TreeOk t) {x y : Int} : y ∈ nearOf t.2 x ↔ ∃ c, Step t x y c := by
  rw [nearOf_mem fun z hz => (ht.tie z hz).2.1]
  constructor
  · rintro ⟨z, hz, h⟩
    exact ⟨z.c, z, hz, by omega, rfl⟩
  · rintro ⟨c, z, hz, h, e⟩
    exact ⟨z, hz, by omega⟩
structure Bh (t : Tr) (o : Int) (b : List (Int × Option Int)) : Prop where
  hd : b[0]? = some (o, none)
  nd : (b.map (·.1)).Nodup
  rg : ∀ x ∈ b.map (·.1), 0 ≤ x ∧ x < (t.1.length : Int)
  bk : ∀ (i : Nat) k q, b[i]? = some (k, q) → i = 0 ∨ ∃ (h : Int) (j : Nat) (q' : Option Int) (c : Int), q = some h ∧ j < i ∧ b[j]? = some (h, q') ∧ Step t k h c
theorem Bh.len {t : Tr} {o : Int} {b : List (Int × Option Int)} (B : Bh t o b) : b.length ≤ t.1.length := by
  have := nd_sub_len (m := rangeL 0 (t.1.length : Int)) B.nd fun x hx => rangeL_mem.mpr (B.rg x hx)
  rw [rangeL_len0, List.length_map] at this
  exact this
theorem Bh.add {t : Tr} {o : Int} {b : List (Int × Option Int)} (B : Bh t o b) (ht : TreeOk t) {k h c : Int} (hk : k ∉ b.map (·.1)) (hh : h ∈ b.map (·.1)) (hs : Step t k h c) : Bh t o (b ++ [(k, some h)]) where
  hd := by
    have := (List.getElem?_eq_some_iff.mp B.hd).1
    rw [List.getElem?_append_left this]
    exact B.hd
  nd := by
    rw [List.map_append]
    exact List.nodup_append.mpr ⟨B.nd, by simp, fun a ha b hb e => by
      rw [List.map_singleton, List.mem_singleton] at hb
      rw [hb] at e
      rw [e] at ha
      exact hk ha⟩
  rg := fun x hx => by
    rw [List.map_append] at hx
    rcases List.mem_append.mp hx with hx | hx
    · exact B.rg x hx
    · rw [List.map_singleton, List.mem_singleton] at hx
      rw [hx]
      exact (step_rg ht hs).1
  bk := fun i k' q e => by
    by_cases hi : i < b.length
    · rw [List.getElem?_append_left hi] at e
      rcases B.bk i k' q e with z | ⟨h', j, q', c', e1, e2, e3, e4⟩
      · exact .inl z
      · refine .inr ⟨h', j, q', c', e1, e2, ?_, e4⟩
        rw [List.getElem?_append_left (by omega)]
        exact e3
    · have hlt := (List.getElem?_eq_some_iff.mp e).1
      rw [List.length_append, List.length_singleton] at hlt
      have hie : i = b.length := by omega
      rw [hie, List.getElem?_append_right (Nat.le_refl _), Nat.sub_self] at e
      injection e with e
      injection e with e1 e2
      obtain ⟨p, hp, hp2⟩ := List.mem_map.mp hh
      obtain ⟨j, hj⟩ := List.mem_iff_getElem?.mp hp
      have hjl := (List.getElem?_eq_some_iff.mp hj).1
      refine .inr ⟨h, j, p.2, c, e2.symm, by omega, ?_, by rw [← e1]; exact hs⟩
      rw [List.getElem?_append_left hjl, hj, ← hp2]
theorem popL_ok {a : Type} (xs : List a) (x : a) : popL (xs ++ [x]) = .ok (x, xs) := by
  unfold popL
  have : (xs ++ [x])[(xs ++ [x]).length - 1]? = some x := by
    rw [List.length_append, List.length_singleton, Nat.add_sub_cancel, List.getElem?_append_right (Nat.le_refl _), Nat.sub_self]
    rfl
  rw [this]
  show Except.ok (x, (xs ++ [x]).dropLast) = _
  rw [List.dropLast_concat]
theorem atI_last {a : Type} (xs : List a) (x : a) : L2.atI (xs ++ [x]) (-1) = some x := by
  unfold L2.atI ixN
  rw [if_neg (by omega), if_pos (by rw [List.length_append, List.length_singleton]; omega)]
  show (xs ++ [x])[((-1 : Int) + ((xs ++ [x]).length : Int)).toNat]? = some x
  rw [List.length_append, List.length_singleton]
  rw [show ((-1 : Int) + ((xs.length + 1 : Nat) : Int)).toNat = xs.length by omega]
  rw [List.getElem?_append_right (Nat.le_refl _), Nat.sub_self]
  rfl
inductive Path (t : Tr) : List Int → Int → Prop
  | one (x : Int) : Path t [x] 0
  | snoc {ps : List Int} {x y l c : Int} : Path t (ps ++ [x]) l → Step t x y c → Path t ((ps ++ [x]) ++ [y]) (l + c)
theorem nil_or_snoc {a : Type} : ∀ l : List a, l = [] ∨ ∃ i x, l = i ++ [x]
  | [] => .inl rfl
  | x :: xs => by
    rcases nil_or_snoc xs with e | ⟨i, y, e⟩
    · exact .inr ⟨[], x, by rw [e]; rfl⟩
    · exact .inr ⟨x :: i, y, by rw [e]; rfl⟩
theorem way_ok (t : Tr) (ht : TreeOk t) (hn : t.1.length ≤ 100000) (one other : Int) (a0 : 0 ≤ one) (a1 : one < (t.1.length : Int)) (b0 : 0 ≤ other) (b1 : other < (t.1.length : Int)) :
    ∃ ps l, m_way_between t one other = .ok (ps, l) ∧ Path t ps l ∧ ps.Nodup ∧ ps.length ≤ t.1.length ∧ ps[0]? = some one ∧ L2.atI ps (-1) = some other := by
  have hlen := ht.len
  obtain ⟨⟨pl, b⟩, e, hB, hcl⟩ := whL_runN (r := Unit) (b := fun (st76 : (List Int) × (List (Int × (Option Int)))) =>
    if st76.1 ≠ ([] : List Int) then (
    popL st76.1 >>= fun (y95, _) =>
    opt (atI (nearAll t.1.length t.2) y95) >>= fun y107 =>
    loopN (fun (y117 : Int) (st128 : (List (Int × (Option Int))) × (List Int)) =>
    if dHas st128.1 y117 = true then (
    .ok (st128.1, st128.2))
    else (
    putD st128.1 y117 (some y95) >>= fun z143 =>
    appL st128.2 y117 >>= fun _ =>
    .ok (z143, (st128.2 ++ [y117])))) y107 (st76.2, st76.1.dropLast) >>= fun st153 =>
    .ok (.go (st153.2, st153.1)))
    else (
    .ok (.stop (st76.1, st76.2))))
    (fun m st => (m + 2 * st.2.length = 2 * t.1.length + st.1.length ∧ m ≤ 2 * t.1.length) ∧ Bh t other st.2 ∧ (∀ x ∈ st.1, x ∈ st.2.map (·.1)) ∧ ∀ x ∈ st.2.map (·.1), x ∈ st.1 ∨ ∀ y c, Step t x y c → y ∈ st.2.map (·.1))
    (fun st => Bh t other st.2 ∧ ∀ x ∈ st.2.map (·.1), ∀ y c, Step t x y c → y ∈ st.2.map (·.1))
    (fun m ⟨pl, b⟩ ⟨⟨h1, hm0⟩, h2, h3, h4⟩ => by
      have h1 : m + 2 * b.length = 2 * t.1.length + pl.length := h1
      have h2 : Bh t other b := h2
      have h3 : ∀ x ∈ pl, x ∈ b.map (·.1) := h3
      have h4 : ∀ x ∈ b.map (·.1), x ∈ pl ∨ ∀ y c, Step t x y c → y ∈ b.map (·.1) := h4
      rcases nil_or_snoc pl with e | ⟨ini, here, e⟩
      · refine .inr ⟨(pl, b), ?_, h2, fun x hx => ?_⟩
        · show (if pl ≠ [] then _ else _) = _
          rw [if_neg (fun z => z e)]
        · rcases h4 x hx with z | z
          · rw [e] at z; cases z
          · exact z
      · subst e
        refine .inl ?_
        have hh := h3 here (by simp)
        have hr := h2.rg here hh
        have near_at := nearAll_at (n := t.1.length) (ties := t.2) (p := here) hr.1 (by omega)
        have hbl : b.length ≤ t.1.length := h2.len
        have hini : ini.length ≤ 2 * t.1.length := by
          have h1' := h1
          have hm1 : m ≤ 2 * t.1.length := hm0
          rw [List.length_append, List.length_singleton] at h1'
          omega
        obtain ⟨⟨b', pl'⟩, e1, i1, i2, i3, i4, i5, i6⟩ := loopN_run (f := fun (y117 : Int) (st128 : (List (Int × (Option Int))) × (List Int)) =>
          if dHas st128.1 y117 = true then (
          .ok (st128.1, st128.2))
          else (
          putD st128.1 y117 (some here) >>= fun z143 =>
          appL st128.2 y117 >>= fun _ =>
          (.ok (z143, (st128.2 ++ [y117])) : M _))) (all := nearOf t.2 here) (x := (b, ini))
          (fun pre st => Bh t other st.1 ∧ (∀ x ∈ b.map (·.1), x ∈ st.1.map (·.1)) ∧ (∀ y ∈ pre, y ∈ st.1.map (·.1)) ∧ st.2.length + b.length = ini.length + st.1.length ∧ (∀ x ∈ st.2, x ∈ st.1.map (·.1)) ∧ ((∀ x ∈ ini, x ∈ st.2) ∧ ∀ x ∈ st.1.map (·.1), x ∈ b.map (·.1) ∨ x ∈ st.2))
          ⟨h2, fun _ h => h, (fun _ h => nomatch h), rfl, fun x hx => h3 x (List.mem_append_left _ hx), fun _ h => h, fun _ h => .inl h⟩
          (fun pre y post ⟨b2, p2⟩ ea ⟨g1, g2, g3, g4, g5, g6, g7⟩ => by
            have g1 : Bh t other b2 := g1
            have g2 : ∀ x ∈ b.map (·.1), x ∈ b2.map (·.1) := g2
            have g3 : ∀ y ∈ pre, y ∈ b2.map (·.1) := g3
            have g4 : p2.length + b.length = ini.length + b2.length := g4
            have g5 : ∀ x ∈ p2, x ∈ b2.map (·.1) := g5
            have g6 : ∀ x ∈ ini, x ∈ p2 := g6
            have g7 : ∀ x ∈ b2.map (·.1), x ∈ b.map (·.1) ∨ x ∈ p2 := g7
            have hy : y ∈ nearOf t.2 here := by rw [ea]; simp
            obtain ⟨c, hs⟩ := (near_step ht).mp hy
            show ∃ x', (if dHas b2 y = true then _ else _) = _ ∧ _
            by_cases hm : dHas b2 y = true
            · refine ⟨(b2, p2), by rw [if_pos hm], g1, g2, fun z hz => ?_, g4, g5, g6, g7⟩
              rcases List.mem_append.mp hz with hz | hz
              · exact g3 z hz
              · rw [List.mem_singleton.mp hz]; exact dHas_iff.mp hm
            · have hk : y ∉ b2.map (·.1) := fun z => hm (dHas_iff.mpr z)
              have hb2 := g1.len
              have hs' : Step t y here c := by
                obtain ⟨z, hz, h, e⟩ := hs
                exact ⟨z, hz, by omega, e⟩
              have hnew := g1.add ht hk (g2 here hh) hs'
              have hb3 := hnew.len
              have eput : putD b2 y (some here) = .ok (b2 ++ [(y, some here)]) := by
                unfold putD
                rw [if_pos (by omega), dPut_new fun p hp e => hk (List.mem_map.mpr ⟨p, hp, e⟩)]
              have mem : ∀ x, x ∈ (b2 ++ [(y, some here)]).map (·.1) ↔ x ∈ b2.map (·.1) ∨ x = y := fun x => by
                rw [List.map_append, List.mem_append, List.map_singleton, List.mem_singleton]
              have hb2' : b2.length ≤ t.1.length := hb2
              have hpl : p2.length < 16777216 := by omega
              refine ⟨(b2 ++ [(y, some here)], p2 ++ [y]), ?_, hnew, fun x hx => (mem x).mpr (.inl (g2 x hx)), fun z hz => ?_, ?_, fun z hz => ?_, fun z hz => List.mem_append_left _ (g6 z hz), fun z hz => ?_⟩
              · rw [if_neg hm, bind_ok eput, bind_ok (appL_ok hpl)]
              · rcases List.mem_append.mp hz with hz | hz
                · exact (mem z).mpr (.inl (g3 z hz))
                · exact (mem z).mpr (.inr (List.mem_singleton.mp hz))
              · show (p2 ++ [y]).length + b.length = ini.length + (b2 ++ [(y, some here)]).length
                rw [List.length_append, List.length_append, List.length_singleton, List.length_singleton]
                omega
              · rcases List.mem_append.mp hz with hz | hz
                · exact (mem z).mpr (.inl (g5 z hz))
                · exact (mem z).mpr (.inr (List.mem_singleton.mp hz))
              · rcases (mem z).mp hz with hz | hz
                · rcases g7 z hz with q | q
                  · exact .inl q
                  · exact .inr (List.mem_append_left _ q)
                · exact .inr (List.mem_append_right _ (by rw [hz]; simp)))
        obtain ⟨i6, i7⟩ := i6
        have i1 : Bh t other b' := i1
        have i2 : ∀ x ∈ b.map (·.1), x ∈ b'.map (·.1) := i2
        have i3 : ∀ y ∈ nearOf t.2 here, y ∈ b'.map (·.1) := i3
        have i4 : pl'.length + b.length = ini.length + b'.length := i4
        have i5 : ∀ x ∈ pl', x ∈ b'.map (·.1) := i5
        have i6 : ∀ x ∈ ini, x ∈ pl' := i6
        have i7 : ∀ x ∈ b'.map (·.1), x ∈ b.map (·.1) ∨ x ∈ pl' := i7
        have hb' := i1.len
        rw [List.length_append, List.length_singleton] at h1
        have hdec : 2 * t.1.length + pl'.length - 2 * b'.length < m := by
          have h0 := (List.getElem?_eq_some_iff.mp h2.hd).1
          have : b.length ≤ b'.length := by
            have := nd_sub_len (m := b'.map (·.1)) h2.nd i2
            rw [List.length_map, List.length_map] at this
            exact this
          omega
        refine ⟨(pl', b'), 2 * t.1.length + pl'.length - 2 * b'.length, hdec, ?_, ⟨?_, by omega⟩, i1, i5, fun x hx => ?_⟩
        · show (if ini ++ [here] ≠ [] then _ else _) = _
          rw [if_pos (by simp), bind_ok (popL_ok ini here)]
          show (opt (atI (nearAll t.1.length t.2) here) >>= _) = _
          rw [opt_b near_at]
          show (loopN _ (nearOf t.2 here) (b, (ini ++ [here]).dropLast) >>= _) = _
          rw [List.dropLast_concat, bind_ok e1]
        · show 2 * t.1.length + pl'.length - 2 * b'.length + 2 * b'.length = 2 * t.1.length + pl'.length
          omega
        · rcases i7 x hx with q | q
          · rcases h4 x q with z | z
            · rcases List.mem_append.mp z with z | z
              · exact .inl (i6 x z)
              · rw [List.mem_singleton.mp z]
                exact .inr fun y c hs => i3 y ((near_step ht).mpr ⟨c, hs⟩)
            · exact .inr fun y c hs => i2 y (z y c hs)
          · exact .inl q)
    1000000 (2 * t.1.length - 1) ([other], [(other, none)]) ⟨⟨by
        show 2 * t.1.length - 1 + 2 * 1 = 2 * t.1.length + 1
        omega, by omega⟩, ⟨rfl, by simp, fun x hx => by
          have hx : x ∈ [other] := hx
          rw [List.mem_singleton.mp hx]; exact ⟨b0, b1⟩, fun i k q e => by
          cases i with
          | zero => exact .inl rfl
          | succ i => simp at e⟩, fun x hx => hx, fun x hx => .inl hx⟩ (by omega)
  have hB : Bh t other b := hB
  have hcl : ∀ x ∈ b.map (·.1), ∀ y c, Step t x y c → y ∈ b.map (·.1) := hcl
  have hoth : other ∈ b.map (·.1) := List.mem_map.mpr ⟨(other, none), List.mem_of_getElem? hB.hd, rfl⟩
  have hall := tree_all ht (fun x => x ∈ b.map (·.1)) (fun x hx => ⟨fun h => hcl _ h x.b x.c ⟨x, hx, .inl ⟨rfl, rfl⟩, rfl⟩, fun h => hcl _ h x.a x.c ⟨x, hx, .inr ⟨rfl, rfl⟩, rfl⟩⟩) other b0 b1 hoth
  have hbl := hB.len
  have keyi : ∀ {i j : Nat} {k : Int} {q q' : Option Int}, b[i]? = some (k, q) → b[j]? = some (k, q') → i = j := fun {i j k q q'} h1 h2 => by
    have z1 : (b.map (·.1))[i]? = some k := by rw [List.getElem?_map, h1]; rfl
    have z2 : (b.map (·.1))[j]? = some k := by rw [List.getElem?_map, h2]; rfl
    exact nd_ix hB.nd z1 z2
  obtain ⟨p0, hp0, hp1⟩ := List.mem_map.mp (hall one a0 a1)
  obtain ⟨i0, hi0⟩ := List.mem_iff_getElem?.mp hp0
  have hi0 : b[i0]? = some (one, p0.2) := by rw [hi0, ← hp1]
  have hi0l := (List.getElem?_eq_some_iff.mp hi0).1
  obtain ⟨⟨l, ps⟩, e2, q1, q2, q3, q4, q5⟩ := whL_runN (r := Unit) (b := fun (st192 : Int × (List Int)) =>
    opt (atI st192.2 (-(1 : Int))) >>= fun y198 =>
    if y198 ≠ other then (
    opt (atI st192.2 (-(1 : Int))) >>= fun y204 =>
    opt (atI st192.2 (-(1 : Int))) >>= fun y209 =>
    opt (dGet b y209) >>= fun y214 =>
    opt y214 >>= fun y219 =>
    opt (dGet (lenOf t.2) (y204, y219)) >>= fun y234 =>
    opt (atI st192.2 (-(1 : Int))) >>= fun y246 =>
    opt (dGet b y246) >>= fun y251 =>
    opt y251 >>= fun y256 =>
    appL st192.2 y256 >>= fun _ =>
    .ok (.go ((st192.1 + y234), (st192.2 ++ [y256]))))
    else (
    .ok (.stop (st192.1, st192.2))))
    (fun i st => ∃ ini c q, st.2 = ini ++ [c] ∧ Path t st.2 st.1 ∧ b[i]? = some (c, q) ∧ st.2[0]? = some one ∧ (∀ x ∈ ini, ∃ j q', b[j]? = some (x, q') ∧ i < j) ∧ st.2.Nodup)
    (fun st => Path t st.2 st.1 ∧ st.2.Nodup ∧ st.2.length ≤ t.1.length ∧ st.2[0]? = some one ∧ L2.atI st.2 (-1) = some other)
    (fun i ⟨l, fs⟩ ⟨ini, c, q, h1, h2, h3, h4, h5, h6⟩ => by
      have h1 : fs = ini ++ [c] := h1
      have h2 : Path t fs l := h2
      have h4 : fs[0]? = some one := h4
      have h6 : fs.Nodup := h6
      have hal : L2.atI fs (-1) = some c := by rw [h1]; exact atI_last ini c
      have hfl : fs.length ≤ t.1.length := by
        have := nd_sub_len (m := b.map (·.1)) h6 fun x hx => by
          rw [h1] at hx
          rcases List.mem_append.mp hx with hx | hx
          · obtain ⟨j, q', hj, _⟩ := h5 x hx
            exact List.mem_map.mpr ⟨_, List.mem_of_getElem? hj, rfl⟩
          · rw [List.mem_singleton.mp hx]
            exact List.mem_map.mpr ⟨_, List.mem_of_getElem? h3, rfl⟩
        rw [List.length_map] at this
        omega
      by_cases hc : c = other
      · refine .inr ⟨(l, fs), ?_, h2, h6, hfl, h4, ?_⟩
        · show (opt (atI fs (-(1 : Int))) >>= _) = _
          rw [opt_b hal, if_neg (fun z => z hc)]
        · show L2.atI fs (-1) = _
          rw [hal, hc]
      · refine .inl ?_
        rcases hB.bk i c q h3 with z | ⟨h, j, q', cc, g1, g2, g3, g4⟩
        · rw [z, hB.hd] at h3
          injection h3 with h3
          injection h3 with h3 _
          exact (hc h3.symm).elim
        · subst g1
          have hg : dGet b c = some (some h) := dGet_mem hB.nd (List.mem_of_getElem? h3)
          have hnf : h ∉ fs := fun hm => by
            rw [h1] at hm
            rcases List.mem_append.mp hm with hm | hm
            · obtain ⟨j', q2, hj', hlt⟩ := h5 h hm
              have := keyi hj' g3
              omega
            · rw [List.mem_singleton.mp hm] at g3
              have := keyi h3 g3
              omega
          refine ⟨(l + cc, fs ++ [h]), j, g2, ?_, fs, h, q', rfl, ?_, g3, ?_, fun x hx => ?_, ?_⟩
          · show (opt (atI fs (-(1 : Int))) >>= _) = _
            rw [opt_b hal, if_pos hc, opt_b hal, opt_b hal, opt_b hg, opt_b rfl, opt_b (step_len ht g4), opt_b hal, opt_b hg, opt_b rfl, bind_ok (appL_ok (by show fs.length < _; omega))]
          · show Path t (fs ++ [h]) (l + cc)
            rw [h1] at h2 ⊢
            exact Path.snoc h2 g4
          · show (fs ++ [h])[0]? = some one
            have := (List.getElem?_eq_some_iff.mp h4).1
            rw [List.getElem?_append_left this]
            exact h4
          · have hx : x ∈ fs := hx
            rw [h1] at hx
            rcases List.mem_append.mp hx with hx | hx
            · obtain ⟨j', q2, hj', hlt⟩ := h5 x hx
              exact ⟨j', q2, hj', by omega⟩
            · rw [List.mem_singleton.mp hx]
              exact ⟨i, _, h3, g2⟩
          · exact List.nodup_append.mpr ⟨h6, by simp, fun a ha b' hb' e => by rw [List.mem_singleton.mp hb'] at e; exact hnf (e ▸ ha)⟩)
    1000000 i0 (0, [one]) ⟨[], one, p0.2, rfl, Path.one one, hi0, rfl, (fun _ h => nomatch h), by show [one].Nodup; simp⟩ (by omega)
  refine ⟨ps, l, ?_, q1, q2, q3, q4, q5⟩
  unfold m_way_between
  rw [bind_ok (show m_need_place t one = .ok () by unfold m_need_place; rw [if_pos a0, if_pos a1])]
  rw [bind_ok (show m_need_place t other = .ok () by unfold m_need_place; rw [if_pos b0, if_pos b1])]
  rw [bind_ok (tied_places_ok (t.1.length : Int) t.2 (by omega) (by omega) (by omega) ht.tie)]
  rw [show ((t.1.length : Int)).toNat = t.1.length from rfl]
  rw [bind_ok (lengths_ok t ht (by omega))]
  rw [show mergeD [(other, (none : Option Int))] = [(other, none)] from rfl]
  rw [bind_ok e]
  show (whL _ 1000000 (0, [one]) >>= _) = _
  rw [bind_ok e2]

/-! ### which places lie in a branch: m a b x is 1 where x hangs at b seen from a -/
def nbr (ts : List Tie) (b : Int) : List Int := ts.filterMap (other b)
theorem other_tie {p q c b : Int} (h : p ≠ q) : other b (tieOf p q c) = if b = p then some q else if b = q then some p else none := by
  unfold other tieOf
  by_cases hl : p ≤ q
  · rw [if_pos hl]
    show (if p = b then some q else if q = b then some p else none) = _
    by_cases h1 : b = p
    · rw [if_pos h1.symm, if_pos h1]
    · rw [if_neg (fun z => h1 z.symm), if_neg h1]
      by_cases h2 : b = q
      · rw [if_pos h2.symm, if_pos h2]
      · rw [if_neg (fun z => h2 z.symm), if_neg h2]
  · rw [if_neg hl]
    show (if q = b then some p else if p = b then some q else none) = _
    by_cases h1 : b = p
    · rw [if_neg (by omega), if_pos h1.symm, if_pos h1]
    · rw [if_neg h1]
      by_cases h2 : b = q
      · rw [if_pos h2.symm, if_pos h2]
      · rw [if_neg (fun z => h2 z.symm), if_neg (fun z => h1 z.symm), if_neg h2]
theorem nbr_snoc (ts : List Tie) {p q c b : Int} (h : p ≠ q) : nbr (ts ++ [tieOf p q c]) b = nbr ts b ++ (if b = p then [q] else if b = q then [p] else []) := by
  unfold nbr
  rw [List.filterMap_append, List.filterMap_cons, other_tie h, List.filterMap_nil]
  by_cases h1 : b = p
  · rw [if_pos h1, if_pos h1]
  · rw [if_neg h1, if_neg h1]
    by_cases h2 : b = q
    · rw [if_pos h2, if_pos h2]
    · rw [if_neg h2, if_neg h2]
theorem nbr_in {ps : List Int} {ts : List Tie} (g : Grown ps ts) {a b : Int} (h : a ∈ nbr ts b) : a ∈ ps ∧ b ∈ ps ∧ a ≠ b := by
  unfold nbr at h
  obtain ⟨t, ht, e⟩ := List.mem_filterMap.mp h
  obtain ⟨h1, h2, h3⟩ := g.in t ht
  unfold other at e
  by_cases ha : t.a = b
  · rw [if_pos ha] at e
    have e := Option.some.inj e
    rw [← e, ← ha]
    exact ⟨h2, h1, by omega⟩
  · rw [if_neg ha] at e
    by_cases hb : t.b = b
    · rw [if_pos hb] at e
      have e := Option.some.inj e
      rw [← e, ← hb]
      exact ⟨h1, h2, by omega⟩
    · rw [if_neg hb] at e; cases e
def sumF (l : List Int) (f : Int → Nat) : Nat := (l.map f).sum
theorem sumF_app (l m : List Int) (f : Int → Nat) : sumF (l ++ m) f = sumF l f + sumF m f := by unfold sumF; rw [List.map_append, List.sum_append]
theorem sumF_congr {l : List Int} {f g : Int → Nat} (h : ∀ x ∈ l, f x = g x) : sumF l f = sumF l g := by unfold sumF; rw [List.map_congr_left h]
theorem sumF_one (x : Int) (f : Int → Nat) : sumF [x] f = f x := by unfold sumF; simp
theorem sumF_nil (f : Int → Nat) : sumF [] f = 0 := rfl
def ind (x y : Int) : Nat := if x = y then 1 else 0
structure Wt (ps : List Int) (ts : List Tie) (m : Int → Int → Int → Nat) : Prop where
  one : ∀ a b x, a ∈ nbr ts b → x ∈ ps → m a b x = ind x b + sumF ((nbr ts b).filter fun c => decide (c ≠ a)) (fun c => m b c x)
  all : ∀ q x, q ∈ ps → x ∈ ps → ind x q + sumF (nbr ts q) (fun c => m q c x) = 1
def stepM (m : Int → Int → Int → Nat) (p q : Int) (a b x : Int) : Nat :=
  if a = q ∧ b = p then (if x = p then 1 else 0) else if a = p ∧ b = q then (if x = p then 0 else 1) else if x = p then m a b q else m a b x
theorem stepM_old {m : Int → Int → Int → Nat} {p q a b x : Int} (h1 : ¬ (a = q ∧ b = p)) (h2 : ¬ (a = p ∧ b = q)) : stepM m p q a b x = m a b (if x = p then q else x) := by
  unfold stepM
  rw [if_neg h1, if_neg h2]
  split <;> rfl
theorem weights {ps : List Int} {ts : List Tie} (g : Grown ps ts) : ∃ m, Wt ps ts m := by
  induction g with
  | one p =>
    refine ⟨fun _ _ _ => 0, ⟨fun a b x h => (nomatch (show a ∈ ([] : List Int) from h)), fun q x hq hx => ?_⟩⟩
    rw [List.mem_singleton.mp hq, List.mem_singleton.mp hx]
    show ind p p + 0 = 1
    unfold ind
    rw [if_pos rfl]
  | @more ps ts q p c g hq hp ih =>
    obtain ⟨m, M⟩ := ih
    have hpq : p ≠ q := fun z => hp (z ▸ hq)
    have nin : ∀ {a b}, a ∈ nbr ts b → a ≠ p ∧ b ≠ p := fun {a b} h => by
      obtain ⟨h1, h2, _⟩ := nbr_in g h
      exact ⟨fun z => hp (z ▸ h1), fun z => hp (z ▸ h2)⟩
    have np : nbr ts p = [] := List.eq_nil_iff_forall_not_mem.mpr fun a h => (nin h).2 rfl
    -- where x stands: the new place stands where its neighbour stands
    have back : ∀ x, x ∈ ps ++ [p] → (if x = p then q else x) ∈ ps := fun x hx => by
      by_cases hxp : x = p
      · rw [if_pos hxp]; exact hq
      · rw [if_neg hxp]
        rcases List.mem_append.mp hx with z | z
        · exact z
        · exact (hxp (List.mem_singleton.mp z)).elim
    have oldS : ∀ (l : List Int) (b x : Int), b ≠ p → (∀ c ∈ l, c ≠ p) → sumF l (fun c => stepM m p q b c x) = sumF l (fun c => m b c (if x = p then q else x)) := fun l b x hb hl =>
      sumF_congr fun c hc => stepM_old (fun z => hl c hc z.2) (fun z => hb z.1)
    have indx : ∀ x b : Int, b ≠ p → b ≠ q → ind x b = ind (if x = p then q else x) b := fun x b hb hbq => by
      by_cases hxp : x = p
      · rw [if_pos hxp, hxp]
        unfold ind
        rw [if_neg (fun z => hb z.symm), if_neg (fun z => hbq z.symm)]
      · rw [if_neg hxp]
    have memf : ∀ (l : List Int) (a : Int), (∀ c ∈ l, c ≠ p) → ∀ c ∈ l.filter (fun c => decide (c ≠ a)), c ≠ p := fun l a hl c hc => hl c (List.mem_filter.mp hc).1
    have lp : ∀ b, ∀ c ∈ nbr ts b, c ≠ p := fun b c hc => (nin hc).1
    refine ⟨stepM m p q, ⟨fun a b x ha hx => ?_, fun q0 x hq0 hx => ?_⟩⟩
    · rw [nbr_snoc ts hpq] at ha ⊢
      have hb' := back x hx
      by_cases hbp : b = p
      · subst hbp
        rw [np, if_pos rfl] at ha ⊢
        have ha : a = q := List.mem_singleton.mp ha
        subst ha
        have : ([a].filter fun c => decide (c ≠ a)) = [] := by simp
        show stepM m b a a b x = ind x b + sumF (([] ++ [a]).filter fun c => decide (c ≠ a)) _
        rw [List.nil_append, this, sumF_nil]
        unfold stepM ind
        rw [if_pos ⟨rfl, rfl⟩]
        rfl
      · rw [if_neg hbp] at ha ⊢
        by_cases hbq : b = q
        · subst hbq
          rw [if_pos rfl] at ha ⊢
          rw [List.filter_append, sumF_app]
          by_cases hap : a = p
          · subst hap
            have f1 : ((nbr ts b).filter fun c => decide (c ≠ a)) = nbr ts b := List.filter_eq_self.mpr fun c hc => decide_eq_true (lp b c hc)
            have f2 : ([a].filter fun c => decide (c ≠ a)) = [] := by simp
            rw [f1, f2, sumF_nil, oldS _ _ _ hbp (lp b)]
            have al := M.all b _ hq hb'
            unfold stepM
            rw [if_neg (fun z => hbp z.2), if_pos ⟨rfl, rfl⟩]
            by_cases hxp : x = a
            · rw [if_pos hxp] at al ⊢
              rw [if_pos hxp]
              have i1 : ind b b = 1 := if_pos rfl
              have i2 : ind x b = 0 := if_neg (fun z => hbp (by rw [← z, hxp]))
              rw [i1] at al
              rw [i2]
              omega
            · rw [if_neg hxp] at al ⊢
              rw [if_neg hxp]
              omega
          · have ha' : a ∈ nbr ts b := by
              rcases List.mem_append.mp ha with z | z
              · exact z
              · exact (hap (List.mem_singleton.mp z)).elim
            have f2 : ([p].filter fun c => decide (c ≠ a)) = [p] := List.filter_eq_self.mpr fun c hc => by rw [List.mem_singleton.mp hc]; exact decide_eq_true (fun z => hap z.symm)
            rw [f2, sumF_one, oldS _ _ _ hbp (memf _ _ (lp b)), stepM_old (fun z => hbp z.2) (fun z => hap z.1)]
            have on := M.one a b _ ha' hb'
            have sp : stepM m p b b p x = if x = p then 1 else 0 := if_pos ⟨rfl, rfl⟩
            rw [sp, on]
            by_cases hxp : x = p
            · rw [if_pos hxp, if_pos hxp]
              have i1 : ind b b = 1 := if_pos rfl
              have i2 : ind x b = 0 := if_neg (fun z => hbp (by rw [← z, hxp]))
              rw [i1, i2]
              omega
            · rw [if_neg hxp, if_neg hxp]
              omega
        · rw [if_neg hbq, List.append_nil] at ha ⊢
          have hap := (nin ha).1
          rw [oldS _ _ _ hbp (memf _ _ (lp b)), stepM_old (fun z => hbp z.2) (fun z => hap z.1), indx x b hbp hbq]
          exact M.one a b _ ha hb'
    · rw [nbr_snoc ts hpq]
      have hb' := back x hx
      by_cases hbp : q0 = p
      · subst hbp
        rw [np, if_pos rfl, List.nil_append, sumF_one]
        have sp : stepM m q0 q q0 q x = if x = q0 then 0 else 1 := by
          unfold stepM
          rw [if_neg (fun z => hpq z.1), if_pos ⟨rfl, rfl⟩]
        rw [sp]
        unfold ind
        split <;> rfl
      · rw [if_neg hbp]
        have hq0' : q0 ∈ ps := by
          rcases List.mem_append.mp hq0 with z | z
          · exact z
          · exact (hbp (List.mem_singleton.mp z)).elim
        have al := M.all q0 _ hq0' hb'
        rw [sumF_app, oldS _ _ _ hbp (lp q0)]
        by_cases hbq : q0 = q
        · subst hbq
          rw [if_pos rfl, sumF_one]
          have sp : stepM m p q0 q0 p x = if x = p then 1 else 0 := if_pos ⟨rfl, rfl⟩
          rw [sp]
          by_cases hxp : x = p
          · rw [if_pos hxp] at al ⊢
            rw [if_pos hxp]
            have i1 : ind q0 q0 = 1 := if_pos rfl
            have i2 : ind x q0 = 0 := if_neg (fun z => hbp (by rw [← z, hxp]))
            rw [i1] at al
            rw [i2]
            omega
          · rw [if_neg hxp] at al ⊢
            rw [if_neg hxp]
            omega
        · rw [if_neg hbq, sumF_nil, indx x q0 hbp hbq]
          omega

theorem sumF_add (l : List Int) (f g : Int → Nat) : sumF l (fun x => f x + g x) = sumF l f + sumF l g := by
  induction l with
  | nil => rfl
  | cons x l ih =>
    show (f x + g x) + sumF l _ = (f x + sumF l f) + (g x + sumF l g)
    rw [ih]
    omega
theorem sumF_zero (l : List Int) : sumF l (fun _ => 0) = 0 := by
  induction l with
  | nil => rfl
  | cons x l ih => show 0 + sumF l _ = 0; rw [ih]
theorem sumF_swap (l k : List Int) (f : Int → Int → Nat) : sumF l (fun x => sumF k (fun c => f c x)) = sumF k (fun c => sumF l (fun x => f c x)) := by
  induction k with
  | nil => exact sumF_zero l
  | cons c k ih =>
    show sumF l (fun x => f c x + sumF k (fun c => f c x)) = sumF l (fun x => f c x) + sumF k (fun c => sumF l (fun x => f c x))
    rw [sumF_add, ih]
theorem sumF_ind {l : List Int} (nd : l.Nodup) {b : Int} (h : b ∈ l) : sumF l (fun x => ind x b) = 1 := by
  induction l with
  | nil => cases h
  | cons x l ih =>
    obtain ⟨n1, n2⟩ := List.nodup_cons.mp nd
    show ind x b + sumF l (fun x => ind x b) = 1
    by_cases e : x = b
    · have : sumF l (fun x => ind x b) = sumF l (fun _ => 0) := sumF_congr fun y hy => if_neg (fun z => n1 (by rw [e, ← z]; exact hy))
      rw [this, sumF_zero]
      unfold ind
      rw [if_pos e]
    · have hb : b ∈ l := by
        rcases List.mem_cons.mp h with z | z
        · exact (e z.symm).elim
        · exact z
      rw [ih n2 hb]
      unfold ind
      rw [if_neg e]
theorem sumF_le {l : List Int} {f : Int → Nat} (h : ∀ x ∈ l, f x ≤ 1) : sumF l f ≤ l.length := by
  induction l with
  | nil => exact Nat.le_refl _
  | cons x l ih =>
    show f x + sumF l f ≤ l.length + 1
    have := h x List.mem_cons_self
    have := ih fun y hy => h y (List.mem_cons_of_mem _ hy)
    omega
theorem sumF_mem {l : List Int} {f : Int → Nat} {x : Int} (h : x ∈ l) : f x ≤ sumF l f := by
  induction l with
  | nil => cases h
  | cons y l ih =>
    show f x ≤ f y + sumF l f
    rcases List.mem_cons.mp h with z | z
    · rw [z]; omega
    · have := ih z
      omega
theorem sumF_perm {l k : List Int} (h : l.Perm k) (f : Int → Nat) : sumF l f = sumF k f := by
  unfold sumF
  exact (h.map f).sum_nat
theorem nbr_sym {ts : List Tie} {a b : Int} (hv : ∀ t ∈ ts, t.a < t.b) (h : a ∈ nbr ts b) : b ∈ nbr ts a := by
  unfold nbr at h ⊢
  obtain ⟨t, ht, e⟩ := List.mem_filterMap.mp h
  refine List.mem_filterMap.mpr ⟨t, ht, ?_⟩
  have := hv t ht
  unfold other at e ⊢
  by_cases ha : t.a = b
  · rw [if_pos ha] at e
    have e := Option.some.inj e
    rw [if_neg (by omega), if_pos e, ha]
  · rw [if_neg ha] at e
    by_cases hb : t.b = b
    · rw [if_pos hb] at e
      have e := Option.some.inj e
      rw [if_pos e, hb]
    · rw [if_neg hb] at e; cases e
/-- how many places hang at b seen from a -/
theorem weight_tree {t : Tr} (ht : TreeOk t) : ∃ w : Int → Int → Nat, ∀ a b, a ∈ nearOf t.2 b → w a b = 1 + sumF ((nearOf t.2 b).filter fun c => decide (c ≠ a)) (w b) ∧ w a b ≤ t.1.length := by
  obtain ⟨ps, ts, g, hp, e⟩ := ht.ex
  obtain ⟨m, M⟩ := weights g
  have nd := g.nd
  have hpl := hp.length_eq
  rw [rangeL_length] at hpl
  have hn : ps.length = t.1.length := by omega
  have hv : ∀ x ∈ ts, x.a < x.b := fun x hx => (g.in x hx).2.2
  have perm : ∀ b, (nearOf t.2 b).Perm (nbr ts b) := fun b => by
    unfold nearOf nbr
    rw [e]
    exact (sortT_perm _).trans ((sortT_perm ts).filterMap _)
  refine ⟨fun a b => sumF ps (fun x => m a b x), fun a b ha => ?_⟩
  have ha' : a ∈ nbr ts b := (perm b).mem_iff.mp ha
  obtain ⟨h1, h2, h3⟩ := nbr_in g ha'
  constructor
  · have e1 : sumF ps (fun x => m a b x) = sumF ps (fun x => ind x b + sumF ((nbr ts b).filter fun c => decide (c ≠ a)) (fun c => m b c x)) := sumF_congr fun x hx => M.one a b x ha' hx
    show sumF ps (fun x => m a b x) = _
    rw [e1, sumF_add, sumF_ind nd h2, sumF_swap]
    rw [sumF_perm ((perm b).filter _)]
  · rw [← hn]
    refine sumF_le fun x hx => ?_
    have := M.all a x h1 hx
    have hb := nbr_sym hv ha'
    have := sumF_mem (f := fun c => m a c x) hb
    omega

/-! ### ways: the one way between two places -/
inductive Way (t : Tr) : Int → List Int → Int → Int → Prop
  | one (x : Int) : Way t x [] x 0
  | cons {x y z l d : Int} {ps : List Int} : Step t x y l → Way t y ps z d → Way t x (y :: ps) z (l + d)
theorem sumF_two {l : List Int} {f : Int → Nat} {x y : Int} (hx : x ∈ l) (hy : y ∈ l) (h : x ≠ y) : f x + f y ≤ sumF l f := by
  induction l with
  | nil => cases hx
  | cons z l ih =>
    have e : sumF (z :: l) f = f z + sumF l f := rfl
    rw [e]
    rcases List.mem_cons.mp hx with hx | hx <;> rcases List.mem_cons.mp hy with hy | hy
    · exact (h (hx.trans hy.symm)).elim
    · rw [hx]
      have := sumF_mem (f := f) hy
      omega
    · rw [hy]
      have := sumF_mem (f := f) hx
      omega
    · have := ih hx hy
      omega
theorem stp_sym {t : Tr} {a b l : Int} (h : Step t a b l) : Step t b a l := by
  obtain ⟨z, hz, h, e⟩ := h
  exact ⟨z, hz, by omega, e⟩
structure Ld (t : Tr) (m : Int → Int → Int → Nat) : Prop where
  le : ∀ a b c x, a ∈ nearOf t.2 b → c ∈ nearOf t.2 b → c ≠ a → 0 ≤ x → x < (t.1.length : Int) → m b c x ≤ m a b x
  at_ : ∀ a b, a ∈ nearOf t.2 b → 1 ≤ m a b b
  one : ∀ q x c c', 0 ≤ x → x < (t.1.length : Int) → c ∈ nearOf t.2 q → c' ∈ nearOf t.2 q → 1 ≤ m q c x → 1 ≤ m q c' x → c = c'
theorem leads {t : Tr} (ht : TreeOk t) : ∃ m, Ld t m := by
  obtain ⟨ps, ts, g, hp, e⟩ := ht.ex
  obtain ⟨m, M⟩ := weights g
  have perm : ∀ b, (nearOf t.2 b).Perm (nbr ts b) := fun b => by
    unfold nearOf nbr
    rw [e]
    exact (sortT_perm _).trans ((sortT_perm ts).filterMap _)
  have inp : ∀ x : Int, 0 ≤ x → x < (t.1.length : Int) → x ∈ ps := fun x h0 h1 => hp.mem_iff.mpr (rangeL_mem.mpr ⟨h0, h1⟩)
  refine ⟨m, fun a b c x ha hc hca x0 x1 => ?_, fun a b ha => ?_, fun q x c c' x0 x1 hc hc' h1 h2 => ?_⟩
  · have ha' := (perm b).mem_iff.mp ha
    have hc' := (perm b).mem_iff.mp hc
    rw [M.one a b x ha' (inp x x0 x1)]
    have := sumF_mem (l := (nbr ts b).filter fun c => decide (c ≠ a)) (f := fun c => m b c x) (List.mem_filter.mpr ⟨hc', decide_eq_true hca⟩)
    have h2 : m b c x ≤ _ := this
    omega
  · have ha' := (perm b).mem_iff.mp ha
    rw [M.one a b b ha' (nbr_in g ha').2.1]
    unfold ind
    rw [if_pos rfl]
    omega
  · refine Classical.byContradiction fun hne => ?_
    have k1 := (perm q).mem_iff.mp hc
    have k2 := (perm q).mem_iff.mp hc'
    have h3 := M.all q x (nbr_in g k1).2.1 (inp x x0 x1)
    have h4 := sumF_two (f := fun c => m q c x) k1 k2 hne
    have h4 : m q c x + m q c' x ≤ _ := h4
    omega
section
variable {t : Tr} (ht : TreeOk t)
include ht
theorem way_rg {x z d : Int} {ps : List Int} (h : Way t x ps z d) (x0 : 0 ≤ x) (x1 : x < (t.1.length : Int)) : 0 ≤ z ∧ z < (t.1.length : Int) := by
  induction h with
  | one x => exact ⟨x0, x1⟩
  | cons hs _ ih =>
    have := step_rg ht hs
    exact ih this.2.1.1 this.2.1.2
theorem way_lead {m : Int → Int → Int → Nat} (L : Ld t m) {y z d : Int} {ps : List Int} (h : Way t y ps z d) : ∀ {x l : Int}, Step t x y l → (x :: y :: ps).Nodup → 1 ≤ m x y z := by
  induction h with
  | one y =>
    intro x l hs _
    exact L.at_ x y ((near_step ht).mpr ⟨l, stp_sym hs⟩)
  | @cons y y2 z l2 d ps hs2 hw ih =>
    intro x l hs nd
    have hn := List.nodup_cons.mp nd
    have h1 := ih hs2 hn.2
    have rg := step_rg ht hs2
    have hz := way_rg ht hw rg.2.1.1 rg.2.1.2
    have h2 := L.le x y y2 z ((near_step ht).mpr ⟨l, stp_sym hs⟩) ((near_step ht).mpr ⟨l2, hs2⟩) (fun e => hn.1 (by rw [← e]; simp)) hz.1 hz.2
    omega
omit ht in
theorem way_mem {x z d : Int} {ps : List Int} (h : Way t x ps z d) : z ∈ x :: ps := by
  induction h with
  | one x => simp
  | cons _ _ ih => exact List.mem_cons_of_mem _ ih
theorem way_uniq {x z d : Int} {ps : List Int} (h : Way t x ps z d) : ∀ {qs : List Int} {e : Int}, Way t x qs z e → (x :: ps).Nodup → (x :: qs).Nodup → ps = qs ∧ d = e := by
  obtain ⟨m, L⟩ := leads ht
  induction h with
  | one x =>
    intro qs e hq _ nq
    cases hq with
    | one => exact ⟨rfl, rfl⟩
    | cons hs hw => exact absurd (way_mem hw) (List.nodup_cons.mp nq).1
  | @cons x y z l d ps hs hw ih =>
    intro qs e hq np nq
    cases hq with
    | one => exact absurd (way_mem hw) (List.nodup_cons.mp np).1
    | @cons _ y' _ l' d' qs hs' hw' =>
      have rg := step_rg ht hs
      have hz := way_rg ht hw rg.2.1.1 rg.2.1.2
      have e1 := L.one x z y y' hz.1 hz.2 ((near_step ht).mpr ⟨l, hs⟩) ((near_step ht).mpr ⟨l', hs'⟩) (way_lead ht L hw hs np) (way_lead ht L hw' hs' nq)
      subst e1
      have el : l = l' := Option.some.inj ((step_len ht hs).symm.trans (step_len ht hs'))
      subst el
      obtain ⟨i1, i2⟩ := ih hw' (List.nodup_cons.mp np).2 (List.nodup_cons.mp nq).2
      exact ⟨by rw [i1], by rw [i2]⟩
omit ht
theorem way_snoc {x z d y l : Int} {ps : List Int} (h : Way t x ps z d) (hs : Step t z y l) : Way t x (ps ++ [y]) y (d + l) := by
  induction h with
  | one x =>
    have := Way.cons hs (Way.one y)
    rw [Int.add_zero] at this
    rw [Int.zero_add]
    exact this
  | cons h1 _ ih =>
    rw [Int.add_assoc]
    exact Way.cons h1 (ih hs)
theorem way_pre {x z d b : Int} {ps : List Int} (h : Way t x ps z d) : b ∈ x :: ps → ∃ qs e, Way t x qs b e ∧ ∃ rs, ps = qs ++ rs := by
  induction h with
  | one x =>
    intro hb
    have hb := List.mem_singleton.mp hb
    subst hb
    exact ⟨[], 0, Way.one _, [], rfl⟩
  | @cons x y z l d ps hs _ ih =>
    intro hb
    by_cases e : b = x
    · subst e
      exact ⟨[], 0, Way.one _, y :: ps, rfl⟩
    · obtain ⟨qs, e2, h1, rs, h2⟩ := ih (by
        rcases List.mem_cons.mp hb with h | h
        · exact (e h).elim
        · exact h)
      exact ⟨y :: qs, l + e2, Way.cons hs h1, rs, by rw [h2]; rfl⟩
theorem way_app {x y z d e : Int} {ps qs : List Int} (h : Way t x ps y d) (h2 : Way t y qs z e) : Way t x (ps ++ qs) z (d + e) := by
  induction h with
  | one x => rw [Int.zero_add]; exact h2
  | cons hs _ ih => rw [Int.add_assoc]; exact Way.cons hs (ih h2)
theorem way_rev {x z d : Int} {ps : List Int} (h : Way t x ps z d) : ∃ qs, Way t z qs x d ∧ z :: qs = (x :: ps).reverse := by
  induction h with
  | one x => exact ⟨[], Way.one x, rfl⟩
  | @cons x y z l d ps hs _ ih =>
    obtain ⟨qs, h1, h2⟩ := ih
    refine ⟨qs ++ [x], ?_, ?_⟩
    · rw [Int.add_comm]
      exact way_snoc h1 (stp_sym hs)
    · rw [List.reverse_cons, ← h2]
      rfl
/-- how far it is -/
def Dist (t : Tr) (x y d : Int) : Prop := ∃ ps, Way t x ps y d ∧ (x :: ps).Nodup
theorem dist_uniq (ht : TreeOk t) {x y d e : Int} (h : Dist t x y d) (h2 : Dist t x y e) : d = e := by
  obtain ⟨ps, h, n⟩ := h
  obtain ⟨qs, h2, n2⟩ := h2
  exact (way_uniq ht h h2 n n2).2
theorem dist_self (x : Int) : Dist t x x 0 := ⟨[], Way.one x, by simp⟩
theorem dist_sym {x y d : Int} (h : Dist t x y d) : Dist t y x d := by
  obtain ⟨ps, h, n⟩ := h
  obtain ⟨qs, h1, h2⟩ := way_rev h
  exact ⟨qs, h1, by rw [h2]; exact (List.reverse_perm _).nodup_iff.mpr n⟩
theorem dist_all (ht : TreeOk t) {x : Int} (x0 : 0 ≤ x) (x1 : x < (t.1.length : Int)) : ∀ y, 0 ≤ y → y < (t.1.length : Int) → ∃ d, Dist t x y d := by
  have go : ∀ {a b l : Int}, Step t a b l → (∃ d, Dist t x a d) → ∃ d, Dist t x b d := fun {a b l} hs ⟨d, ps, h, n⟩ => by
    by_cases hb : b ∈ x :: ps
    · obtain ⟨qs, e, h1, rs, h2⟩ := way_pre h hb
      refine ⟨e, qs, h1, ?_⟩
      rw [h2] at n
      exact n.sublist (List.Sublist.cons_cons _ (List.sublist_append_left qs rs))
    · refine ⟨d + l, ps ++ [b], way_snoc h hs, ?_⟩
      rw [← List.cons_append]
      exact List.nodup_append.mpr ⟨n, by simp, fun u hu v hv e => hb (by rw [List.mem_singleton.mp hv] at e; rw [← e]; exact hu)⟩
  exact tree_all ht (fun y => ∃ d, Dist t x y d) (fun z hz => ⟨go ⟨z, hz, .inl ⟨rfl, rfl⟩, rfl⟩, go ⟨z, hz, .inr ⟨rfl, rfl⟩, rfl⟩⟩) x x0 x1 ⟨0, dist_self x⟩
theorem dist_fun (ht : TreeOk t) : ∃ D : Int → Int → Int, ∀ x y, 0 ≤ x → x < (t.1.length : Int) → 0 ≤ y → y < (t.1.length : Int) → Dist t x y (D x y) := by
  have h : ∀ p : Int × Int, ∃ d, 0 ≤ p.1 → p.1 < (t.1.length : Int) → 0 ≤ p.2 → p.2 < (t.1.length : Int) → Dist t p.1 p.2 d := fun p => by
    by_cases c : (0 ≤ p.1 ∧ p.1 < (t.1.length : Int)) ∧ 0 ≤ p.2 ∧ p.2 < (t.1.length : Int)
    · obtain ⟨d, hd⟩ := dist_all ht c.1.1 c.1.2 p.2 c.2.1 c.2.2
      exact ⟨d, fun _ _ _ _ => hd⟩
    · exact ⟨0, fun h1 h2 h3 h4 => (c ⟨⟨h1, h2⟩, h3, h4⟩).elim⟩
  obtain ⟨D, hD⟩ := Classical.skolem.mp h
  exact ⟨fun x y => D (x, y), fun x y h1 h2 h3 h4 => hD (x, y) h1 h2 h3 h4⟩
/-- .. by places of a list alone -/
def DistIn (t : Tr) (F : List Int) (x y d : Int) : Prop := ∃ ps, Way t x ps y d ∧ (x :: ps).Nodup ∧ ∀ p ∈ x :: ps, p ∈ F
theorem DistIn.dist {F : List Int} {x y d : Int} (h : DistIn t F x y d) : Dist t x y d := by
  obtain ⟨ps, h1, h2, _⟩ := h
  exact ⟨ps, h1, h2⟩
theorem DistIn.mono {F G : List Int} {x y d : Int} (h : DistIn t F x y d) (s : ∀ p ∈ F, p ∈ G) : DistIn t G x y d := by
  obtain ⟨ps, h1, h2, h3⟩ := h
  exact ⟨ps, h1, h2, fun p hp => s p (h3 p hp)⟩
theorem DistIn.next {F : List Int} {x y z l d : Int} (h : DistIn t F x y d) (hs : Step t y z l) (hz : z ∉ F) : DistIn t (F ++ [z]) x z (d + l) := by
  obtain ⟨ps, h1, h2, h3⟩ := h
  refine ⟨ps ++ [z], way_snoc h1 hs, ?_, fun p hp => ?_⟩
  · rw [← List.cons_append]
    exact List.nodup_append.mpr ⟨h2, by simp, fun u hu v hv e => hz (by rw [List.mem_singleton.mp hv] at e; rw [← e]; exact h3 u hu)⟩
  · rw [← List.cons_append] at hp
    rcases List.mem_append.mp hp with hp | hp
    · exact List.mem_append_left _ (h3 p hp)
    · exact List.mem_append_right _ hp
end
section
variable {t : Tr}
theorem way_split {x z d b : Int} {ps : List Int} (h : Way t x ps z d) : b ∈ x :: ps → ∃ qs rs e f, Way t x qs b e ∧ Way t b rs z f ∧ ps = qs ++ rs ∧ d = e + f := by
  induction h with
  | one x =>
    intro hb
    have hb := List.mem_singleton.mp hb
    subst hb
    exact ⟨[], [], 0, 0, Way.one _, Way.one _, rfl, rfl⟩
  | @cons x y z l d ps hs hw ih =>
    intro hb
    by_cases e : b = x
    · subst e
      exact ⟨[], y :: ps, 0, l + d, Way.one _, Way.cons hs hw, rfl, (Int.zero_add _).symm⟩
    · obtain ⟨qs, rs, e2, f, h1, h2, h3, h4⟩ := ih (by
        rcases List.mem_cons.mp hb with h | h
        · exact (e h).elim
        · exact h)
      exact ⟨y :: qs, rs, l + e2, f, Way.cons hs h1, h2, by rw [h3]; rfl, by rw [h4, Int.add_assoc]⟩
/-- a way without going round -/
theorem way_short {x z d : Int} {ps : List Int} (h : Way t x ps z d) : ∃ qs e, Way t x qs z e ∧ (x :: qs).Nodup ∧ ∀ p ∈ x :: qs, p ∈ x :: ps := by
  induction h with
  | one x => exact ⟨[], 0, Way.one x, by simp, fun p hp => hp⟩
  | @cons x y z l d ps hs _ ih =>
    obtain ⟨qs, e, h1, h2, h3⟩ := ih
    by_cases hx : x ∈ y :: qs
    · obtain ⟨us, rs, e1, f, g1, g2, g3, g4⟩ := way_split h1 hx
      refine ⟨rs, f, g2, ?_, fun p hp => ?_⟩
      · rw [g3, ← List.cons_append] at h2
        have n := List.nodup_append.mp h2
        exact List.nodup_cons.mpr ⟨fun hr => n.2.2 x (way_mem g1) x hr rfl, n.2.1⟩
      · rcases List.mem_cons.mp hp with e | hp
        · rw [e]; exact List.mem_cons_self
        · refine List.mem_cons_of_mem _ (h3 p ?_)
          rw [g3]
          exact List.mem_cons_of_mem _ (List.mem_append_right _ hp)
    · exact ⟨y :: qs, l + e, Way.cons hs h1, List.nodup_cons.mpr ⟨hx, h2⟩, fun p hp => by
        rcases List.mem_cons.mp hp with e | hp
        · rw [e]; exact List.mem_cons_self
        · exact List.mem_cons_of_mem _ (h3 p hp)⟩
end

theorem nr_nd {t : Tr} (ht : TreeOk t) (x : Int) : (nearOf t.2 x).Nodup := by
  unfold nearOf
  refine (sortT_perm _).nodup_iff.mpr ?_
  refine List.pairwise_filterMap.mpr ?_
  have h := List.pairwise_map.mp (tree_pairs ht)
  refine List.Pairwise.imp_of_mem ?_ h
  intro s u hs hu ne b eb b' eb' ebb
  have v1 := ht.tie s hs
  have v2 := ht.tie u hu
  subst ebb
  refine ne ?_
  unfold other at eb eb'
  by_cases a1 : s.a = x
  · rw [if_pos a1] at eb
    have eb := Option.some.inj eb
    by_cases a2 : u.a = x
    · rw [if_pos a2] at eb'
      have eb' := Option.some.inj eb'
      rw [a1, a2, eb, eb']
    · rw [if_neg a2] at eb'
      by_cases a3 : u.b = x
      · rw [if_pos a3] at eb'
        have eb' := Option.some.inj eb'
        omega
      · rw [if_neg a3] at eb'; cases eb'
  · rw [if_neg a1] at eb
    by_cases a3 : s.b = x
    · rw [if_pos a3] at eb
      have eb := Option.some.inj eb
      by_cases a2 : u.a = x
      · rw [if_pos a2] at eb'
        have eb' := Option.some.inj eb'
        omega
      · rw [if_neg a2] at eb'
        by_cases a4 : u.b = x
        · rw [if_pos a4] at eb'
          have eb' := Option.some.inj eb'
          rw [a3, a4, eb, eb']
        · rw [if_neg a4] at eb'; cases eb'
    · rw [if_neg a3] at eb; cases eb

theorem filterMap_range {a : Type} (l : List a) : (List.range l.length).filterMap (fun i => l[i]?) = l := by
  have h : (List.range l.length).map (fun i => l[i]?) = l.map some := by
    refine List.ext_getElem? fun i => ?_
    rw [List.getElem?_map, List.getElem?_map]
    by_cases hi : i < l.length
    · rw [List.getElem?_range hi, List.getElem?_eq_getElem hi]
      show some (l[i]?) = _
      rw [List.getElem?_eq_getElem hi]
      rfl
    · rw [List.getElem?_eq_none (by simpa using hi), List.getElem?_eq_none (by omega)]
      rfl
  have h2 : (List.range l.length).filterMap (fun i => l[i]?) = ((List.range l.length).map (fun i => l[i]?)).filterMap id := by rw [List.filterMap_map]; rfl
  rw [h2, h, List.filterMap_map]
  show l.filterMap some = l
  exact List.filterMap_some
theorem at_perm {a : Type} (l : List a) {o : List Int} (h : o.Perm (rangeL 0 (l.length : Int))) : (o.filterMap fun k => l[k.toNat]?).Perm l := by
  refine (h.filterMap _).trans ?_
  have e : (rangeL 0 (l.length : Int)).filterMap (fun k => l[k.toNat]?) = l := by
    unfold rangeL
    rw [List.filterMap_map]
    have : ((l.length : Int) - 0).toNat = l.length := by omega
    rw [this]
    have h2 := filterMap_range l
    rw [← h2]
    rw [h2]
    refine (fm_congr fun i _ => ?_).trans h2
    show l[(0 + (i : Int)).toNat]? = l[i]?
    rw [show (0 + (i : Int)).toNat = i by omega]
  rw [e]

theorem cut_take {a : Type} (xs : List a) (k : Int) (h : 0 ≤ k) : cutL xs none (some k) = xs.take k.toNat := by
  unfold cutL
  rw [HT.sIx_none, show HT.sIx xs.length xs.length (some k) = min k.toNat xs.length by show (if k < 0 then (k + (xs.length : Int)).toNat else min k.toNat xs.length) = _; rw [if_neg (by omega)], List.drop_zero, Nat.sub_zero]
  by_cases z : k.toNat ≤ xs.length
  · rw [Nat.min_eq_left z]
  · rw [Nat.min_eq_right (by omega), List.take_length, List.take_of_length_le (by omega)]
theorem cut_drop {a : Type} (xs : List a) (k : Int) (h : 0 ≤ k) : cutL xs (some k) none = xs.drop k.toNat := by
  unfold cutL
  rw [HT.sIx_none, show HT.sIx xs.length 0 (some k) = min k.toNat xs.length by show (if k < 0 then (k + (xs.length : Int)).toNat else min k.toNat xs.length) = _; rw [if_neg (by omega)]]
  by_cases z : k.toNat ≤ xs.length
  · rw [Nat.min_eq_left z, List.take_of_length_le (by rw [List.length_drop]; omega)]
  · rw [Nat.min_eq_right (by omega), List.drop_length, List.drop_of_length_le (by omega), List.take_nil]

theorem rangeL_sorted (lo hi : Int) : (rangeL lo hi).Pairwise (fun x y => leT x y = true) := by
  unfold rangeL
  rw [List.pairwise_map]
  refine List.Pairwise.imp ?_ (List.pairwise_lt_range (n := (hi - lo).toNat))
  intro a b h
  rw [leT_int]
  exact decide_eq_true (by omega)
theorem order_sorted {o : List Int} {n : Int} (h : o.Perm (rangeL 0 n)) : sortT o = rangeL 0 n := by rw [sortT_eq h, sortT_id (rangeL_sorted _ _)]
theorem merge_new {β : Type} : ∀ {xs ac : List (Int × β)}, ((ac ++ xs).map (·.1)).Nodup → xs.foldl (fun acc p => dPut acc p.1 p.2) ac = ac ++ xs
  | [], ac, _ => by simp
  | x :: xs, ac, h => by
    rw [List.foldl_cons]
    have hn : ∀ p ∈ ac, p.1 ≠ x.1 := fun p hp e => by
      rw [List.map_append, List.map_cons, List.nodup_append] at h
      exact h.2.2 p.1 (List.mem_map.mpr ⟨p, hp, rfl⟩) x.1 List.mem_cons_self e
    rw [dPut_new hn, merge_new (by rw [List.append_assoc]; exact h), List.append_assoc]
    rfl
def posOf (o : List Int) (x : Int) : Int := ((o.findIdx (· == x) : Nat) : Int)
def pairsOf (o : List Int) : List (Int × Int) := o.zipIdx.map fun p => (p.1, (p.2 : Int))
theorem pairs_get : ∀ {o : List Int} {n : Nat} {x : Int}, x ∈ o → dGet ((o.zipIdx n).map fun p => (p.1, (p.2 : Int))) x = some ((n : Int) + posOf o x)
  | [], _, _, h => by cases h
  | a :: o, n, x, h => by
    rw [List.zipIdx_cons, List.map_cons]
    unfold posOf
    rw [List.findIdx_cons]
    by_cases e : a = x
    · rw [dGet_pos (p := (a, (n : Int))) e]
      have : (a == x) = true := by simpa using e
      rw [this]
      show some (n : Int) = some ((n : Int) + ((0 : Nat) : Int))
      simp
    · rw [dGet_neg (p := (a, (n : Int))) e]
      have : (a == x) = false := by simpa using e
      rw [this]
      have hm : x ∈ o := by
        rcases List.mem_cons.mp h with z | z
        · exact (e z.symm).elim
        · exact z
      rw [pairs_get hm]
      show some (((n + 1 : Nat) : Int) + posOf o x) = some ((n : Int) + ((o.findIdx (· == x) + 1 : Nat) : Int))
      unfold posOf
      exact congrArg some (by omega)
theorem pairs_keys (o : List Int) : (pairsOf o).map (·.1) = o := by
  unfold pairsOf
  rw [List.map_map]
  show (o.zipIdx.map fun p => p.1) = o
  exact List.zipIdx_map_fst 0 o
theorem merge_get {o : List Int} (nd : o.Nodup) {x : Int} (h : x ∈ o) : dGet (mergeD (pairsOf o)) x = some (posOf o x) := by
  unfold mergeD
  rw [merge_new (by rw [List.nil_append, pairs_keys]; exact nd), List.nil_append]
  unfold pairsOf
  rw [pairs_get h]
  simp
def turnTie (o : List Int) (t : Tie) : Tie := ⟨if posOf o t.b < posOf o t.a then posOf o t.b else posOf o t.a, if posOf o t.b > posOf o t.a then posOf o t.b else posOf o t.a, t.c⟩
def turnedT (t : Tr) (o : List Int) : Tr := (o.filterMap fun p => t.1[p.toNat]?, sortT (t.2.map (turnTie o)))
theorem worths_at {t : Tr} {o : List Int} (h : o.Perm (rangeL 0 (t.1.length : Int))) (hl : t.1.length < 16777216) (f : Int → Unit → M (Option Int × Unit)) (hf : ∀ y, f y () = (opt (L2.atI t.1 y) >>= fun z => .ok (some z, ()))) : compS f o () = .ok (o.filterMap fun p => t.1[p.toNat]?, ()) := by
  have hol := h.length_eq
  rw [rangeL_len0] at hol
  refine compS_pure _ (by omega) fun y hy => ?_
  have hy := rangeL_mem.mp (h.mem_iff.mp hy)
  obtain ⟨x, a1, a2⟩ := atI_some (xs := t.1) hy.1 hy.2
  rw [hf, opt_b a1, a2]
theorem turned_ok (t : Tr) (ht : TreeOk t) (hn : t.1.length ≤ 100000) (o : List Int) (h : o.Perm (rangeL 0 (t.1.length : Int))) : m_turned_tree t o = .ok (turnedT t o) := by
  have hlen := ht.len
  have hol := h.length_eq
  rw [rangeL_len0] at hol
  have nd : o.Nodup := h.nodup_iff.mpr (rangeL_nodup _ _)
  have hin : ∀ x, 0 ≤ x → x < (t.1.length : Int) → x ∈ o := fun x a b => h.mem_iff.mpr (rangeL_mem.mpr ⟨a, b⟩)
  unfold m_turned_tree
  rw [chk_b (show okR (t.1.length : Int) from ⟨by omega, by omega⟩)]
  rw [if_neg (fun z => z (order_sorted h))]
  rw [bind_ok (compS_pure (fun y => some (y.2, y.1)) (by rw [enumL_len]; omega) fun y _ => rfl)]
  rw [List.filterMap_eq_map']
  have e1 : (enumL o).map (fun y => (y.2, y.1)) = pairsOf o := by unfold enumL pairsOf; rw [List.map_map]; rfl
  rw [e1]
  rw [bind_ok (compS_pure (fun y => some (turnTie o y)) (by omega) fun y hy => by
    obtain ⟨h0, h1, h2⟩ := ht.tie y hy
    show (opt (dGet (mergeD (pairsOf o)) y.a) >>= _) = _
    have ga := merge_get nd (hin y.a h0 (by omega))
    have gb := merge_get nd (hin y.b (by omega) h2)
    rw [opt_b ga, opt_b gb, opt_b ga, opt_b gb]
    rfl)]
  rw [List.filterMap_eq_map']
  rw [bind_ok (worths_at h (by omega) _ fun y => rfl)]
  rfl

/-! ### the turned tree -/
section
variable {t : Tr} {o : List Int}
theorem pos_at (ho : o.Perm (rangeL 0 (t.1.length : Int))) {x : Int} (h : x ∈ o) : o[(posOf o x).toNat]? = some x ∧ 0 ≤ posOf o x ∧ posOf o x < (t.1.length : Int) := by
  have hl := ho.length_eq
  rw [rangeL_len0] at hl
  have hlt : o.findIdx (· == x) < o.length := List.findIdx_lt_length_of_exists ⟨x, h, by simp⟩
  have he := List.findIdx_getElem (w := hlt)
  unfold posOf
  rw [Int.toNat_natCast, List.getElem?_eq_getElem hlt, eq_of_beq he]
  exact ⟨rfl, by omega, by omega⟩
theorem pos_inj (ho : o.Perm (rangeL 0 (t.1.length : Int))) {x y : Int} (hx : x ∈ o) (hy : y ∈ o) (e : posOf o x = posOf o y) : x = y := by
  have h1 := (pos_at ho hx).1
  have h2 := (pos_at ho hy).1
  rw [e, h2] at h1
  exact (Option.some.inj h1).symm
theorem pos_of (ho : o.Perm (rangeL 0 (t.1.length : Int))) {i : Nat} {x : Int} (h : o[i]? = some x) : posOf o x = (i : Int) := by
  have ond : o.Nodup := ho.nodup_iff.mpr (rangeL_nodup _ _)
  have h1 := pos_at ho (List.mem_of_getElem? h)
  have := nd_ix ond h1.1 h
  omega
theorem in_o (ho : o.Perm (rangeL 0 (t.1.length : Int))) {x : Int} (h0 : 0 ≤ x) (h1 : x < (t.1.length : Int)) : x ∈ o := ho.mem_iff.mpr (rangeL_mem.mpr ⟨h0, h1⟩)
theorem turned_worth (ho : o.Perm (rangeL 0 (t.1.length : Int))) {x : Int} (h : x ∈ o) : L2.atI (turnedT t o).1 (posOf o x) = L2.atI t.1 x := by
  obtain ⟨p1, p2, p3⟩ := pos_at ho h
  have hx := rangeL_mem.mp (ho.mem_iff.mp h)
  obtain ⟨v, a1, a2⟩ := atI_some (xs := t.1) (j := x) hx.1 hx.2
  have e : (turnedT t o).1 = o.map fun p => (t.1[p.toNat]?).getD 0 := by
    show o.filterMap (fun p => t.1[p.toNat]?) = _
    rw [← List.filterMap_eq_map']
    refine fm_congr fun p hp => ?_
    have hp := rangeL_mem.mp (ho.mem_iff.mp hp)
    rw [List.getElem?_eq_getElem (show p.toNat < t.1.length by omega)]
    rfl
  have hl := ho.length_eq
  rw [rangeL_len0] at hl
  obtain ⟨v', b1, b2⟩ := atI_some (xs := (turnedT t o).1) (j := posOf o x) p2 (by rw [e, List.length_map]; omega)
  rw [b1, a1]
  rw [e, List.getElem?_map, p1] at b2
  have b2 : (t.1[x.toNat]?).getD 0 = v' := Option.some.inj b2
  rw [a2] at b2
  rw [← b2]
  rfl
theorem tie_two (o : List Int) (z : Tie) : ((turnTie o z).a = posOf o z.a ∧ (turnTie o z).b = posOf o z.b ∨ (turnTie o z).a = posOf o z.b ∧ (turnTie o z).b = posOf o z.a) ∧ (turnTie o z).c = z.c := by
  refine ⟨?_, rfl⟩
  show ((if posOf o z.b < posOf o z.a then posOf o z.b else posOf o z.a) = posOf o z.a ∧ (if posOf o z.b > posOf o z.a then posOf o z.b else posOf o z.a) = posOf o z.b) ∨
    ((if posOf o z.b < posOf o z.a then posOf o z.b else posOf o z.a) = posOf o z.b ∧ (if posOf o z.b > posOf o z.a then posOf o z.b else posOf o z.a) = posOf o z.a)
  by_cases h1 : posOf o z.b < posOf o z.a
  · rw [if_pos h1, if_neg (by omega)]; exact .inr ⟨rfl, rfl⟩
  · rw [if_neg h1]
    by_cases h2 : posOf o z.b > posOf o z.a
    · rw [if_pos h2]; exact .inl ⟨rfl, rfl⟩
    · rw [if_neg h2]; exact .inl ⟨rfl, by omega⟩
theorem turned_step {a b l : Int} : Step (turnedT t o) a b l ↔ ∃ x y, a = posOf o x ∧ b = posOf o y ∧ Step t x y l := by
  constructor
  · rintro ⟨z', hz', hh, hc⟩
    obtain ⟨z, hz, e⟩ := List.mem_map.mp (sortT_mem.mp hz')
    subst e
    obtain ⟨h2, h3⟩ := tie_two o z
    have hs1 : Step t z.a z.b l := ⟨z, hz, .inl ⟨rfl, rfl⟩, h3.symm.trans hc⟩
    have hs2 : Step t z.b z.a l := ⟨z, hz, .inr ⟨rfl, rfl⟩, h3.symm.trans hc⟩
    rcases h2 with ⟨p1, p2⟩ | ⟨p1, p2⟩ <;> rcases hh with ⟨q1, q2⟩ | ⟨q1, q2⟩
    · exact ⟨z.a, z.b, by omega, by omega, hs1⟩
    · exact ⟨z.b, z.a, by omega, by omega, hs2⟩
    · exact ⟨z.b, z.a, by omega, by omega, hs2⟩
    · exact ⟨z.a, z.b, by omega, by omega, hs1⟩
  · rintro ⟨x, y, rfl, rfl, z, hz, hh, hc⟩
    obtain ⟨h2, h3⟩ := tie_two o z
    refine ⟨turnTie o z, sortT_mem.mpr (List.mem_map.mpr ⟨z, hz, rfl⟩), ?_, h3.trans hc⟩
    rcases hh with ⟨q1, q2⟩ | ⟨q1, q2⟩
    · rw [q1, q2] at h2
      exact h2
    · rw [q1, q2] at h2
      exact h2.symm
theorem grown_turned (ho : o.Perm (rangeL 0 (t.1.length : Int))) {ps : List Int} {ts : List Tie} (g : Grown ps ts) : (∀ p ∈ ps, p ∈ o) → Grown (ps.map (posOf o)) (ts.map (turnTie o)) := by
  induction g with
  | one p => intro _; exact Grown.one _
  | @more ps ts q p c g hq hp ih =>
    intro hin
    have hin' : ∀ x ∈ ps, x ∈ o := fun x hx => hin x (List.mem_append_left _ hx)
    have hpo : p ∈ o := hin p (by simp)
    have hne : posOf o p ≠ posOf o q := fun e => hp ((pos_inj ho hpo (hin' q hq) e) ▸ hq)
    rw [List.map_append, List.map_append]
    have e : (([tieOf p q c] : List Tie).map (turnTie o)) = [tieOf (posOf o p) (posOf o q) c] := by
      have hpq : p ≠ q := fun e => hp (e ▸ hq)
      show [turnTie o (tieOf p q c)] = _
      congr 1
      unfold tieOf
      by_cases h1 : p ≤ q
      · rw [if_pos h1]
        show (⟨if posOf o q < posOf o p then posOf o q else posOf o p, if posOf o q > posOf o p then posOf o q else posOf o p, c⟩ : Tie) = _
        by_cases h2 : posOf o p ≤ posOf o q
        · rw [if_pos h2, if_neg (by omega), if_pos (by omega)]
        · rw [if_neg h2, if_pos (by omega), if_neg (by omega)]
      · rw [if_neg h1]
        show (⟨if posOf o p < posOf o q then posOf o p else posOf o q, if posOf o p > posOf o q then posOf o p else posOf o q, c⟩ : Tie) = _
        by_cases h2 : posOf o p ≤ posOf o q
        · rw [if_pos h2, if_pos (by omega), if_neg (by omega)]
        · rw [if_neg h2, if_neg (by omega), if_pos (by omega)]
    rw [e]
    refine Grown.more _ _ c (ih hin') (List.mem_map.mpr ⟨q, hq, rfl⟩) fun hm => ?_
    obtain ⟨x, hx, e2⟩ := List.mem_map.mp hm
    exact hp ((pos_inj ho (hin' x hx) hpo e2) ▸ hx)
theorem turned_len (ho : o.Perm (rangeL 0 (t.1.length : Int))) : (turnedT t o).1.length = t.1.length := (at_perm t.1 ho).length_eq
theorem map_pos (ho : o.Perm (rangeL 0 (t.1.length : Int))) : o.map (posOf o) = rangeL 0 (t.1.length : Int) := by
  have hl := ho.length_eq
  rw [rangeL_len0] at hl
  refine List.ext_getElem? fun i => ?_
  rw [List.getElem?_map]
  by_cases h : i < o.length
  · have hx := List.getElem?_eq_getElem h
    rw [hx]
    show some (posOf o o[i]) = _
    rw [pos_of ho hx]
    unfold rangeL
    rw [List.getElem?_map, List.getElem?_range (by omega)]
    show some (i : Int) = some (0 + (i : Int))
    rw [Int.zero_add]
  · rw [List.getElem?_eq_none (by omega), List.getElem?_eq_none (by rw [rangeL_len0]; omega)]
    rfl
theorem turned_tree (ht : TreeOk t) (ho : o.Perm (rangeL 0 (t.1.length : Int))) : TreeOk (turnedT t o) := by
  obtain ⟨ps, ts, g, hp, e⟩ := ht.ex
  refine ⟨ps.map (posOf o), ts.map (turnTie o), grown_turned ho g fun p h => ho.mem_iff.mpr (hp.mem_iff.mp h), ?_, ?_⟩
  · rw [turned_len ho]
    have := (hp.trans ho.symm).map (posOf o)
    rw [map_pos ho] at this
    exact this
  · show sortT (t.2.map (turnTie o)) = _
    rw [e]
    exact sortT_eq ((sortT_perm ts).map _)
theorem turned_near (ht : TreeOk t) (ho : o.Perm (rangeL 0 (t.1.length : Int))) {y : Int} (hy : y ∈ o) : (nearOf (turnedT t o).2 (posOf o y)).Perm ((nearOf t.2 y).map (posOf o)) := by
  have ht' := turned_tree ht ho
  have inn : ∀ c ∈ nearOf t.2 y, c ∈ o := fun c hc => by
    obtain ⟨l, hs⟩ := (near_step ht).mp hc
    have := step_rg ht hs
    exact in_o ho this.2.1.1 this.2.1.2
  refine (List.perm_ext_iff_of_nodup (nr_nd ht' _) ?_).mpr fun c => ?_
  · refine List.pairwise_map.mpr (List.Pairwise.imp_of_mem ?_ (nr_nd ht y))
    intro a b ha hb hne e
    exact hne (pos_inj ho (inn a ha) (inn b hb) e)
  · rw [near_step ht', List.mem_map]
    constructor
    · rintro ⟨l, hs⟩
      obtain ⟨x, z, e1, e2, hs⟩ := turned_step.mp hs
      have rg := step_rg ht hs
      have e3 := pos_inj ho hy (in_o ho rg.1.1 rg.1.2) e1
      subst e3
      exact ⟨z, (near_step ht).mpr ⟨l, hs⟩, e2.symm⟩
    · rintro ⟨z, hz, rfl⟩
      obtain ⟨l, hs⟩ := (near_step ht).mp hz
      exact ⟨l, turned_step.mpr ⟨y, z, rfl, rfl, hs⟩⟩
end

/-! ### what way_between tells is the way -/
theorem path_way {t : Tr} {qs : List Int} {l : Int} (h : Path t qs l) : ∃ x ps y, qs = x :: ps ∧ Way t x ps y l ∧ L2.atI qs (-1) = some y := by
  induction h with
  | one x => exact ⟨x, [], x, rfl, Way.one x, atI_last [] x⟩
  | @snoc ps x y l c _ hs ih =>
    obtain ⟨x0, ps0, y0, e1, h1, h2⟩ := ih
    rw [atI_last ps x] at h2
    cases h2
    refine ⟨x0, ps0 ++ [y], y, by rw [e1]; rfl, way_snoc h1 hs, atI_last _ y⟩
section
variable {t : Tr} (ht : TreeOk t) (hn : t.1.length ≤ 40)
include ht hn
theorem between (a b : Int) (a0 : 0 ≤ a) (a1 : a < (t.1.length : Int)) (b0 : 0 ≤ b) (b1 : b < (t.1.length : Int)) : ∃ ps l, m_way_between t a b = .ok (a :: ps, l) ∧ Way t a ps b l ∧ (a :: ps).Nodup ∧ (a :: ps).length ≤ 40 := by
  obtain ⟨qs, l, h1, h2, h3, h4, h5, h6⟩ := way_ok t ht (by omega) a b a0 a1 b0 b1
  obtain ⟨x, ps, y, e1, w, e2⟩ := path_way h2
  rw [h6] at e2
  cases e2
  subst e1
  have e3 : x = a := Option.some.inj h5
  subst e3
  exact ⟨ps, l, h1, w, h3, by omega⟩
theorem between_is {a b l : Int} {ps : List Int} (a0 : 0 ≤ a) (a1 : a < (t.1.length : Int)) (h : Way t a ps b l) (nd : (a :: ps).Nodup) : m_way_between t a b = .ok (a :: ps, l) := by
  have hb := way_rg ht h a0 a1
  obtain ⟨qs, m, h1, h2, h3, _⟩ := between ht hn a b a0 a1 hb.1 hb.2
  obtain ⟨e1, e2⟩ := way_uniq ht h2 h h3 nd
  rw [h1, e1, e2]
theorem ways_ok (a b c : Int) (a0 : 0 ≤ a) (a1 : a < (t.1.length : Int)) (b0 : 0 ≤ b) (b1 : b < (t.1.length : Int)) (c0 : 0 ≤ c) (c1 : c < (t.1.length : Int)) : m_law_ways_right t a b c = .ok true := by
  have hlen := ht.len
  obtain ⟨ps, l, w1, w2, w3, w4⟩ := between ht hn a b a0 a1 b0 b1
  obtain ⟨rs, r1, r2⟩ := way_rev w2
  have wb := between_is ht hn b0 b1 r1 (by rw [r2]; exact (List.reverse_perm _).nodup_iff.mpr w3)
  obtain ⟨qs, f, q1, q2, q3, q4⟩ := between ht hn b c b0 b1 c0 c1
  obtain ⟨vs, g, v1, v2, v3, v4⟩ := between ht hn a c a0 a1 c0 c1
  have near : (loopM (fun (y140 : Int) (st151 : Unit) =>
      m_way_between t a y140 >>= fun r157 =>
      if r157.1 ≠ ([a, y140]) then (
      .ok (.rt false))
      else (
      m_tied_to t y140 >>= fun r184 =>
      if a ∉ r184 then (
      .ok (.rt false))
      else (
      (.ok (.nx ()) : M (Fl Unit Bool))))) (nearOf t.2 a) ()) = .ok (.nx ()) := loopM_all fun y hy => by
    obtain ⟨k, hs⟩ := (near_step ht).mp hy
    have rg := step_rg ht hs
    have wy := Way.cons hs (Way.one y)
    rw [bind_ok (between_is ht hn a0 a1 wy (by simp [rg.2.2]))]
    rw [if_neg (fun z => z rfl)]
    rw [bind_ok (tied_to_ok t ht (by omega) y rg.2.1.1 rg.2.1.2)]
    rw [if_neg (fun z => z ((near_step ht).mpr ⟨k, stp_sym hs⟩))]
  have fin : ∀ k : Fl Unit Bool → M Bool, k (.nx ()) = .ok true → (m_tied_to t a >>= fun r => loopM (fun (y140 : Int) (st151 : Unit) =>
      m_way_between t a y140 >>= fun r157 =>
      if r157.1 ≠ ([a, y140]) then (
      .ok (.rt false))
      else (
      m_tied_to t y140 >>= fun r184 =>
      if a ∉ r184 then (
      .ok (.rt false))
      else (
      (.ok (.nx ()) : M (Fl Unit Bool))))) r () >>= k) = .ok true := fun k hk => by
    rw [bind_ok (tied_to_ok t ht (by omega) a a0 a1)]
    exact (bind_ok near k).trans hk
  have self : (m_way_between t a a >>= fun r219 => (.ok (decide ((r219.1, r219.2) = ([a], (0 : Int)))) : M Bool)) = .ok true := by
    rw [bind_ok (between_is ht hn a0 a1 (Way.one a) (by simp))]
    exact congrArg Except.ok (decide_eq_true rfl)
  unfold m_law_ways_right
  rw [bind_ok w1, bind_ok wb, if_neg (fun z => z (by rw [r2])), bind_ok q1, bind_ok v1]
  by_cases hb : b ∈ a :: vs
  · show (if b ∈ a :: vs then _ else _) = _
    rw [if_pos hb]
    obtain ⟨us, ts, e, f2, s1, s2, s3, s4⟩ := way_split v2 hb
    rw [s3, ← List.cons_append] at v3
    have n := List.nodup_append.mp v3
    obtain ⟨i1, i2⟩ := way_uniq ht s1 w2 n.1 w3
    obtain ⟨j1, j2⟩ := way_uniq ht s2 q2 (List.nodup_cons.mpr ⟨fun hr => n.2.2 b (way_mem s1) b hr rfl, n.2.1⟩) q3
    have hcut : cutL (b :: qs) (some (1 : Int)) none = qs := by
      have := cut_drop (b :: qs) 1 (by decide)
      rw [this]
      rfl
    show (chk ((a :: ps).length + (cutL (b :: qs) (some (1 : Int)) none).length < 16777216) >>= _) = _
    rw [hcut]
    have q5 : (b :: qs).length = qs.length + 1 := rfl
    rw [chk_b (by omega)]
    rw [if_neg (fun z => z (by rw [s3, i1, j1]; rfl))]
    show (if g ≠ l + f then _ else _) = _
    rw [if_neg (fun z => z (by rw [s4, i2, j2]))]
    show (if b ∉ a :: vs then _ else _) = _
    rw [if_neg (fun z => z hb)]
    exact fin _ self
  · show (if b ∈ a :: vs then _ else _) = _
    rw [if_neg hb]
    show (if b ∉ a :: vs then _ else _) = _
    rw [if_pos hb]
    -- the way over b is longer
    obtain ⟨us, e, s1, s2, s3⟩ := way_short (way_app w2 q2)
    obtain ⟨i1, _⟩ := way_uniq ht s1 v2 s2 v3
    subst i1
    have hbm : b ∈ a :: (ps ++ qs) := by
      have := way_mem w2
      rw [← List.cons_append]
      exact List.mem_append_left _ this
    have hle := nd_sub_len (m := (a :: (ps ++ qs)).erase b) s2 fun x hx => (List.mem_erase_of_ne (fun e => hb (by rw [← e]; exact hx))).mpr (s3 x hx)
    rw [List.length_erase_of_mem hbm] at hle
    have l1 : (a :: us).length = us.length + 1 := rfl
    have l2 : (a :: (ps ++ qs)).length = ps.length + qs.length + 1 := by rw [List.length_cons, List.length_append]
    have l3 : (a :: ps).length = ps.length + 1 := rfl
    have l4 : (b :: qs).length = qs.length + 1 := rfl
    show (if ((((a :: ps).length : Int) + ((b :: qs).length : Int)) - 1) ≤ ((a :: us).length : Int) then _ else _) = _
    rw [if_neg (by omega)]
    exact fin _ self
end
/-! ### turned trees -/
section
variable {t : Tr} {o : List Int} (ho : o.Perm (rangeL 0 (t.1.length : Int)))
include ho
def atO (o : List Int) (k : Int) : Int := (o[k.toNat]?).getD 0
theorem atO_at {k : Int} (k0 : 0 ≤ k) (k1 : k < (t.1.length : Int)) : L2.atI o k = some (atO o k) ∧ atO o k ∈ o ∧ posOf o (atO o k) = k := by
  have hl := ho.length_eq
  rw [rangeL_len0] at hl
  obtain ⟨x, a1, a2⟩ := atI_some (xs := o) (j := k) k0 (by omega)
  have e : atO o k = x := by unfold atO; rw [a2]; rfl
  rw [e]
  exact ⟨a1, List.mem_of_getElem? a2, by rw [pos_of ho a2]; omega⟩
theorem atO_pos {x : Int} (h : x ∈ o) : atO o (posOf o x) = x := by
  obtain ⟨p1, p2, p3⟩ := pos_at ho h
  unfold atO
  rw [p1]
  rfl
theorem way_turned (ht : TreeOk t) {a b l : Int} {ps : List Int} (h : Way (turnedT t o) a ps b l) (a0 : 0 ≤ a) (a1 : a < (t.1.length : Int)) : Way t (atO o a) (ps.map (atO o)) (atO o b) l := by
  induction h with
  | one x => exact Way.one _
  | @cons x y z l d ps hs _ ih =>
    obtain ⟨u, v, e1, e2, hs'⟩ := turned_step.mp hs
    have rg := step_rg ht hs'
    have hu := in_o ho rg.1.1 rg.1.2
    have hv := in_o ho rg.2.1.1 rg.2.1.2
    have p2 := pos_at ho hv
    have k1 : atO o x = u := by rw [e1]; exact atO_pos ho hu
    have k2 : atO o y = v := by rw [e2]; exact atO_pos ho hv
    have i := ih (by rw [e2]; exact p2.2.1) (by rw [e2]; exact p2.2.2)
    rw [List.map_cons]
    refine Way.cons ?_ i
    rw [k1, k2]
    exact hs'
omit ho in
theorem way_all {t : Tr} (ht : TreeOk t) {a b l : Int} {ps : List Int} (h : Way t a ps b l) (a0 : 0 ≤ a) (a1 : a < (t.1.length : Int)) : ∀ p ∈ a :: ps, 0 ≤ p ∧ p < (t.1.length : Int) := by
  induction h with
  | one x => intro p hp; rw [List.mem_singleton.mp hp]; exact ⟨a0, a1⟩
  | @cons x y z l d ps hs _ ih =>
    intro p hp
    have rg := step_rg ht hs
    rcases List.mem_cons.mp hp with e | hp
    · rw [e]; exact ⟨a0, a1⟩
    · exact ih rg.2.1.1 rg.2.1.2 p hp
theorem atO_inj {x y : Int} (x0 : 0 ≤ x) (x1 : x < (t.1.length : Int)) (y0 : 0 ≤ y) (y1 : y < (t.1.length : Int)) (e : atO o x = atO o y) : x = y := by
  have h1 := (atO_at ho x0 x1).2.2
  have h2 := (atO_at ho y0 y1).2.2
  rw [← h1, ← h2, e]
end
theorem map_nd {f : Int → Int} : ∀ {l : List Int}, l.Nodup → (∀ x ∈ l, ∀ y ∈ l, f x = f y → x = y) → (l.map f).Nodup
  | [], _, _ => List.nodup_nil
  | x :: l, nd, h => by
    have n := List.nodup_cons.mp nd
    rw [List.map_cons]
    refine List.nodup_cons.mpr ⟨fun hm => ?_, map_nd n.2 fun a ha b hb => h a (List.mem_cons_of_mem _ ha) b (List.mem_cons_of_mem _ hb)⟩
    obtain ⟨y, hy, e⟩ := List.mem_map.mp hm
    exact n.1 (h y (List.mem_cons_of_mem _ hy) x List.mem_cons_self e ▸ hy)
/-- the order that turns back -/
def backO (o : List Int) : List Int := (rangeL 0 (o.length : Int)).map (posOf o)
section
variable {t : Tr} {o : List Int} (ho : o.Perm (rangeL 0 (t.1.length : Int)))
include ho
theorem back_perm : (backO o).Perm (rangeL 0 (t.1.length : Int)) := by
  have hl := ho.length_eq
  rw [rangeL_len0] at hl
  unfold backO
  rw [hl]
  have h1 := (ho.map (posOf o)).symm
  rw [map_pos ho] at h1
  exact h1
theorem back_at {k : Int} (k0 : 0 ≤ k) (k1 : k < (t.1.length : Int)) : (backO o)[k.toNat]? = some (posOf o k) := by
  have hl := ho.length_eq
  rw [rangeL_len0] at hl
  unfold backO rangeL
  rw [List.map_map, List.getElem?_map, List.getElem?_range (by omega)]
  show some (posOf o (0 + ((k.toNat : Nat) : Int))) = _
  rw [show (0 : Int) + ((k.toNat : Nat) : Int) = k by omega]
theorem back_pos {x : Int} (h : x ∈ o) : posOf (backO o) (posOf o x) = x := by
  have hb := back_perm ho
  have hx := rangeL_mem.mp (ho.mem_iff.mp h)
  have h1 := back_at ho hx.1 hx.2
  have := pos_of (t := t) hb h1
  rw [this]
  omega
theorem back_tie (ht : TreeOk t) {z : Tie} (hz : z ∈ t.2) : turnTie (backO o) (turnTie o z) = z := by
  have h := ht.tie z hz
  have ha := in_o ho h.1 (by omega)
  have hb := in_o ho (show 0 ≤ z.b by omega) h.2.2
  have pa := back_pos ho ha
  have pb := back_pos ho hb
  obtain ⟨h2, h3⟩ := tie_two o z
  obtain ⟨a, b, c⟩ := z
  have pa : posOf (backO o) (posOf o a) = a := pa
  have pb : posOf (backO o) (posOf o b) = b := pb
  have hab : a < b := h.2.1
  unfold turnTie
  rcases h2 with ⟨e1, e2⟩ | ⟨e1, e2⟩
  · have e1 : (turnTie o ⟨a, b, c⟩).a = posOf o a := e1
    have e2 : (turnTie o ⟨a, b, c⟩).b = posOf o b := e2
    unfold turnTie at e1 e2
    show (⟨if posOf (backO o) _ < posOf (backO o) _ then _ else _, if posOf (backO o) _ > posOf (backO o) _ then _ else _, c⟩ : Tie) = _
    rw [e1, e2, pa, pb, if_neg (by omega), if_pos hab]
  · have e1 : (turnTie o ⟨a, b, c⟩).a = posOf o b := e1
    have e2 : (turnTie o ⟨a, b, c⟩).b = posOf o a := e2
    unfold turnTie at e1 e2
    show (⟨if posOf (backO o) _ < posOf (backO o) _ then _ else _, if posOf (backO o) _ > posOf (backO o) _ then _ else _, c⟩ : Tie) = _
    rw [e1, e2, pa, pb, if_pos hab, if_neg (by omega)]
theorem turned_back (ht : TreeOk t) : turnedT (turnedT t o) (backO o) = t := by
  have tl := turned_len ho
  have hl := ho.length_eq
  rw [rangeL_len0] at hl
  refine Prod.ext ?_ ?_
  · show (backO o).filterMap (fun p => (turnedT t o).1[p.toNat]?) = t.1
    unfold backO
    rw [List.filterMap_map, hl]
    have e : (rangeL 0 (t.1.length : Int)).filterMap ((fun p : Int => (turnedT t o).1[p.toNat]?) ∘ posOf o) = (rangeL 0 (t.1.length : Int)).filterMap (fun k => t.1[k.toNat]?) := by
      refine fm_congr fun k hk => ?_
      have hk := rangeL_mem.mp hk
      have hko := in_o ho hk.1 hk.2
      have h1 := turned_worth ho hko
      obtain ⟨p1, p2, p3⟩ := pos_at ho hko
      obtain ⟨v, a1, a2⟩ := atI_some (xs := t.1) (j := k) hk.1 hk.2
      obtain ⟨v', b1, b2⟩ := atI_some (xs := (turnedT t o).1) (j := posOf o k) p2 (by omega)
      show (turnedT t o).1[(posOf o k).toNat]? = t.1[k.toNat]?
      rw [a2, b2]
      rw [a1, b1] at h1
      exact h1
    rw [e]
    unfold rangeL
    rw [List.filterMap_map, show ((t.1.length : Int) - 0).toNat = t.1.length by omega]
    refine (fm_congr fun i _ => ?_).trans (filterMap_range t.1)
    show t.1[(0 + (i : Int)).toNat]? = t.1[i]?
    rw [show (0 + (i : Int)).toNat = i by omega]
  · show sortT ((turnedT t o).2.map (turnTie (backO o))) = t.2
    have e : sortT ((turnedT t o).2.map (turnTie (backO o))) = sortT t.2 := by
      refine sortT_eq (((sortT_perm _).map _).trans ?_)
      rw [List.map_map]
      refine List.Perm.of_eq ?_
      have : t.2.map (turnTie (backO o) ∘ turnTie o) = t.2.map id := List.map_congr_left fun z hz => back_tie ho ht hz
      rw [this, List.map_id]
    rw [e, ht.sorted]
end
theorem turned_id {t : Tr} (ht : TreeOk t) : turnedT t (rangeL 0 (t.1.length : Int)) = t := by
  have ho : (rangeL 0 (t.1.length : Int)).Perm (rangeL 0 (t.1.length : Int)) := List.Perm.refl _
  have ps : ∀ x : Int, 0 ≤ x → x < (t.1.length : Int) → posOf (rangeL 0 (t.1.length : Int)) x = x := fun x x0 x1 => by
    have h : (rangeL 0 (t.1.length : Int))[x.toNat]? = some x := by
      unfold rangeL
      rw [List.getElem?_map, List.getElem?_range (by omega)]
      show some (0 + ((x.toNat : Nat) : Int)) = _
      rw [show (0 : Int) + ((x.toNat : Nat) : Int) = x by omega]
    rw [pos_of (t := t) ho h]
    omega
  refine Prod.ext ?_ ?_
  · show (rangeL 0 (t.1.length : Int)).filterMap (fun p => t.1[p.toNat]?) = t.1
    unfold rangeL
    rw [List.filterMap_map, show ((t.1.length : Int) - 0).toNat = t.1.length by omega]
    refine (fm_congr fun i _ => ?_).trans (filterMap_range t.1)
    show t.1[(0 + (i : Int)).toNat]? = t.1[i]?
    rw [show (0 + (i : Int)).toNat = i by omega]
  · show sortT (t.2.map (turnTie (rangeL 0 (t.1.length : Int)))) = t.2
    have : t.2.map (turnTie (rangeL 0 (t.1.length : Int))) = t.2.map id := List.map_congr_left fun z hz => by
      have h := ht.tie z hz
      have pa := ps z.a h.1 (by omega)
      have pb := ps z.b (by omega) h.2.2
      unfold turnTie
      rw [pa, pb, if_neg (by omega), if_pos h.2.1]
      rfl
    rw [this, List.map_id, ht.sorted]
theorem turned_right {t : Tr} {o : List Int} (ht : TreeOk t) (hn : t.1.length ≤ 40) (ho : o.Perm (rangeL 0 (t.1.length : Int))) {a b : Int} (a0 : 0 ≤ a) (a1 : a < (t.1.length : Int)) (b0 : 0 ≤ b) (b1 : b < (t.1.length : Int)) : m_law_turned_right t o a b = .ok true := by
  have hol := ho.length_eq
  rw [rangeL_len0] at hol
  have ht' := turned_tree ht ho
  have tl := turned_len ho
  obtain ⟨ps, l, w1, w2, w3, w4⟩ := between ht' (by omega) a b a0 (by omega) b0 (by omega)
  have wt := way_turned ho ht w2 a0 a1
  obtain ⟨x1, x2, x3⟩ := atO_at ho a0 a1
  obtain ⟨y1, y2, y3⟩ := atO_at ho b0 b1
  have hx := rangeL_mem.mp (ho.mem_iff.mp x2)
  have hy := rangeL_mem.mp (ho.mem_iff.mp y2)
  have wall := way_all ht' w2 a0 (by omega)
  have nd : (atO o a :: ps.map (atO o)).Nodup := by
    rw [← List.map_cons]
    refine map_nd w3 fun x hx y hy e => ?_
    have h1 := wall x hx
    have h2 := wall y hy
    exact atO_inj ho h1.1 (by omega) h2.1 (by omega) e
  have wO := between_is ht hn hx.1 hx.2 wt nd
  unfold m_law_turned_right
  rw [bind_ok (turned_ok t ht (by omega) o ho)]
  show (m_way_between (turnedT t o) a b >>= _) = _
  rw [bind_ok w1]
  rw [bind_ok (compS_pure (fun p => some (atO o p)) (by show (a :: ps).length < 16777216; omega) fun p hp => by
    have h1 := wall p hp
    rw [opt_b (atO_at ho h1.1 (by omega)).1])]
  rw [List.filterMap_eq_map', opt_b x1, opt_b y1, bind_ok wO]
  rw [if_neg (fun z => z rfl)]
  rw [chk_b (show okR (o.length : Int) from ⟨by omega, by omega⟩)]
  rw [bind_ok (compS_pure (fun k => some (posOf o k)) (by rw [rangeL_len0]; omega) fun k hk => by
    have hk := rangeL_mem.mp hk
    have hm := in_o ho hk.1 (by omega)
    show (ixI o k >>= _) = _
    rw [bind_ok (show ixI o k = .ok (posOf o k) by unfold ixI; rw [if_pos hm]; rfl)])]
  rw [List.filterMap_eq_map']
  show (m_turned_tree (turnedT t o) (backO o) >>= _) = _
  rw [bind_ok (turned_ok (turnedT t o) ht' (by omega) (backO o) (by rw [tl]; exact back_perm ho)), turned_back ho ht]
  rw [if_neg (fun z => z rfl)]
  show (m_tied_to (turnedT t o) a >>= _) = _
  rw [bind_ok (tied_to_ok (turnedT t o) ht' (by omega) a a0 (by omega))]
  have tn := turned_near ht ho x2
  rw [x3] at tn
  have nr : ∀ q ∈ nearOf (turnedT t o).2 a, 0 ≤ q ∧ q < (t.1.length : Int) := fun q hq => by
    obtain ⟨c, hs⟩ := (near_step ht').mp hq
    have := (step_rg ht' hs).2.1
    omega
  have nl : (nearOf (turnedT t o).2 a).length ≤ (turnedT t o).2.length := nearOf_len _ _
  have tl2 := ht'.len
  rw [bind_ok (compS_pure (fun p => some (atO o p)) (by omega) fun p hp => by
    have h1 := nr p hp
    rw [opt_b (atO_at ho h1.1 h1.2).1])]
  rw [List.filterMap_eq_map', opt_b x1, bind_ok (tied_to_ok t ht (by omega) (atO o a) hx.1 hx.2)]
  have es : sortT ((nearOf (turnedT t o).2 a).map (atO o)) = nearOf t.2 (atO o a) := by
    have e1 : sortT ((nearOf (turnedT t o).2 a).map (atO o)) = sortT (nearOf t.2 (atO o a)) := by
      refine sortT_eq ((tn.map _).trans ?_)
      rw [List.map_map]
      refine List.Perm.of_eq ?_
      have : (nearOf t.2 (atO o a)).map (atO o ∘ posOf o) = (nearOf t.2 (atO o a)).map id := List.map_congr_left fun q hq => by
        obtain ⟨c, hs⟩ := (near_step ht).mp hq
        have rg := (step_rg ht hs).2.1
        exact atO_pos ho (in_o ho rg.1 rg.2)
      rw [this, List.map_id]
    rw [e1]
    unfold nearOf
    exact sortT_idem _
  show (if sortT ((nearOf (turnedT t o).2 a).map (atO o)) = nearOf t.2 (atO o a) then _ else _) = _
  rw [if_pos es, chk_b (show okR (o.length : Int) from ⟨by omega, by omega⟩), hol]
  rw [bind_ok (turned_ok t ht (by omega) (rangeL 0 (t.1.length : Int)) (List.Perm.refl _)), turned_id ht]
  exact congrArg Except.ok (decide_eq_true rfl)
/-! ### twice the ties -/
theorem deg_sum : ∀ (ts : List Tie) (n : Nat), (∀ z ∈ ts, 0 ≤ z.a ∧ z.a < z.b ∧ z.b < (n : Int)) → sumF (rangeL 0 (n : Int)) (fun p => (ts.filterMap (other p)).length) = 2 * ts.length
  | [], n, _ => sumF_zero _
  | z :: ts, n, h => by
    have hz := h z List.mem_cons_self
    have ih := deg_sum ts n fun y hy => h y (List.mem_cons_of_mem _ hy)
    have e : sumF (rangeL 0 (n : Int)) (fun p => ((z :: ts).filterMap (other p)).length) = sumF (rangeL 0 (n : Int)) (fun p => (ind p z.a + ind p z.b) + (ts.filterMap (other p)).length) := sumF_congr fun p _ => by
      rw [List.filterMap_cons]
      by_cases c1 : z.a = p
      · rw [show other p z = some z.b from if_pos c1]
        unfold ind
        rw [if_pos c1.symm, if_neg (by omega)]
        show (List.filterMap _ ts).length + 1 = _
        omega
      · by_cases c2 : z.b = p
        · rw [show other p z = some z.a by unfold other; rw [if_neg c1, if_pos c2]]
          unfold ind
          rw [if_neg (fun e => c1 e.symm), if_pos c2.symm]
          show (List.filterMap _ ts).length + 1 = _
          omega
        · rw [show other p z = none by unfold other; rw [if_neg c1, if_neg c2]]
          unfold ind
          rw [if_neg (fun e => c1 e.symm), if_neg (fun e => c2 e.symm)]
          show (List.filterMap _ ts).length = _
          omega
    rw [e, sumF_add, sumF_add, ih, sumF_ind (rangeL_nodup _ _) (rangeL_mem.mpr ⟨hz.1, by omega⟩), sumF_ind (rangeL_nodup _ _) (rangeL_mem.mpr ⟨by omega, hz.2.2⟩), List.length_cons]
    omega
theorem sum_cast (f : Int → Nat) : ∀ l : List Int, (l.map fun p => ((f p : Nat) : Int)).sum = ((sumF l f : Nat) : Int)
  | [] => rfl
  | x :: l => by
    rw [List.map_cons, List.sum_cons, sum_cast f l]
    have : sumF (x :: l) f = f x + sumF l f := rfl
    rw [this]
    omega
theorem law_true (ns : List Int) (h : ns.length ≤ 63) : m_law ns = .ok true := by
  unfold m_law
  have hc := cut10 ns 4
  have hc : (cutL ns none (some (4 : Int))).length ≤ ns.length := hc
  rw [chk_b (show ([((10 : Int) ^ Int.toNat (18 : Int))]).length + (cutL ns none (some (4 : Int))).length < 16777216 by simp only [List.length_singleton]; omega)]
  rw [bind_ok (loopM_all fun c _ => ?_)]
  obtain ⟨d, e1⟩ := deck_ok c
  rw [bind_ok e1]
  obtain ⟨k, d1, e2, k0, k4⟩ := take_small d 4 (by decide) (by decide)
  rw [bind_ok e2]
  obtain ⟨m, e3, hm⟩ := at4 k k0 k4
  show (opt (atI [(10 : Int), 10, 10, 40] k) >>= _) = _
  rw [opt_b e3]
  obtain ⟨far, d2, e4, f0, f1⟩ := far_ok d1
  show (m_law_far [d1] >>= _) = _
  rw [bind_ok e4]
  obtain ⟨t, d3, e5, ht, hl, _, _⟩ := tree_ok d2 m far (by omega) (by omega) f0 f1
  show (m_law_tree [d2] m far >>= _) = _
  rw [bind_ok e5]
  have hlen := ht.len
  have hpos := ht.pos
  have hn : t.1.length ≤ 40 := by omega
  obtain ⟨o, d4, e6, ho⟩ := order_ok d3 (t.1.length : Int) (by omega) (by omega)
  show (m_law_order [d3] (t.1.length : Int) >>= _) = _
  rw [bind_ok e6, chk_b (show okR 3 by decide)]
  obtain ⟨a, d5, ea, a0, a1⟩ := take_small d4 (t.1.length : Int) (by omega) (by omega)
  obtain ⟨b, d6, eb, b0, b1⟩ := take_small d5 (t.1.length : Int) (by omega) (by omega)
  obtain ⟨c2, d7, ec, c0, c1⟩ := take_small d6 (t.1.length : Int) (by omega) (by omega)
  have e7 : compS (fun (y161 : Int) (st179 : (List Int)) => m_law_take st179 (t.1.length : Int) >>= fun r185 => (.ok (some r185.1, r185.2) : M _)) (rangeL 0 (3 : Int)) [d4] = .ok ([a, b, c2], [d7]) := by
    unfold compS
    rw [chk_b (show (rangeL 0 (3 : Int)).length < 16777216 by decide), show rangeL 0 (3 : Int) = [0, 1, 2] by decide]
    show (nox (m_law_take [d4] (t.1.length : Int) >>= _) >>= _) = _
    rw [ea]
    show (nox (m_law_take [d5] (t.1.length : Int) >>= _) >>= _) = _
    rw [eb]
    show (nox (m_law_take [d6] (t.1.length : Int) >>= _) >>= _) = _
    rw [ec]
    rfl
  refine (bind_ok e7 _).trans ?_
  show (m_tree_of t.1 t.2.reverse >>= _) = _
  rw [bind_ok (tree_of_ok t ht (by omega) t.2.reverse (List.reverse_perm _))]
  rw [if_neg (fun z => z rfl), chk_b (show okR (t.1.length : Int) from ⟨by omega, by omega⟩)]
  rw [bind_ok (compS_pure (fun p => some (((t.2.filterMap (other p)).length : Nat) : Int)) (by rw [rangeL_len0]; show t.1.length < 16777216; omega) fun p hp => by
    have hp : 0 ≤ p ∧ p < (t.1.length : Int) := rangeL_mem.mp hp
    rw [bind_ok (tied_to_ok t ht (by omega) p hp.1 hp.2)]
    unfold nearOf
    rw [sortT_len])]
  show (chk (CMulW (2 : Int) (t.1.length : Int)) >>= _) = _
  rw [chk_b (cmulW (by decide +kernel) (Nat.lt_of_lt_of_le (m := 100) (by omega) (by decide +kernel)))]
  rw [List.filterMap_eq_map']
  have hs := sum_cast (fun p => (t.2.filterMap (other p)).length) (rangeL 0 (t.1.length : Int))
  rw [deg_sum t.2 t.1.length ht.tie] at hs
  show (if List.sum (List.map (fun p => (((t.2.filterMap (other p)).length : Nat) : Int)) (rangeL 0 (t.1.length : Int))) ≠ (2 : Int) * (t.1.length : Int) - 2 then _ else _) = _
  rw [hs, if_neg (by omega)]
  show (m_law_ways_right t a b c2 >>= _) = _
  rw [bind_ok (ways_ok ht hn a b c2 a0 a1 b0 b1 c0 c1), if_pos rfl]
  show (m_law_turned_right t o a b >>= _) = _
  rw [bind_ok (turned_right ht hn ho a0 a1 b0 b1), if_pos rfl]

theorem all_mk {P : Program} {w : World} {K : PySem.W.Frag} {h : Heap} {mg : Str → Option Value} {fa f1 f2 f3 f4 f5 f6 f7 f8 f9 f10 f11 f12 f13 f14 f15 f16 f17 f18 C_NoOrder C_NoPlace C_NoTree : Addr} {od1 an1 od2 an2 od3 an3 od4 an4 od5 an5 od6 an6 od7 an7 od8 an8 od9 an9 od10 an10 od11 an11 od12 an12 od13 an13 od14 an14 od15 an15 od16 an16 od17 an17 od18 an18 : Option Addr} {sl1 sl2 sl3 sl4 sl5 sl6 sl7 sl8 sl9 sl10 sl11 sl12 sl13 sl14 sl15 sl16 sl17 sl18 : Array (Option Value)} {oc1 kV1 dc1 pm1 cd1 ct1 oc2 kV2 dc2 pm2 cd2 ct2 oc3 kV3 dc3 pm3 cd3 ct3 oc4 kV4 dc4 pm4 cd4 ct4 oc5 kV5 dc5 pm5 cd5 ct5 oc6 kV6 dc6 pm6 cd6 ct6 oc7 kV7 dc7 pm7 cd7 ct7 oc8 kV8 dc8 pm8 cd8 ct8 oc9 kV9 dc9 pm9 cd9 ct9 oc10 kV10 dc10 pm10 cd10 ct10 oc11 kV11 dc11 pm11 cd11 ct11 oc12 kV12 dc12 pm12 cd12 ct12 oc13 kV13 dc13 pm13 cd13 ct13 oc14 kV14 dc14 pm14 cd14 ct14 oc15 kV15 dc15 pm15 cd15 ct15 oc16 kV16 dc16 pm16 cd16 ct16 oc17 kV17 dc17 pm17 cd17 ct17 oc18 kV18 dc18 pm18 cd18 ct18 : Value} (X : K.In h) (G : h.Ns mainGlobals mg) (hfa : mg "law" = some (.ref fa))
    (a1 : PySem.W.nsIn K mainGlobals "tied_places" = some (some (.ref f1))) (l1 : K.lookup f1 = some ⟨oc1, od1, .func (PySem.W.fnOf "tied_places" "tied_places" (defArgs s_tied_places) (defBody s_tied_places) (defScope s_tied_places) .none kV1 dc1 pm1 an1 cd1 ct1), sl1⟩) (c1 : PySem.W.codeIn K cd1 "tied_places" = true) (k1 : PySem.W.keepIn K (.ref f1) = true)
    (a2 : PySem.W.nsIn K mainGlobals "come_to" = some (some (.ref f2))) (l2 : K.lookup f2 = some ⟨oc2, od2, .func (PySem.W.fnOf "come_to" "come_to" (defArgs s_come_to) (defBody s_come_to) (defScope s_come_to) .none kV2 dc2 pm2 an2 cd2 ct2), sl2⟩) (c2 : PySem.W.codeIn K cd2 "come_to" = true) (k2 : PySem.W.keepIn K (.ref f2) = true)
    (a3 : PySem.W.nsIn K mainGlobals "tree_of" = some (some (.ref f3))) (l3 : K.lookup f3 = some ⟨oc3, od3, .func (PySem.W.fnOf "tree_of" "tree_of" (defArgs s_tree_of) (defBody s_tree_of) (defScope s_tree_of) .none kV3 dc3 pm3 an3 cd3 ct3), sl3⟩) (c3 : PySem.W.codeIn K cd3 "tree_of" = true) (k3 : PySem.W.keepIn K (.ref f3) = true)
    (a4 : PySem.W.nsIn K mainGlobals "need_place" = some (some (.ref f4))) (l4 : K.lookup f4 = some ⟨oc4, od4, .func (PySem.W.fnOf "need_place" "need_place" (defArgs s_need_place) (defBody s_need_place) (defScope s_need_place) .none kV4 dc4 pm4 an4 cd4 ct4), sl4⟩) (c4 : PySem.W.codeIn K cd4 "need_place" = true) (k4 : PySem.W.keepIn K (.ref f4) = true)
    (a5 : PySem.W.nsIn K mainGlobals "lengths_of" = some (some (.ref f5))) (l5 : K.lookup f5 = some ⟨oc5, od5, .func (PySem.W.fnOf "lengths_of" "lengths_of" (defArgs s_lengths_of) (defBody s_lengths_of) (defScope s_lengths_of) .none kV5 dc5 pm5 an5 cd5 ct5), sl5⟩) (c5 : PySem.W.codeIn K cd5 "lengths_of" = true) (k5 : PySem.W.keepIn K (.ref f5) = true)
    (a6 : PySem.W.nsIn K mainGlobals "tied_to" = some (some (.ref f6))) (l6 : K.lookup f6 = some ⟨oc6, od6, .func (PySem.W.fnOf "tied_to" "tied_to" (defArgs s_tied_to) (defBody s_tied_to) (defScope s_tied_to) .none kV6 dc6 pm6 an6 cd6 ct6), sl6⟩) (c6 : PySem.W.codeIn K cd6 "tied_to" = true) (k6 : PySem.W.keepIn K (.ref f6) = true)
    (a7 : PySem.W.nsIn K mainGlobals "way_between" = some (some (.ref f7))) (l7 : K.lookup f7 = some ⟨oc7, od7, .func (PySem.W.fnOf "way_between" "way_between" (defArgs s_way_between) (defBody s_way_between) (defScope s_way_between) .none kV7 dc7 pm7 an7 cd7 ct7), sl7⟩) (c7 : PySem.W.codeIn K cd7 "way_between" = true) (k7 : PySem.W.keepIn K (.ref f7) = true)
    (a8 : PySem.W.nsIn K mainGlobals "turned_tree" = some (some (.ref f8))) (l8 : K.lookup f8 = some ⟨oc8, od8, .func (PySem.W.fnOf "turned_tree" "turned_tree" (defArgs s_turned_tree) (defBody s_turned_tree) (defScope s_turned_tree) .none kV8 dc8 pm8 an8 cd8 ct8), sl8⟩) (c8 : PySem.W.codeIn K cd8 "turned_tree" = true) (k8 : PySem.W.keepIn K (.ref f8) = true)
    (a9 : PySem.W.nsIn K mainGlobals "_law_stir" = some (some (.ref f9))) (l9 : K.lookup f9 = some ⟨oc9, od9, .func (PySem.W.fnOf "_law_stir" "_law_stir" (defArgs s_law_stir) (defBody s_law_stir) (defScope s_law_stir) .none kV9 dc9 pm9 an9 cd9 ct9), sl9⟩) (c9 : PySem.W.codeIn K cd9 "_law_stir" = true) (k9 : PySem.W.keepIn K (.ref f9) = true)
    (a10 : PySem.W.nsIn K mainGlobals "_law_deck" = some (some (.ref f10))) (l10 : K.lookup f10 = some ⟨oc10, od10, .func (PySem.W.fnOf "_law_deck" "_law_deck" (defArgs s_law_deck) (defBody s_law_deck) (defScope s_law_deck) .none kV10 dc10 pm10 an10 cd10 ct10), sl10⟩) (c10 : PySem.W.codeIn K cd10 "_law_deck" = true) (k10 : PySem.W.keepIn K (.ref f10) = true)
    (a11 : PySem.W.nsIn K mainGlobals "_law_take" = some (some (.ref f11))) (l11 : K.lookup f11 = some ⟨oc11, od11, .func (PySem.W.fnOf "_law_take" "_law_take" (defArgs s_law_take) (defBody s_law_take) (defScope s_law_take) .none kV11 dc11 pm11 an11 cd11 ct11), sl11⟩) (c11 : PySem.W.codeIn K cd11 "_law_take" = true) (k11 : PySem.W.keepIn K (.ref f11) = true)
    (a12 : PySem.W.nsIn K mainGlobals "_law_far" = some (some (.ref f12))) (l12 : K.lookup f12 = some ⟨oc12, od12, .func (PySem.W.fnOf "_law_far" "_law_far" (defArgs s_law_far) (defBody s_law_far) (defScope s_law_far) .none kV12 dc12 pm12 an12 cd12 ct12), sl12⟩) (c12 : PySem.W.codeIn K cd12 "_law_far" = true) (k12 : PySem.W.keepIn K (.ref f12) = true)
    (a13 : PySem.W.nsIn K mainGlobals "_law_number" = some (some (.ref f13))) (l13 : K.lookup f13 = some ⟨oc13, od13, .func (PySem.W.fnOf "_law_number" "_law_number" (defArgs s_law_number) (defBody s_law_number) (defScope s_law_number) .none kV13 dc13 pm13 an13 cd13 ct13), sl13⟩) (c13 : PySem.W.codeIn K cd13 "_law_number" = true) (k13 : PySem.W.keepIn K (.ref f13) = true)
    (a14 : PySem.W.nsIn K mainGlobals "_law_order" = some (some (.ref f14))) (l14 : K.lookup f14 = some ⟨oc14, od14, .func (PySem.W.fnOf "_law_order" "_law_order" (defArgs s_law_order) (defBody s_law_order) (defScope s_law_order) .none kV14 dc14 pm14 an14 cd14 ct14), sl14⟩) (c14 : PySem.W.codeIn K cd14 "_law_order" = true) (k14 : PySem.W.keepIn K (.ref f14) = true)
    (a15 : PySem.W.nsIn K mainGlobals "_law_tree" = some (some (.ref f15))) (l15 : K.lookup f15 = some ⟨oc15, od15, .func (PySem.W.fnOf "_law_tree" "_law_tree" (defArgs s_law_tree) (defBody s_law_tree) (defScope s_law_tree) .none kV15 dc15 pm15 an15 cd15 ct15), sl15⟩) (c15 : PySem.W.codeIn K cd15 "_law_tree" = true) (k15 : PySem.W.keepIn K (.ref f15) = true)
    (a16 : PySem.W.nsIn K mainGlobals "_law_ways_right" = some (some (.ref f16))) (l16 : K.lookup f16 = some ⟨oc16, od16, .func (PySem.W.fnOf "_law_ways_right" "_law_ways_right" (defArgs s_law_ways_right) (defBody s_law_ways_right) (defScope s_law_ways_right) .none kV16 dc16 pm16 an16 cd16 ct16), sl16⟩) (c16 : PySem.W.codeIn K cd16 "_law_ways_right" = true) (k16 : PySem.W.keepIn K (.ref f16) = true)
    (a17 : PySem.W.nsIn K mainGlobals "_law_turned_right" = some (some (.ref f17))) (l17 : K.lookup f17 = some ⟨oc17, od17, .func (PySem.W.fnOf "_law_turned_right" "_law_turned_right" (defArgs s_law_turned_right) (defBody s_law_turned_right) (defScope s_law_turned_right) .none kV17 dc17 pm17 an17 cd17 ct17), sl17⟩) (c17 : PySem.W.codeIn K cd17 "_law_turned_right" = true) (k17 : PySem.W.keepIn K (.ref f17) = true)
    (a18 : PySem.W.nsIn K mainGlobals "law" = some (some (.ref f18))) (l18 : K.lookup f18 = some ⟨oc18, od18, .func (PySem.W.fnOf "law" "law" (defArgs s_law) (defBody s_law) (defScope s_law) .none kV18 dc18 pm18 an18 cd18 ct18), sl18⟩) (c18 : PySem.W.codeIn K cd18 "law" = true) (k18 : PySem.W.keepIn K (.ref f18) = true)
    (ga_NoOrder : PySem.W.nsIn K mainGlobals "NoOrder" = some (some (.ref C_NoOrder))) (gx_NoOrder : PySem.W.excIn K C_NoOrder [.type "ValueError", .type "Exception", .type "BaseException", .type "object"] "ValueError.__new__" = true) (gk_NoOrder : PySem.W.keepIn K (.ref C_NoOrder) = true) (gb_NoOrder : PySem.W.subIn K (.ref C_NoOrder) (.type "BaseException") = some true) (gt_NoOrder : PySem.W.typeIn K (.ref C_NoOrder) = some (.type "type"))
    (ga_NoPlace : PySem.W.nsIn K mainGlobals "NoPlace" = some (some (.ref C_NoPlace))) (gx_NoPlace : PySem.W.excIn K C_NoPlace [.type "ValueError", .type "Exception", .type "BaseException", .type "object"] "ValueError.__new__" = true) (gk_NoPlace : PySem.W.keepIn K (.ref C_NoPlace) = true) (gb_NoPlace : PySem.W.subIn K (.ref C_NoPlace) (.type "BaseException") = some true) (gt_NoPlace : PySem.W.typeIn K (.ref C_NoPlace) = some (.type "type"))
    (ga_NoTree : PySem.W.nsIn K mainGlobals "NoTree" = some (some (.ref C_NoTree))) (gx_NoTree : PySem.W.excIn K C_NoTree [.type "ValueError", .type "Exception", .type "BaseException", .type "object"] "ValueError.__new__" = true) (gk_NoTree : PySem.W.keepIn K (.ref C_NoTree) = true) (gb_NoTree : PySem.W.subIn K (.ref C_NoTree) (.type "BaseException") = some true) (gt_NoTree : PySem.W.typeIn K (.ref C_NoTree) = some (.type "type"))
    (z_dict : PySem.W.nsIn K mainGlobals "dict" = some none)
    (z_enumerate : PySem.W.nsIn K mainGlobals "enumerate" = some none)
    (z_len : PySem.W.nsIn K mainGlobals "len" = some none)
    (z_list : PySem.W.nsIn K mainGlobals "list" = some none)
    (z_max : PySem.W.nsIn K mainGlobals "max" = some none)
    (z_min : PySem.W.nsIn K mainGlobals "min" = some none)
    (z_range : PySem.W.nsIn K mainGlobals "range" = some none)
    (z_sorted : PySem.W.nsIn K mainGlobals "sorted" = some none)
    (z_sum : PySem.W.nsIn K mainGlobals "sum" = some none) :
    ∃ fd : FuncData, (∀ (s : Shared) (v : Value), BindsTo s fd ⟨[v], []⟩ [("script", v)]) ∧ ∀ base : Heap, K.In base → base.Ns mainGlobals mg → FnOk P w K mg base (L2.CX P w) 4 fa fd ["script"] (sp_law K) := by
  have e := hfa.symm.trans (PySem.W.mg_of X G a18)
  cases e
  have nb : Nb mg := ⟨PySem.W.mg_none_of X G z_dict, PySem.W.mg_none_of X G z_enumerate, PySem.W.mg_none_of X G z_len, PySem.W.mg_none_of X G z_list, PySem.W.mg_none_of X G z_max, PySem.W.mg_none_of X G z_min, PySem.W.mg_none_of X G z_range, PySem.W.mg_none_of X G z_sorted, PySem.W.mg_none_of X G z_sum⟩
  have E_NoOrder : ∃ C, Xc K mg "NoOrder" C := ⟨C_NoOrder, PySem.W.mg_of X G ga_NoOrder, gx_NoOrder, gk_NoOrder, gb_NoOrder, gt_NoOrder⟩
  have E_NoPlace : ∃ C, Xc K mg "NoPlace" C := ⟨C_NoPlace, PySem.W.mg_of X G ga_NoPlace, gx_NoPlace, gk_NoPlace, gb_NoPlace, gt_NoPlace⟩
  have E_NoTree : ∃ C, Xc K mg "NoTree" C := ⟨C_NoTree, PySem.W.mg_of X G ga_NoTree, gx_NoTree, gk_NoTree, gb_NoTree, gt_NoTree⟩
  have F1 := fun_mk (x := "tied_places") (st := s_tied_places) l1 c1 k1
  have D_tied_places : Df K mg "tied_places" "tied_places" s_tied_places ["many", "ties"] := ⟨_, _, F1, PySem.W.mg_of X G a1, F1.binds (ps := ["many", "ties"]) fun _ _ _ _ _ _ us hl => match us, hl with | [_, _], _ => rfl⟩
  have F2 := fun_mk (x := "come_to") (st := s_come_to) l2 c2 k2
  have D_come_to : Df K mg "come_to" "come_to" s_come_to ["near", "place"] := ⟨_, _, F2, PySem.W.mg_of X G a2, F2.binds (ps := ["near", "place"]) fun _ _ _ _ _ _ us hl => match us, hl with | [_, _], _ => rfl⟩
  have F3 := fun_mk (x := "tree_of") (st := s_tree_of) l3 c3 k3
  have D_tree_of : Df K mg "tree_of" "tree_of" s_tree_of ["worths", "ties"] := ⟨_, _, F3, PySem.W.mg_of X G a3, F3.binds (ps := ["worths", "ties"]) fun _ _ _ _ _ _ us hl => match us, hl with | [_, _], _ => rfl⟩
  have F4 := fun_mk (x := "need_place") (st := s_need_place) l4 c4 k4
  have D_need_place : Df K mg "need_place" "need_place" s_need_place ["tree", "place"] := ⟨_, _, F4, PySem.W.mg_of X G a4, F4.binds (ps := ["tree", "place"]) fun _ _ _ _ _ _ us hl => match us, hl with | [_, _], _ => rfl⟩
  have F5 := fun_mk (x := "lengths_of") (st := s_lengths_of) l5 c5 k5
  have D_lengths_of : Df K mg "lengths_of" "lengths_of" s_lengths_of ["tree"] := ⟨_, _, F5, PySem.W.mg_of X G a5, F5.binds (ps := ["tree"]) fun _ _ _ _ _ _ us hl => match us, hl with | [_], _ => rfl⟩
  have F6 := fun_mk (x := "tied_to") (st := s_tied_to) l6 c6 k6
  have D_tied_to : Df K mg "tied_to" "tied_to" s_tied_to ["tree", "place"] := ⟨_, _, F6, PySem.W.mg_of X G a6, F6.binds (ps := ["tree", "place"]) fun _ _ _ _ _ _ us hl => match us, hl with | [_, _], _ => rfl⟩
  have F7 := fun_mk (x := "way_between") (st := s_way_between) l7 c7 k7
  have D_way_between : Df K mg "way_between" "way_between" s_way_between ["tree", "one", "other"] := ⟨_, _, F7, PySem.W.mg_of X G a7, F7.binds (ps := ["tree", "one", "other"]) fun _ _ _ _ _ _ us hl => match us, hl with | [_, _, _], _ => rfl⟩
  have F8 := fun_mk (x := "turned_tree") (st := s_turned_tree) l8 c8 k8
  have D_turned_tree : Df K mg "turned_tree" "turned_tree" s_turned_tree ["tree", "order"] := ⟨_, _, F8, PySem.W.mg_of X G a8, F8.binds (ps := ["tree", "order"]) fun _ _ _ _ _ _ us hl => match us, hl with | [_, _], _ => rfl⟩
  have F9 := fun_mk (x := "_law_stir") (st := s_law_stir) l9 c9 k9
  have D_law_stir : Df K mg "_law_stir" "_law_stir" s_law_stir ["cell", "k"] := ⟨_, _, F9, PySem.W.mg_of X G a9, F9.binds (ps := ["cell", "k"]) fun _ _ _ _ _ _ us hl => match us, hl with | [_, _], _ => rfl⟩
  have F10 := fun_mk (x := "_law_deck") (st := s_law_deck) l10 c10 k10
  have D_law_deck : Df K mg "_law_deck" "_law_deck" s_law_deck ["cell"] := ⟨_, _, F10, PySem.W.mg_of X G a10, F10.binds (ps := ["cell"]) fun _ _ _ _ _ _ us hl => match us, hl with | [_], _ => rfl⟩
  have F11 := fun_mk (x := "_law_take") (st := s_law_take) l11 c11 k11
  have D_law_take : Df K mg "_law_take" "_law_take" s_law_take ["deck", "many"] := ⟨_, _, F11, PySem.W.mg_of X G a11, F11.binds (ps := ["deck", "many"]) fun _ _ _ _ _ _ us hl => match us, hl with | [_, _], _ => rfl⟩
  have F12 := fun_mk (x := "_law_far") (st := s_law_far) l12 c12 k12
  have D_law_far : Df K mg "_law_far" "_law_far" s_law_far ["deck"] := ⟨_, _, F12, PySem.W.mg_of X G a12, F12.binds (ps := ["deck"]) fun _ _ _ _ _ _ us hl => match us, hl with | [_], _ => rfl⟩
  have F13 := fun_mk (x := "_law_number") (st := s_law_number) l13 c13 k13
  have D_law_number : Df K mg "_law_number" "_law_number" s_law_number ["deck", "far"] := ⟨_, _, F13, PySem.W.mg_of X G a13, F13.binds (ps := ["deck", "far"]) fun _ _ _ _ _ _ us hl => match us, hl with | [_, _], _ => rfl⟩
  have F14 := fun_mk (x := "_law_order") (st := s_law_order) l14 c14 k14
  have D_law_order : Df K mg "_law_order" "_law_order" s_law_order ["deck", "many"] := ⟨_, _, F14, PySem.W.mg_of X G a14, F14.binds (ps := ["deck", "many"]) fun _ _ _ _ _ _ us hl => match us, hl with | [_, _], _ => rfl⟩
  have F15 := fun_mk (x := "_law_tree") (st := s_law_tree) l15 c15 k15
  have D_law_tree : Df K mg "_law_tree" "_law_tree" s_law_tree ["deck", "most", "far"] := ⟨_, _, F15, PySem.W.mg_of X G a15, F15.binds (ps := ["deck", "most", "far"]) fun _ _ _ _ _ _ us hl => match us, hl with | [_, _, _], _ => rfl⟩
  have F16 := fun_mk (x := "_law_ways_right") (st := s_law_ways_right) l16 c16 k16
  have D_law_ways_right : Df K mg "_law_ways_right" "_law_ways_right" s_law_ways_right ["tree", "one", "other", "last"] := ⟨_, _, F16, PySem.W.mg_of X G a16, F16.binds (ps := ["tree", "one", "other", "last"]) fun _ _ _ _ _ _ us hl => match us, hl with | [_, _, _, _], _ => rfl⟩
  have F17 := fun_mk (x := "_law_turned_right") (st := s_law_turned_right) l17 c17 k17
  have D_law_turned_right : Df K mg "_law_turned_right" "_law_turned_right" s_law_turned_right ["tree", "order", "one", "other"] := ⟨_, _, F17, PySem.W.mg_of X G a17, F17.binds (ps := ["tree", "order", "one", "other"]) fun _ _ _ _ _ _ us hl => match us, hl with | [_, _, _, _], _ => rfl⟩
  have F18 := fun_mk (x := "law") (st := s_law) l18 c18 k18
  refine ⟨PySem.W.fnOf "law" "law" (defArgs s_law) (defBody s_law) (defScope s_law) .none kV18 dc18 pm18 an18 cd18 ct18, fun s v => .of_eq rfl, fun base _ _ => ?_⟩
  have C_tied_places := ok_tied_places (P := P) (w := w) (base := base) nb D_tied_places
  have CO_tied_places := ok_tied_places_own (P := P) (w := w) (base := base) nb D_tied_places
  have C_come_to : Ca P w K mg base "come_to" 1 ["near", "place"] (sp_come_to mg) := ok_come_to nb  D_come_to
  have C_tree_of : Ca P w K mg base "tree_of" 2 ["worths", "ties"] (sp_tree_of mg) := ok_tree_of nb C_come_to C_tied_places E_NoTree  D_tree_of
  have C_need_place : Ca P w K mg base "need_place" 1 ["tree", "place"] (sp_need_place mg) := ok_need_place nb E_NoPlace  D_need_place
  have C_lengths_of : Ca P w K mg base "lengths_of" 1 ["tree"] (sp_lengths_of mg) := ok_lengths_of nb  D_lengths_of
  have C_tied_to := ok_tied_to nb C_need_place CO_tied_places D_tied_to
  have C_way_between : Ca P w K mg base "way_between" 2 ["tree", "one", "other"] (sp_way_between mg) := ok_way_between nb C_lengths_of C_need_place C_tied_places  D_way_between
  have C_turned_tree : Ca P w K mg base "turned_tree" 1 ["tree", "order"] (sp_turned_tree mg) := ok_turned_tree nb E_NoOrder  D_turned_tree
  have C_law_stir : Ca P w K mg base "_law_stir" 1 ["cell", "k"] (sp_law_stir mg) := ok_law_stir nb  D_law_stir
  have C_law_deck : Ca P w K mg base "_law_deck" 2 ["cell"] (sp_law_deck mg) := ok_law_deck nb C_law_stir  D_law_deck
  have C_law_take : Ca P w K mg base "_law_take" 1 ["deck", "many"] (sp_law_take mg) := ok_law_take nb  D_law_take
  have C_law_far : Ca P w K mg base "_law_far" 2 ["deck"] (sp_law_far mg) := ok_law_far nb C_law_take  D_law_far
  have C_law_number : Ca P w K mg base "_law_number" 2 ["deck", "far"] (sp_law_number mg) := ok_law_number nb C_law_take  D_law_number
  have C_law_order : Ca P w K mg base "_law_order" 2 ["deck", "many"] (sp_law_order mg) := ok_law_order nb C_law_take  D_law_order
  have C_law_tree : Ca P w K mg base "_law_tree" 3 ["deck", "most", "far"] (sp_law_tree mg) := ok_law_tree nb C_law_number C_law_order C_law_take  D_law_tree
  have C_law_ways_right : Ca P w K mg base "_law_ways_right" 3 ["tree", "one", "other", "last"] (sp_law_ways_right mg) := ok_law_ways_right nb C_tied_to C_way_between  D_law_ways_right
  have C_law_turned_right : Ca P w K mg base "_law_turned_right" 3 ["tree", "order", "one", "other"] (sp_law_turned_right mg) := ok_law_turned_right nb C_tied_to C_turned_tree C_way_between  D_law_turned_right
  exact ok_law nb C_law_deck C_law_far C_law_order C_law_take C_law_tree C_law_turned_right C_law_ways_right C_tied_to C_tree_of F18
theorem walk {l : PySem.W.OpenLaw} {q : Program} {loose : List Str} {XP : (Str → Option Value) → Heap → Prop} {YP : World → Heap → Prop} {d : DefRec} {K : Params → PySem.W.Frag} (hn : l.most = some 63) (hdf : d.params.defaults = [])
    (hY : ∀ (w : World) (h : Heap), YP w h → (K w.params).In h)
    (F : ∀ (w : World) (mg : Str → Option Value) (fa : Addr) (h : Heap), (K w.params).In h → h.Ns mainGlobals mg → mg d.name = some (.ref fa) →
      ∃ fd : FuncData, (∀ (s : Shared) (u : Value), BindsTo s fd ⟨[u], []⟩ [("script", u)]) ∧ ∀ base : Heap, (K w.params).In base → base.Ns mainGlobals mg → FnOk l.prog w (K w.params) mg base (L2.CX l.prog w) 4 fa fd ["script"] (sp_law (K w.params))) :
    PySem.W.WalkO q loose XP YP l.row.toRowW d [] (fun f vs => PySem.call f vs) :=
  L2.walk_of (n := 63) (k := 4) (x := "script") (CX := fun w => L2.CX l.prog w) (sp := fun w => sp_law (K w.params)) hn (by decide) hdf ⟨rfl, by decide, by decide⟩ hY F
    (fun _ H a ns hl _ hS => ⟨H, a, ns, rfl, ⟨Same.refl _, (fun _ h => nomatch h), (fun _ h => nomatch h), List.nodup_nil, (fun _ h => nomatch h)⟩, hS, by rw [law_true ns hl]; exact fun _ _ _ => rfl⟩)
    fun _ _ _ _ _ z => by
      obtain ⟨_, _, _, _, _, _, _, _, _, _, _, _, z⟩ := z
      exact z.elim
end G
open PySem PySem.W PyProof.Rows
set_option maxRecDepth 100000 in
set_option maxHeartbeats 0 in
theorem PySem.Challenge.cw_everyseat_k08_whole_trees_and_ways_holds : PySem.Challenge.rw_everyseat_k08_whole_trees_and_ways.Holds := by
  w_on; o_law; k_head; (case hw => w_witness2)
  k_fill
  refine G.walk (l := PySem.Challenge.rw_everyseat_k08_whole_trees_and_ways) rfl rfl (fun w h Y => PySem.W.kIn_of Y) ?F
  case F =>
    intro w mg fa h KX GG hmg
    refine' G.all_mk KX GG hmg ?a1 ?l1 ?c1 ?k1 ?a2 ?l2 ?c2 ?k2 ?a3 ?l3 ?c3 ?k3 ?a4 ?l4 ?c4 ?k4 ?a5 ?l5 ?c5 ?k5 ?a6 ?l6 ?c6 ?k6 ?a7 ?l7 ?c7 ?k7 ?a8 ?l8 ?c8 ?k8 ?a9 ?l9 ?c9 ?k9 ?a10 ?l10 ?c10 ?k10 ?a11 ?l11 ?c11 ?k11 ?a12 ?l12 ?c12 ?k12 ?a13 ?l13 ?c13 ?k13 ?a14 ?l14 ?c14 ?k14 ?a15 ?l15 ?c15 ?k15 ?a16 ?l16 ?c16 ?k16 ?a17 ?l17 ?c17 ?k17 ?a18 ?l18 ?c18 ?k18 ?ga_NoOrder ?gx_NoOrder ?gk_NoOrder ?gb_NoOrder ?gt_NoOrder ?ga_NoPlace ?gx_NoPlace ?gk_NoPlace ?gb_NoPlace ?gt_NoPlace ?ga_NoTree ?gx_NoTree ?gk_NoTree ?gb_NoTree ?gt_NoTree ?z_dict ?z_enumerate ?z_len ?z_list ?z_max ?z_min ?z_range ?z_sorted ?z_sum
    (case a1 => k_is)
    (case l1 => k_is)
    (case c1 => k_is)
    (case k1 => k_is)
    (case a2 => k_is)
    (case l2 => k_is)
    (case c2 => k_is)
    (case k2 => k_is)
    (case a3 => k_is)
    (case l3 => k_is)
    (case c3 => k_is)
    (case k3 => k_is)
    (case a4 => k_is)
    (case l4 => k_is)
    (case c4 => k_is)
    (case k4 => k_is)
    (case a5 => k_is)
    (case l5 => k_is)
    (case c5 => k_is)
    (case k5 => k_is)
    (case a6 => k_is)
    (case l6 => k_is)
    (case c6 => k_is)
    (case k6 => k_is)
    (case a7 => k_is)
    (case l7 => k_is)
    (case c7 => k_is)
    (case k7 => k_is)
    (case a8 => k_is)
    (case l8 => k_is)
    (case c8 => k_is)
    (case k8 => k_is)
    (case a9 => k_is)
    (case l9 => k_is)
    (case c9 => k_is)
    (case k9 => k_is)
    (case a10 => k_is)
    (case l10 => k_is)
    (case c10 => k_is)
    (case k10 => k_is)
    (case a11 => k_is)
    (case l11 => k_is)
    (case c11 => k_is)
    (case k11 => k_is)
    (case a12 => k_is)
    (case l12 => k_is)
    (case c12 => k_is)
    (case k12 => k_is)
    (case a13 => k_is)
    (case l13 => k_is)
    (case c13 => k_is)
    (case k13 => k_is)
    (case a14 => k_is)
    (case l14 => k_is)
    (case c14 => k_is)
    (case k14 => k_is)
    (case a15 => k_is)
    (case l15 => k_is)
    (case c15 => k_is)
    (case k15 => k_is)
    (case a16 => k_is)
    (case l16 => k_is)
    (case c16 => k_is)
    (case k16 => k_is)
    (case a17 => k_is)
    (case l17 => k_is)
    (case c17 => k_is)
    (case k17 => k_is)
    (case a18 => k_is)
    (case l18 => k_is)
    (case c18 => k_is)
    (case k18 => k_is)
    (case ga_NoOrder => k_is)
    (case gx_NoOrder => k_exc)
    (case gk_NoOrder => k_is)
    (case gb_NoOrder => k_is)
    (case gt_NoOrder => k_is)
    (case ga_NoPlace => k_is)
    (case gx_NoPlace => k_exc)
    (case gk_NoPlace => k_is)
    (case gb_NoPlace => k_is)
    (case gt_NoPlace => k_is)
    (case ga_NoTree => k_is)
    (case gx_NoTree => k_exc)
    (case gk_NoTree => k_is)
    (case gb_NoTree => k_is)
    (case gt_NoTree => k_is)
    (case z_dict => k_is)
    (case z_enumerate => k_is)
    (case z_len => k_is)
    (case z_list => k_is)
    (case z_max => k_is)
    (case z_min => k_is)
    (case z_range => k_is)
    (case z_sorted => k_is)
    (case z_sum => k_is)
#print axioms PySem.Challenge.cw_everyseat_k08_whole_trees_and_ways_holds
