import PyProof.Rows.All
import Wide.All
import OpenK.AllK
import Wide.FinOn
import HandS.ForMost
import HandS.ForExc
import HandS.Wide
import HandS.Flow
import HandS.Evl
import HandS.Conv
import HandS.IsInst
import KE.SortData
import KE.DatumMoreOrd
import KE.DatumIndex
import PySem.Challenge.RW_everyseat_k01_trees_made
set_option Elab.async false
set_option linter.all false
set_option maxRecDepth 100000
set_option maxHeartbeats 4000000
/-! My own layer over HandS: mirrors in an error monad, represented data, owned cells. -/
namespace PG
open PySem L2

/-! ### the mirrors' monad -/
inductive Er where
  | bad
  | exc (n : String)
  deriving DecidableEq
abbrev M := Except Er
def wp {a : Type} (m : M a) (Q : a → Prop) (E : String → Prop) : Prop :=
  match m with
  | .ok x => Q x
  | .error .bad => False
  | .error (.exc n) => E n
section
variable {a b : Type} {Q : a → Prop} {R : b → Prop} {E E' : String → Prop}
theorem wp_ok {x : a} : wp (Except.ok x : M a) Q E = Q x := rfl
theorem wp_pure {x : a} : wp (pure x : M a) Q E = Q x := rfl
theorem wp_bind {m : M b} {k : b → M a} : wp (m >>= k) Q E ↔ wp m (fun x => wp (k x) Q E) E := by
  cases m with
  | ok x => exact Iff.rfl
  | error e => cases e <;> exact Iff.rfl
theorem wp_call {m : M b} {k : b → M a} {E1 : String → Prop} (h : wp (m >>= k) Q E) (hr : ∀ r, m = .ok r → wp (k r) Q E → R r) (he : ∀ n, E n → E1 n) : wp m R E1 := by
  cases m with
  | ok x => exact hr x rfl h
  | error e =>
    cases e with
    | bad => exact h
    | exc n => exact he n h
/-- the last call of a def -/
theorem wp_tail {m : M a} {E1 : String → Prop} {R : a → Prop} (h : wp m Q E) (hr : ∀ r, m = .ok r → Q r → R r) (he : ∀ n, E n → E1 n) : wp m R E1 := by
  cases m with
  | ok x => exact hr x rfl h
  | error e =>
    cases e with
    | bad => exact h
    | exc n => exact he n h
def bad : M a := .error .bad
def raise (n : String) : M a := .error (.exc n)
theorem wp_bad {P : Prop} (h : wp (bad : M a) Q E) : P := h.elim
/-- a guard -/
def chk (c : Prop) [Decidable c] : M Unit := if c then .ok () else bad
theorem wp_chk {c : Prop} [Decidable c] {k : Unit → M a} (h : wp (chk c >>= k) Q E) : c ∧ wp (k ()) Q E := by
  unfold chk at h
  by_cases hc : c
  · rw [if_pos hc] at h
    exact ⟨hc, h⟩
  · rw [if_neg hc] at h
    exact h.elim
/-- something that is there -/
def opt (o : Option b) : M b := match o with
  | some x => .ok x
  | none => bad
theorem wp_opt {o : Option b} {k : b → M a} (h : wp (opt o >>= k) Q E) : ∃ x, o = some x ∧ wp (k x) Q E := by
  cases o with
  | none => exact h.elim
  | some x => exact ⟨x, rfl, h⟩
/-- no exception leaves -/
def nox (m : M a) : M a := match m with
  | .ok x => .ok x
  | .error _ => bad
theorem wp_nox {m : M b} {k : b → M a} (h : wp (nox m >>= k) Q E) : ∃ x, m = .ok x ∧ wp (k x) Q E := by
  cases m with
  | ok x => exact ⟨x, rfl, h⟩
  | error e => exact h.elim
theorem wp_of_ok {m : M b} {x : b} (e : m = .ok x) (h : R x) : wp m R E := by
  rw [e]
  exact h
theorem wp_ite {c : Prop} [Decidable c] {x y : M a} (h : wp (if c then x else y) Q E) : (c → wp x Q E) ∧ (¬ c → wp y Q E) := by
  by_cases hc : c
  · rw [if_pos hc] at h
    exact ⟨fun _ => h, fun n => (n hc).elim⟩
  · rw [if_neg hc] at h
    exact ⟨fun p => (hc p).elim, fun _ => h⟩
end

/-! ### loops -/
/-- a turn's end: on to the next, or the def's return -/
inductive Fl (s r : Type) where
  | nx (x : s)
  | rt (x : r)
section
variable {i s r a : Type}
def loopM (b : i → s → M (Fl s r)) : List i → s → M (Fl s r)
  | [], x => .ok (.nx x)
  | y :: ys, x => b y x >>= fun
    | .nx x' => loopM b ys x'
    | .rt z => .ok (.rt z)
/-- a loop without return -/
def loopN (b : i → s → M s) : List i → s → M s
  | [], x => .ok x
  | y :: ys, x => b y x >>= fun x' => loopN b ys x'
def whileM (c : s → M Bool) (b : s → M (Fl s r)) : Nat → s → M (Fl s r)
  | 0, _ => bad
  | n + 1, x => c x >>= fun t => if t = true then b x >>= fun
      | .nx x' => whileM c b n x'
      | .rt z => .ok (.rt z)
    else .ok (.nx x)
def whileN (c : s → M Bool) (b : s → M s) : Nat → s → M s
  | 0, _ => bad
  | n + 1, x => c x >>= fun t => if t = true then b x >>= fun x' => whileN c b n x' else .ok x
/-- a comprehension: f gives an element, or none where the test fails -/
def compN (b : i → s → M (Option a × s)) : List i → s → M (List a × s)
  | [], x => .ok ([], x)
  | y :: ys, x => b y x >>= fun p => compN b ys p.2 >>= fun q => .ok (match p.1 with
    | some z => z :: q.1
    | none => q.1, q.2)
/-- .. that changes nothing -/
def compM (b : i → M (Option a)) : List i → M (List a)
  | [] => .ok []
  | y :: ys => b y >>= fun p => compM b ys >>= fun q => .ok (match p with
    | some z => z :: q
    | none => q)
end

/-! ### what a value stands for -/
open PySem.W (T3 T4 Datum DatumOrd)
mutual
inductive Rep (H : Hp) : V → PyData → Prop
  | non : Rep H .non .none
  | bl (b : Bool) : Rep H (.bl b) (.bool b)
  | int (i : Int) : Rep H (.int i) (.int i)
  | str (x : Str) : Rep H (.str x) (.str x)
  | lst {a : Addr} {xs : List V} {ds : List PyData} : H a = some (.lst xs) → RepA H xs ds → Rep H (.ref a) (.list ds)
  | tup {a : Addr} {xs : List V} {ds : List PyData} : H a = some (.tup xs) → RepA H xs ds → Rep H (.ref a) (.tuple ds)
inductive RepA (H : Hp) : List V → List PyData → Prop
  | nil : RepA H [] []
  | cons {v : V} {vs : List V} {d : PyData} {ds : List PyData} : Rep H v d → RepA H vs ds → RepA H (v :: vs) (d :: ds)
end
mutual
theorem Rep.mono {H H' : Hp} (s : Same H H') : ∀ (d : PyData) (v : V), Rep H v d → Rep H' v d
  | .none, _, h => by cases h; exact .non
  | .bool _, _, h => by cases h; exact .bl _
  | .int _, _, h => by cases h; exact .int _
  | .str _, _, h => by cases h; exact .str _
  | .list ds, _, h => by
    cases h with
    | lst ha hs => exact .lst (s _ _ ha) (RepA.mono s ds _ hs)
  | .tuple ds, _, h => by
    cases h with
    | tup ha hs => exact .tup (s _ _ ha) (RepA.mono s ds _ hs)
  | .dict _, _, h => by cases h
theorem RepA.mono {H H' : Hp} (s : Same H H') : ∀ (ds : List PyData) (vs : List V), RepA H vs ds → RepA H' vs ds
  | [], _, h => by cases h; exact .nil
  | d :: ds, _, h => by
    cases h with
    | cons h1 h2 => exact .cons (Rep.mono s d _ h1) (RepA.mono s ds _ h2)
end
mutual
theorem Rep.dp {K : PySem.W.Frag} {H : Hp} : ∀ (d : PyData) (v : V), Rep H v d → Dp K H v d
  | .none, _, h => by cases h; exact .non
  | .bool _, _, h => by cases h; exact .bl _
  | .int _, _, h => by cases h; exact .int _
  | .str _, _, h => by cases h; exact .str _
  | .list ds, _, h => by
    cases h with
    | lst ha hs => exact .lst (SqL.of ha) (RepA.dp ds _ hs)
  | .tuple ds, _, h => by
    cases h with
    | tup ha hs => exact .tup (SqT.of ha) (RepA.dp ds _ hs)
  | .dict _, _, h => by cases h
theorem RepA.dp {K : PySem.W.Frag} {H : Hp} : ∀ (ds : List PyData) (vs : List V), RepA H vs ds → DpAll K H vs ds
  | [], _, h => by cases h; exact .nil
  | d :: ds, _, h => by
    cases h with
    | cons h1 h2 => exact .cons (Rep.dp d _ h1) (RepA.dp ds _ h2)
end

/-- a Lean type whose values are Python's data -/
class Py (a : Type) where
  toD : a → PyData
instance : Py Int := ⟨.int⟩
instance : Py Bool := ⟨.bool⟩
instance : Py Str := ⟨.str⟩
instance : Py Unit := ⟨fun _ => .none⟩
instance {a : Type} [Py a] : Py (List a) := ⟨fun xs => .list (xs.map Py.toD)⟩
instance {a b : Type} [Py a] [Py b] : Py (a × b) := ⟨fun p => .tuple [Py.toD p.1, Py.toD p.2]⟩
instance {a b c : Type} [Py a] [Py b] [Py c] : Py (T3 a b c) := ⟨fun p => .tuple [Py.toD p.a, Py.toD p.b, Py.toD p.c]⟩
instance {a b c d : Type} [Py a] [Py b] [Py c] [Py d] : Py (T4 a b c d) := ⟨fun p => .tuple [Py.toD p.a, Py.toD p.b, Py.toD p.c, Py.toD p.d]⟩
instance {a : Type} [Py a] : Py (Option a) := ⟨fun o => match o with
  | none => .none
  | some x => Py.toD x⟩
class IsD (a : Type) [Py a] [DecidableEq a] [Datum a] : Prop where
  eq : ∀ x : a, Py.toD x = Datum.toD x
instance : IsD Int := ⟨fun _ => rfl⟩
instance : IsD Bool := ⟨fun _ => rfl⟩
instance : IsD Str := ⟨fun _ => rfl⟩
instance : IsD Unit := ⟨fun _ => rfl⟩
section
variable {a b c d : Type} [Py a] [DecidableEq a] [Datum a] [IsD a] [Py b] [DecidableEq b] [Datum b] [IsD b] [Py c] [DecidableEq c] [Datum c] [IsD c] [Py d] [DecidableEq d] [Datum d] [IsD d]
theorem map_toD (xs : List a) : xs.map (Py.toD : a → PyData) = xs.map Datum.toD := List.map_congr_left fun x _ => IsD.eq x
instance : IsD (List a) := ⟨fun xs => congrArg PyData.list (map_toD xs)⟩
instance : IsD (a × b) := ⟨fun p => by show PyData.tuple [_, _] = PyData.tuple [_, _]; rw [IsD.eq, IsD.eq]⟩
instance : IsD (T3 a b c) := ⟨fun p => by show PyData.tuple [_, _, _] = PyData.tuple [_, _, _]; rw [IsD.eq, IsD.eq, IsD.eq]⟩
instance : IsD (T4 a b c d) := ⟨fun p => by show PyData.tuple [_, _, _, _] = PyData.tuple [_, _, _, _]; rw [IsD.eq, IsD.eq, IsD.eq, IsD.eq]⟩
instance [PySem.W.SomeDatum a] : IsD (Option a) := ⟨fun o => by
  cases o with
  | none => rfl
  | some x => exact IsD.eq x⟩
end

/-- v stands for x -/
def R {a : Type} [Py a] (H : Hp) (v : V) (x : a) : Prop := Rep H v (Py.toD x)
/-- item by item -/
def RL {a : Type} [Py a] (H : Hp) (vs : List V) (xs : List a) : Prop := RepA H vs (xs.map Py.toD)
section
variable {H H' : Hp} {v : V} {vs : List V} {p q : Addr}
theorem R.mono {a : Type} [Py a] {x : a} (h : R H v x) (s : Same H H') : R H' v x := Rep.mono s _ _ h
theorem RL.mono {a : Type} [Py a] {xs : List a} (h : RL H vs xs) (s : Same H H') : RL H' vs xs := RepA.mono s _ _ h
theorem R.int {i : Int} : R H (.int i) i := Rep.int i
theorem R.bl {b : Bool} : R H (.bl b) b := Rep.bl b
theorem R.str {x : Str} : R H (.str x) x := Rep.str x
theorem R.unit {u : Unit} : R H .non u := Rep.non
theorem R.non {a : Type} [Py a] : R H .non (none : Option a) := Rep.non
theorem R.jst {a : Type} [Py a] {x : a} (h : R H v x) : R H v (some x) := h
theorem R.int_ {i : Int} (h : R H v i) : v = .int i := by cases h; rfl
theorem R.bl_ {b : Bool} (h : R H v b) : v = .bl b := by cases h; rfl
theorem R.str_ {x : Str} (h : R H v x) : v = .str x := by cases h; rfl
theorem R.unit_ {u : Unit} (h : R H v u) : v = .non := by cases h; rfl
theorem R.non_ {a : Type} [Py a] (h : R H v (none : Option a)) : v = .non := by cases h; rfl
theorem R.jst_ {a : Type} [Py a] {x : a} (h : R H v (some x)) : R H v x := h
variable {a b c d : Type} [Py a] [Py b] [Py c] [Py d]
theorem R.lst {xs : List a} (ha : H p = some (.lst vs)) (h : RL H vs xs) : R H (.ref p) xs := Rep.lst ha h
theorem R.lst_ {xs : List a} (h : R H v xs) : ∃ p vs, v = .ref p ∧ H p = some (.lst vs) ∧ RL H vs xs := by
  have h' : Rep H v (.list (xs.map Py.toD)) := h
  cases h' with
  | lst ha hs => exact ⟨_, _, rfl, ha, hs⟩
theorem R.t2 {x : a × b} {v1 v2 : V} (ha : H p = some (.tup [v1, v2])) (h1 : R H v1 x.1) (h2 : R H v2 x.2) : R H (.ref p) x := Rep.tup ha (.cons h1 (.cons h2 .nil))
theorem R.t2_ {x : a × b} (h : R H v x) : ∃ p v1 v2, v = .ref p ∧ H p = some (.tup [v1, v2]) ∧ R H v1 x.1 ∧ R H v2 x.2 := by
  have h' : Rep H v (.tuple [_, _]) := h
  cases h' with
  | tup ha hs =>
    cases hs with
    | cons h1 hs =>
      cases hs with
      | cons h2 hs =>
        cases hs
        exact ⟨_, _, _, rfl, ha, h1, h2⟩
theorem R.t3 {x : T3 a b c} {v1 v2 v3 : V} (ha : H p = some (.tup [v1, v2, v3])) (h1 : R H v1 x.a) (h2 : R H v2 x.b) (h3 : R H v3 x.c) : R H (.ref p) x := Rep.tup ha (.cons h1 (.cons h2 (.cons h3 .nil)))
theorem R.t3_ {x : T3 a b c} (h : R H v x) : ∃ p v1 v2 v3, v = .ref p ∧ H p = some (.tup [v1, v2, v3]) ∧ R H v1 x.a ∧ R H v2 x.b ∧ R H v3 x.c := by
  have h' : Rep H v (.tuple [_, _, _]) := h
  cases h' with
  | tup ha hs =>
    cases hs with
    | cons h1 hs =>
      cases hs with
      | cons h2 hs =>
        cases hs with
        | cons h3 hs =>
          cases hs
          exact ⟨_, _, _, _, rfl, ha, h1, h2, h3⟩
theorem R.t4 {x : T4 a b c d} {v1 v2 v3 v4 : V} (ha : H p = some (.tup [v1, v2, v3, v4])) (h1 : R H v1 x.a) (h2 : R H v2 x.b) (h3 : R H v3 x.c) (h4 : R H v4 x.d) : R H (.ref p) x :=
  Rep.tup ha (.cons h1 (.cons h2 (.cons h3 (.cons h4 .nil))))
theorem R.t4_ {x : T4 a b c d} (h : R H v x) : ∃ p v1 v2 v3 v4, v = .ref p ∧ H p = some (.tup [v1, v2, v3, v4]) ∧ R H v1 x.a ∧ R H v2 x.b ∧ R H v3 x.c ∧ R H v4 x.d := by
  have h' : Rep H v (.tuple [_, _, _, _]) := h
  cases h' with
  | tup ha hs =>
    cases hs with
    | cons h1 hs =>
      cases hs with
      | cons h2 hs =>
        cases hs with
        | cons h3 hs =>
          cases hs with
          | cons h4 hs =>
            cases hs
            exact ⟨_, _, _, _, _, rfl, ha, h1, h2, h3, h4⟩
theorem RL.nil : RL H [] ([] : List a) := RepA.nil
theorem RL.cons {x : a} {xs : List a} (h : R H v x) (hs : RL H vs xs) : RL H (v :: vs) (x :: xs) := RepA.cons h hs
theorem RL.cons_ {x : a} {xs : List a} (h : RL H vs (x :: xs)) : ∃ w ws, vs = w :: ws ∧ R H w x ∧ RL H ws xs := by
  have h' : RepA H vs (Py.toD x :: xs.map Py.toD) := h
  cases h' with
  | cons h1 h2 => exact ⟨_, _, rfl, h1, h2⟩
theorem RL.nil_ (h : RL H vs ([] : List a)) : vs = [] := by
  have h' : RepA H vs [] := h
  cases h'
  rfl
theorem RL.len : ∀ {vs : List V} {xs : List a}, RL H vs xs → vs.length = xs.length
  | _, [], h => by rw [RL.nil_ h]; rfl
  | _, x :: xs, h => by
    obtain ⟨w, ws, rfl, _, h2⟩ := RL.cons_ h
    rw [List.length_cons, List.length_cons, RL.len h2]
theorem RL.app : ∀ {vs ws : List V} {xs ys : List a}, RL H vs xs → RL H ws ys → RL H (vs ++ ws) (xs ++ ys)
  | _, _, [], _, h, k => by rw [RL.nil_ h]; exact k
  | _, _, x :: xs, _, h, k => by
    obtain ⟨w, ws', rfl, h1, h2⟩ := RL.cons_ h
    exact RL.cons h1 (RL.app h2 k)
theorem RL.snoc {x : a} {xs : List a} (h : RL H vs xs) (k : R H v x) : RL H (vs ++ [v]) (xs ++ [x]) := RL.app h (RL.cons k RL.nil)
theorem RL.get : ∀ {vs : List V} {xs : List a}, RL H vs xs → ∀ {i : Nat} {x : a}, xs[i]? = some x → ∃ w, vs[i]? = some w ∧ R H w x
  | _, [], _, i, x, e => by simp at e
  | _, y :: ys, h, i, x, e => by
    obtain ⟨w, ws, rfl, h1, h2⟩ := RL.cons_ h
    cases i with
    | zero =>
      cases (Option.some.inj e : y = x)
      exact ⟨w, rfl, h1⟩
    | succ i => exact RL.get h2 (i := i) (by simpa using e)
theorem RL.got : ∀ {vs : List V} {xs : List a}, RL H vs xs → ∀ {i : Nat} {w : V}, vs[i]? = some w → ∃ x, xs[i]? = some x ∧ R H w x
  | _, [], h, i, w, e => by rw [RL.nil_ h] at e; simp at e
  | _, y :: ys, h, i, w, e => by
    obtain ⟨w', ws, rfl, h1, h2⟩ := RL.cons_ h
    cases i with
    | zero =>
      cases (Option.some.inj e : w' = w)
      exact ⟨y, rfl, h1⟩
    | succ i => exact RL.got h2 (i := i) (by simpa using e)
theorem RL.atI {xs : List a} (h : RL H vs xs) {i : Int} {x : a} (e : L2.atI xs i = some x) : ∃ w, L2.atI vs i = some w ∧ R H w x := by
  unfold L2.atI at e ⊢
  rw [h.len]
  cases q : ixN xs.length i with
  | none => rw [q] at e; cases e
  | some j =>
    rw [q] at e
    exact h.get e
theorem RL.take : ∀ {vs : List V} {xs : List a} (n : Nat), RL H vs xs → RL H (vs.take n) (xs.take n)
  | _, _, 0, _ => RL.nil
  | _, [], n + 1, h => by rw [RL.nil_ h]; exact RL.nil
  | _, x :: xs, n + 1, h => by
    obtain ⟨w, ws, rfl, h1, h2⟩ := RL.cons_ h
    exact RL.cons h1 (RL.take n h2)
theorem RL.drop : ∀ {vs : List V} {xs : List a} (n : Nat), RL H vs xs → RL H (vs.drop n) (xs.drop n)
  | _, _, 0, h => h
  | _, [], n + 1, h => by rw [RL.nil_ h]; exact RL.nil
  | _, x :: xs, n + 1, h => by
    obtain ⟨w, ws, rfl, h1, h2⟩ := RL.cons_ h
    exact RL.drop n h2
theorem RL.set : ∀ {vs : List V} {xs : List a} (n : Nat) {w : V} {y : a}, RL H vs xs → R H w y → RL H (vs.set n w) (xs.set n y)
  | _, [], n, _, _, h, _ => by rw [RL.nil_ h]; exact RL.nil
  | _, x :: xs, 0, _, _, h, k => by
    obtain ⟨w, ws, rfl, h1, h2⟩ := RL.cons_ h
    exact RL.cons k h2
  | _, x :: xs, n + 1, _, _, h, k => by
    obtain ⟨w, ws, rfl, h1, h2⟩ := RL.cons_ h
    exact RL.cons h1 (RL.set n h2 k)
theorem RL.erase : ∀ {vs : List V} {xs : List a} (n : Nat), RL H vs xs → RL H (vs.eraseIdx n) (xs.eraseIdx n)
  | _, [], n, h => by rw [RL.nil_ h]; exact RL.nil
  | _, x :: xs, 0, h => by
    obtain ⟨w, ws, rfl, h1, h2⟩ := RL.cons_ h
    exact h2
  | _, x :: xs, n + 1, h => by
    obtain ⟨w, ws, rfl, h1, h2⟩ := RL.cons_ h
    exact RL.cons h1 (RL.erase n h2)
theorem RL.dropLast : ∀ {vs : List V} {xs : List a}, RL H vs xs → RL H vs.dropLast xs.dropLast
  | _, [], h => by rw [RL.nil_ h]; exact RL.nil
  | _, x :: xs, h => by
    obtain ⟨w, ws, rfl, h1, h2⟩ := RL.cons_ h
    cases xs with
    | nil => rw [RL.nil_ h2]; exact RL.nil
    | cons y ys =>
      obtain ⟨w2, ws2, rfl, _, _⟩ := RL.cons_ h2
      exact RL.cons h1 (RL.dropLast h2)
theorem RL.rev : ∀ {vs : List V} {xs : List a}, RL H vs xs → RL H vs.reverse xs.reverse
  | _, [], h => by rw [RL.nil_ h]; exact RL.nil
  | _, x :: xs, h => by
    obtain ⟨w, ws, rfl, h1, h2⟩ := RL.cons_ h
    rw [List.reverse_cons, List.reverse_cons]
    exact RL.snoc (RL.rev h2) h1
theorem RL.ints : ∀ {vs : List V} {xs : List Int}, RL H vs xs → vs = xs.map V.int
  | _, [], h => RL.nil_ h
  | _, x :: xs, h => by
    obtain ⟨w, ws, rfl, h1, h2⟩ := RL.cons_ h
    rw [R.int_ h1, RL.ints h2]
    rfl
theorem RL.of_ints : ∀ {xs : List Int}, RL H (xs.map V.int) xs
  | [] => RL.nil
  | x :: xs => RL.cons R.int RL.of_ints
theorem RL.bls : ∀ {vs : List V} {xs : List Bool}, RL H vs xs → vs = xs.map V.bl
  | _, [], h => RL.nil_ h
  | _, x :: xs, h => by
    obtain ⟨w, ws, rfl, h1, h2⟩ := RL.cons_ h
    rw [R.bl_ h1, RL.bls h2]
    rfl
theorem RL.strs : ∀ {vs : List V} {xs : List Str}, RL H vs xs → vs = xs.map V.str
  | _, [], h => RL.nil_ h
  | _, x :: xs, h => by
    obtain ⟨w, ws, rfl, h1, h2⟩ := RL.cons_ h
    rw [R.str_ h1, RL.strs h2]
    rfl
theorem RL.of_strs : ∀ {xs : List Str}, RL H (xs.map V.str) xs
  | [] => RL.nil
  | x :: xs => RL.cons R.str RL.of_strs
theorem RL.cut {xs : List a} (h : RL H vs xs) (lo hi : Option Int) : RL H (cutV vs lo hi) ((xs.drop (HT.sIx xs.length 0 lo)).take (HT.sIx xs.length xs.length hi - HT.sIx xs.length 0 lo)) := by
  unfold cutV
  rw [h.len]
  exact (h.drop _).take _
end

/-! ### owned cells: F is what is read alone, cs are the cells that the code may change -/
/-- what is known of the heap behind a def, by the heap at its entry; the cells at as may have changed -/
structure Gr (as : List Addr) (F H F' H' : Hp) : Prop where
  f : Same F F'
  s : Same F' H'
  k : ∀ b o, b ∉ as → H b = some o → H' b = some o
  t : ∀ b, H b ≠ none → H' b ≠ none
  n : ∀ b, H b ≠ none → F' b = F b ∨ ∃ xs, H b = some (.tup xs)
  u : ∀ b xs, H' b = some (.tup xs) → H b = none ∨ H b = some (.tup xs)
/-- what may be a cell -/
def noTup : HO → Bool
  | .tup _ => false
  | _ => true
structure Kp (as : List Addr) (H H' : Hp) : Prop where
  k : ∀ b o, b ∉ as → H b = some o → H' b = some o
  t : ∀ b, H b ≠ none → H' b ≠ none
/-- the entry of a def -/
structure Ent where
  as : List Addr
  F : Hp
  H : Hp
structure Ow (Z : Ent) (F : Hp) (cs : List (Addr × HO)) (H : Hp) : Prop where
  g : Gr Z.as Z.F Z.H F H
  cf : ∀ c ∈ cs, F c.1 = none
  ch : ∀ c ∈ cs, H c.1 = some c.2
  nd : (cs.map (·.1)).Nodup
  ca : ∀ c ∈ cs, c.1 ∈ Z.as ∨ Z.H c.1 = none
  nt : ∀ c ∈ cs, noTup c.2 = true
/-- what a def asks of its cells -/
structure Pre (F : Hp) (cs : List (Addr × HO)) (H : Hp) : Prop where
  s : Same F H
  cf : ∀ c ∈ cs, F c.1 = none
  ch : ∀ c ∈ cs, H c.1 = some c.2
  nd : (cs.map (·.1)).Nodup
  nt : ∀ c ∈ cs, noTup c.2 = true
theorem Same.new {H : Hp} {p : Addr} {o : HO} (h : H p = none) : Same H (upd H p o) := fun b u e => by
  rw [upd_ne (ne_of_none e h)]
  exact e
theorem Same.upd2 {F H : Hp} {p : Addr} {o : HO} (s : Same F H) : Same (upd F p o) (upd H p o) := fun b u e => by
  by_cases hb : b = p
  · subst hb
    rw [upd_same] at e ⊢
    exact e
  · rw [upd_ne hb] at e ⊢
    exact s b u e
theorem Same.no {F H : Hp} {p : Addr} (s : Same F H) (h : H p = none) : F p = none := Same.free s h
section
variable {Z : Ent} {F F' H H' : Hp} {cs : List (Addr × HO)} {p a : Addr} {o o' : HO}
theorem Pre.start (P : Pre F cs H) : Ow ⟨cs.map (·.1), F, H⟩ F cs H where
  g := ⟨Same.refl _, P.s, fun _ _ _ e => e, fun _ e => e, fun _ _ => .inl rfl, fun _ _ e => .inr e⟩
  cf := P.cf
  ch := P.ch
  nd := P.nd
  ca := fun c hc => .inl (List.mem_map.mpr ⟨c, hc, rfl⟩)
  nt := P.nt
theorem Ow.s (O : Ow Z F cs H) : Same F H := O.g.s
theorem Ow.pre (O : Ow Z F cs H) : Pre F cs H := ⟨O.g.s, O.cf, O.ch, O.nd, O.nt⟩
theorem Ow.pre0 (O : Ow Z F cs H) : Pre F [] H := ⟨O.g.s, (fun _ h => nomatch h), (fun _ h => nomatch h), List.nodup_nil, fun _ h => nomatch h⟩
theorem Ow.pre1 (O : Ow Z F cs H) (i : Nat) (e : cs[i]? = some (a, o)) : Pre F [(a, o)] H := by
  have m := List.mem_of_getElem? e
  refine ⟨O.g.s, fun c hc => ?_, fun c hc => ?_, by simp, fun c hc => ?_⟩
  · rw [List.mem_singleton.mp hc]; exact O.cf _ m
  · rw [List.mem_singleton.mp hc]; exact O.ch _ m
  · rw [List.mem_singleton.mp hc]; exact O.nt _ m
theorem Ow.at (O : Ow Z F cs H) (i : Nat) (e : cs[i]? = some (a, o)) : H a = some o := O.ch _ (List.mem_of_getElem? e)
theorem Ow.no (O : Ow Z F cs H) (h : H p = none) : F p = none := Same.no O.s h
theorem Gr.new (g : Gr Z.as Z.F Z.H F H) (h : H p = none) : Gr Z.as Z.F Z.H F (upd H p o) where
  f := g.f
  s := g.s.trans (Same.new h)
  k := fun b u hb e => Same.new h b u (g.k b u hb e)
  t := fun b e z => by
    by_cases hb : b = p
    · subst hb; exact g.t _ e h
    · rw [upd_ne hb] at z; exact g.t b e z
  n := g.n
  u := fun b xs e => by
    by_cases hb : b = p
    · subst hb
      cases q : Z.H b with
      | none => exact .inl rfl
      | some u => exact absurd h (g.t b (by rw [q]; simp))
    · rw [upd_ne hb] at e; exact g.u b xs e
/-- a new cell -/
theorem Ow.new (O : Ow Z F cs H) (h : H p = none) (hn : noTup o = true := by rfl) : Ow Z F ((p, o) :: cs) (upd H p o) where
  g := O.g.new h
  cf := fun c hc => by
    rcases List.mem_cons.mp hc with rfl | hc
    · exact O.no h
    · exact O.cf c hc
  ch := fun c hc => by
    rcases List.mem_cons.mp hc with rfl | hc
    · exact upd_same
    · rw [upd_ne (ne_of_none (O.ch c hc) h)]; exact O.ch c hc
  nd := by
    rw [List.map_cons, List.nodup_cons]
    refine ⟨fun hm => ?_, O.nd⟩
    obtain ⟨c, hc, e⟩ := List.mem_map.mp hm
    have z := O.ch c hc
    rw [e] at z
    rw [z] at h
    cases h
  ca := fun c hc => by
    rcases List.mem_cons.mp hc with rfl | hc
    · refine .inr ?_
      cases q : Z.H p with
      | none => rfl
      | some u => exact absurd h (O.g.t p (by rw [q]; simp))
    · exact O.ca c hc
  nt := fun c hc => by
    rcases List.mem_cons.mp hc with rfl | hc
    · exact hn
    · exact O.nt c hc
/-- a new thing that is read alone -/
theorem Ow.put (O : Ow Z F cs H) (h : H p = none) : Ow Z (upd F p o) cs (upd H p o) where
  g := {
    f := O.g.f.trans (Same.new (O.no h))
    s := Same.upd2 O.g.s
    k := (O.g.new h).k
    t := (O.g.new h).t
    n := fun b e => by
      have hb : b ≠ p := fun z => by subst z; exact O.g.t _ e h
      rw [upd_ne hb]
      exact O.g.n b e
    u := (O.g.new h).u }
  cf := fun c hc => by rw [upd_ne (ne_of_none (O.ch c hc) h)]; exact O.cf c hc
  ch := fun c hc => by rw [upd_ne (ne_of_none (O.ch c hc) h)]; exact O.ch c hc
  nd := O.nd
  ca := O.ca
  nt := O.nt
theorem map_set_fst {i : Nat} (e : cs[i]? = some (a, o)) : (cs.set i (a, o')).map (·.1) = cs.map (·.1) := by
  rw [List.map_set]
  obtain ⟨h, e'⟩ := List.getElem?_eq_some_iff.mp e
  refine List.ext_getElem? fun j => ?_
  by_cases hj : i = j
  · subst hj
    rw [List.getElem?_set_self (by simpa using h), List.getElem?_map, e]
    rfl
  · rw [List.getElem?_set_ne hj]
theorem nd_other {i : Nat} (nd : (cs.map (·.1)).Nodup) (e : cs[i]? = some (a, o)) {c : Addr × HO} (hc : c ∈ cs.set i (a, o')) : c = (a, o') ∨ (c ∈ cs ∧ c.1 ≠ a) := by
  obtain ⟨j, hj⟩ := List.mem_iff_getElem?.mp hc
  by_cases hij : i = j
  · subst hij
    obtain ⟨h, _⟩ := List.getElem?_eq_some_iff.mp e
    rw [List.getElem?_set_self h] at hj
    exact .inl (Option.some.inj hj).symm
  · rw [List.getElem?_set_ne hij] at hj
    refine .inr ⟨List.mem_of_getElem? hj, fun z => hij ?_⟩
    have h1 : (cs.map (·.1))[i]? = some a := by rw [List.getElem?_map, e]; rfl
    have h2 : (cs.map (·.1))[j]? = some a := by rw [List.getElem?_map, hj, ← z]; rfl
    exact nd_ix nd h1 h2
/-- a cell is changed -/
theorem Ow.set (O : Ow Z F cs H) (i : Nat) (o' : HO) (e : cs[i]? = some (a, o)) (hn : noTup o' = true := by rfl) : Ow Z F (cs.set i (a, o')) (upd H a o') := by
  have m := List.mem_of_getElem? e
  have ha := O.ca _ m
  refine ⟨⟨O.g.f, fun b u q => ?_, fun b u hb q => ?_, fun b q z => ?_, O.g.n, fun b xs q => ?_⟩, fun c hc => ?_, fun c hc => ?_, ?_, fun c hc => ?_, fun c hc => ?_⟩
  · have hb : b ≠ a := fun z => by subst z; rw [O.cf _ m] at q; cases q
    rw [upd_ne hb]
    exact O.g.s b u q
  · have hba : b ≠ a := fun z => by
      subst z
      rcases ha with ha | ha
      · exact hb ha
      · have q' : Z.H b = some u := q
        have ha' : Z.H b = none := ha
        rw [ha'] at q'; cases q'
    rw [upd_ne hba]
    exact O.g.k b u hb q
  · by_cases hb : b = a
    · subst hb; rw [upd_same] at z; cases z
    · rw [upd_ne hb] at z; exact O.g.t b q z
  · by_cases hb : b = a
    · subst hb
      rw [upd_same] at q
      rw [Option.some.inj q] at hn
      cases hn
    · rw [upd_ne hb] at q; exact O.g.u b xs q
  · rcases nd_other O.nd e hc with rfl | ⟨h1, _⟩
    · exact O.cf (a, o) m
    · exact O.cf c h1
  · rcases nd_other O.nd e hc with rfl | ⟨h1, h2⟩
    · exact upd_same
    · rw [upd_ne h2]; exact O.ch c h1
  · rw [map_set_fst e]; exact O.nd
  · rcases nd_other O.nd e hc with rfl | ⟨h1, _⟩
    · exact ha
    · exact O.ca c h1
  · rcases nd_other O.nd e hc with rfl | ⟨h1, _⟩
    · exact hn
    · exact O.nt c h1
theorem mem_erase {i : Nat} {c : Addr × HO} (h : c ∈ cs.eraseIdx i) : c ∈ cs := List.mem_of_mem_eraseIdx h
theorem nd_erase {i : Nat} (h : (cs.map (·.1)).Nodup) : ((cs.eraseIdx i).map (·.1)).Nodup := by
  exact h.sublist ((List.eraseIdx_sublist cs i).map (fun x => x.1))
/-- a cell that nobody changes any more (it was not there at the entry) -/
theorem Ow.frz (O : Ow Z F cs H) (i : Nat) (e : cs[i]? = some (a, o)) (hz : Z.H a = none) : Ow Z (upd F a o) (cs.eraseIdx i) H := by
  have m := List.mem_of_getElem? e
  have h1 : ∀ c ∈ cs.eraseIdx i, c.1 ≠ a := fun c hc z => by
    have nd := O.nd
    obtain ⟨hi, e'⟩ := List.getElem?_eq_some_iff.mp e
    obtain ⟨j, hj⟩ := List.mem_iff_getElem?.mp hc
    rw [List.getElem?_eraseIdx] at hj
    have h1 : (cs.map (·.1))[i]? = some a := by rw [List.getElem?_map, e]; rfl
    by_cases hji : j < i
    · rw [if_pos hji] at hj
      have h2 : (cs.map (·.1))[j]? = some a := by rw [List.getElem?_map, hj, ← z]; rfl
      have := nd_ix nd h1 h2
      omega
    · rw [if_neg hji] at hj
      have h2 : (cs.map (·.1))[j + 1]? = some a := by rw [List.getElem?_map, hj, ← z]; rfl
      have := nd_ix nd h1 h2
      omega
  refine ⟨⟨O.g.f.trans (Same.new (O.cf _ m)), fun b u q => ?_, O.g.k, O.g.t, fun b q => ?_, O.g.u⟩, fun c hc => ?_, fun c hc => O.ch c (mem_erase hc), nd_erase O.nd, fun c hc => O.ca c (mem_erase hc), fun c hc => O.nt c (mem_erase hc)⟩
  · by_cases hb : b = a
    · subst hb; rw [upd_same] at q; rw [← q]; exact O.ch _ m
    · rw [upd_ne hb] at q; exact O.g.s b u q
  · have hb : b ≠ a := fun z => by subst z; exact q hz
    rw [upd_ne hb]
    exact O.g.n b q
  · rw [upd_ne (h1 c hc)]; exact O.cf c (mem_erase hc)
theorem Ow.drop (O : Ow Z F cs H) (i : Nat) : Ow Z F (cs.eraseIdx i) H := ⟨O.g, fun c hc => O.cf c (mem_erase hc), fun c hc => O.ch c (mem_erase hc), nd_erase O.nd, fun c hc => O.ca c (mem_erase hc), fun c hc => O.nt c (mem_erase hc)⟩
theorem Ow.frzS (O : Ow Z F cs H) (i : Nat) (e : cs[i]? = some (a, o)) : Same F (upd F a o) := Same.new (O.cf _ (List.mem_of_getElem? e))
theorem Ow.putS (O : Ow Z F cs H) (h : H p = none) : Same F (upd F p o) := Same.new (O.no h)
theorem Gr.then {as : List Addr} (g0 : Gr Z.as Z.F Z.H F H) (g : Gr as F H F' H') (ha : ∀ b ∈ as, b ∈ Z.as ∨ Z.H b = none) : Gr Z.as Z.F Z.H F' H' where
  f := g0.f.trans g.f
  s := g.s
  k := fun b u hb e => by
    refine g.k b u (fun z => ?_) (g0.k b u hb e)
    rcases ha b z with h | h
    · exact hb h
    · rw [h] at e; cases e
  t := fun b e => g.t b (g0.t b e)
  n := fun b e => by
    rcases g0.n b e with h0 | h0
    · rcases g.n b (g0.t b e) with h1 | ⟨xs, hx⟩
      · exact .inl (h1.trans h0)
      · rcases g0.u b xs hx with z | z
        · exact absurd z e
        · exact .inr ⟨xs, z⟩
    · exact .inr h0
  u := fun b xs e => by
    rcases g.u b xs e with z | z
    · refine .inl ?_
      cases q : Z.H b with
      | none => rfl
      | some u => exact absurd z (g0.t b (by rw [q]; simp))
    · exact g0.u b xs z
theorem Gr.none {as : List Addr} (g : Gr as F H F' H') {c : Addr × HO} (h : H c.1 = some c.2) (hn : noTup c.2 = true) (hf : F c.1 = Option.none) : F' c.1 = Option.none := by
  rcases g.n c.1 (by rw [h]; simp) with z | ⟨xs, z⟩
  · exact z.trans hf
  · rw [h] at z
    rw [Option.some.inj z] at hn
    cases hn
/-- behind a call that changes none of our cells -/
theorem Ow.call0 (O : Ow Z F cs H) (g : Gr [] F H F' H') : Ow Z F' cs H' where
  g := O.g.then g (fun _ h => nomatch h)
  cf := fun c hc => g.none (O.ch c hc) (O.nt c hc) (O.cf c hc)
  ch := fun c hc => g.k _ _ (fun h => nomatch h) (O.ch c hc)
  nd := O.nd
  ca := O.ca
  nt := O.nt
/-- .. one -/
theorem Ow.call1 (O : Ow Z F cs H) (g : Gr [a] F H F' H') (i : Nat) (e : cs[i]? = some (a, o)) (h' : H' a = some o') (hn : noTup o' = true := by rfl) : Ow Z F' (cs.set i (a, o')) H' := by
  have m := List.mem_of_getElem? e
  refine ⟨O.g.then g (fun b hb => by rw [List.mem_singleton.mp hb]; exact O.ca _ m), fun c hc => ?_, fun c hc => ?_, by rw [map_set_fst e]; exact O.nd, fun c hc => ?_, fun c hc => ?_⟩
  · rcases nd_other O.nd e hc with rfl | ⟨h1, _⟩
    · exact g.none (c := (a, o)) (O.ch (a, o) m) (O.nt (a, o) m) (O.cf (a, o) m)
    · exact g.none (O.ch c h1) (O.nt c h1) (O.cf c h1)
  · rcases nd_other O.nd e hc with rfl | ⟨h1, h2⟩
    · exact h'
    · exact g.k _ _ (fun z => h2 (List.mem_singleton.mp z)) (O.ch c h1)
  · rcases nd_other O.nd e hc with rfl | ⟨h1, _⟩
    · exact O.ca (a, o) m
    · exact O.ca c h1
  · rcases nd_other O.nd e hc with rfl | ⟨h1, _⟩
    · exact hn
    · exact O.nt c h1
/-- a cell that a call made -/
theorem Ow.add {H0 : Hp} {F0 : Hp} (O : Ow Z F cs H) (O0 : Ow Z F0 cs' H0) (hk : ∀ c ∈ cs, c.1 ∈ cs'.map (·.1)) (hn : H0 p = none) (hf : F p = none) (h : H p = some o) (ht : noTup o = true := by rfl) : Ow Z F ((p, o) :: cs) H where
  g := O.g
  cf := fun c hc => by
    rcases List.mem_cons.mp hc with rfl | hc
    · exact hf
    · exact O.cf c hc
  ch := fun c hc => by
    rcases List.mem_cons.mp hc with rfl | hc
    · exact h
    · exact O.ch c hc
  nd := by
    rw [List.map_cons, List.nodup_cons]
    refine ⟨fun hm => ?_, O.nd⟩
    obtain ⟨c, hc, e⟩ := List.mem_map.mp hm
    obtain ⟨c', hc', e'⟩ := List.mem_map.mp (hk c hc)
    have z := O0.ch c' hc'
    rw [e', e] at z
    rw [z] at hn
    cases hn
  ca := fun c hc => by
    rcases List.mem_cons.mp hc with rfl | hc
    · refine .inr ?_
      cases q : Z.H p with
      | none => rfl
      | some u => exact absurd hn (O0.g.t p (by rw [q]; simp))
    · exact O.ca c hc
  nt := fun c hc => by
    rcases List.mem_cons.mp hc with rfl | hc
    · exact ht
    · exact O.nt c hc
theorem Ow.kp (O : Ow Z F cs H) : Kp Z.as Z.H H := ⟨O.g.k, O.g.t⟩
theorem Kp.of {as : List Addr} {H0 H1 : Hp} (g : Gr as F H0 F' H1) : Kp as H0 H1 := ⟨g.k, g.t⟩
/-- an error of a call leaves this def -/
theorem Ow.kpCall {as : List Addr} {H1 : Hp} (O : Ow Z F cs H) (k : Kp as H H1) (ha : ∀ b ∈ as, ∃ o, (b, o) ∈ cs) : Kp Z.as Z.H H1 where
  k := fun b u hb e => by
    refine k.k b u (fun z => ?_) (O.g.k b u hb e)
    obtain ⟨o, hc⟩ := ha b z
    rcases O.ca _ hc with h | h
    · exact hb h
    · have h' : Z.H b = none := h
      rw [h'] at e; cases e
  t := fun b e => k.t b (O.g.t b e)
theorem Ow.kp0 {H1 : Hp} (O : Ow Z F cs H) (k : Kp [] H H1) : Kp Z.as Z.H H1 := O.kpCall k fun _ h => nomatch h
theorem Ow.kp1 {H1 : Hp} (O : Ow Z F cs H) (k : Kp [a] H H1) (i : Nat) (e : cs[i]? = some (a, o)) : Kp Z.as Z.H H1 := O.kpCall k fun b hb => by
  rw [List.mem_singleton.mp hb]
  exact ⟨o, List.mem_of_getElem? e⟩
end
end PG

set_option Elab.async false
set_option linter.all false
set_option maxRecDepth 100000
set_option maxHeartbeats 4000000
namespace PG
open PySem L2
open PySem.W (T3 T4 Datum DatumOrd Holds HoldAll EachIs)
/-! ### rules over typed data -/
section
variable {X : Cx} {pins : List (Addr × Obj)} {σ : St} {H : Hp} {s : Shared} {v : V} {u : Value} {vs : List V} {us : List Value}
theorem R.holds {a : Type} [Py a] [DecidableEq a] [Datum a] [IsD a] {x : a} (I : Inv X pins σ H s) (h : R H v x) (r : RelV v u) : Holds s.heap u x := by
  obtain ⟨as, q⟩ := Dp.reads I _ _ _ (Rep.dp _ _ h) r
  rw [IsD.eq] at q
  exact ⟨as, q⟩
theorem RL.holds {a : Type} [Py a] [DecidableEq a] [Datum a] [IsD a] {xs : List a} (I : Inv X pins σ H s) (h : RL H vs xs) (r : Vals vs us) : HoldAll s.heap us xs := by
  obtain ⟨as, q⟩ := Dp.readsAll I _ _ _ (RepA.dp _ _ h) r
  rw [map_toD] at q
  exact ⟨as, q⟩
end
section
variable {X : Cx} (a : Type) [Py a] [DecidableEq a] [Datum a] [IsD a]
def rEqT : R2 := fun x y H Q => ∃ p q : a, R H x p ∧ R H y q ∧ Q (.bl (decide (p = q))) H
def rNeT : R2 := fun x y H Q => ∃ p q : a, R H x p ∧ R H y q ∧ Q (.bl (decide (p ≠ q))) H
theorem op_eqT (hu : X.A.units + 64 < cLine) (hd : Datum.depth a ≤ 64 := by decide) : OpR X (compareOp .Eq) (rEqT a) := by
  intro pins s σ H x y v u Q I rx ry h
  obtain ⟨p, q, hp, hq, k⟩ := h
  exact PySem.W.eq_datum (hp.holds I rx) (hq.holds I ry) (by omega) ⟨.bl _, H, I, rfl, k⟩
theorem op_neT (hu : X.A.units + 64 < cLine) (hd : Datum.depth a ≤ 64 := by decide) : OpR X (compareOp .NotEq) (rNeT a) := by
  intro pins s σ H x y v u Q I rx ry h
  obtain ⟨p, q, hp, hq, k⟩ := h
  exact PySem.W.ne_datum (hp.holds I rx) (hq.holds I ry) (by omega) ⟨.bl _, H, I, rfl, k⟩
def rInT (neg : Bool) : R2 := fun x y H Q => ∃ (p : a) (l : Addr) (vs : List V) (ys : List a), R H x p ∧ y = .ref l ∧ (H l = some (.lst vs) ∨ H l = some (.tup vs)) ∧ RL H vs ys ∧ Q (.bl (if neg then decide (p ∉ ys) else decide (p ∈ ys))) H
end
section
variable {X : Cx} (a : Type) [Py a] [DecidableEq a] [Datum a] [IsD a]
theorem op_inT (hu : X.A.units + 64 < cLine) (hd : Datum.depth a ≤ 60 := by decide) : OpR X (compareOp .In) (rInT a false) := by
  intro pins s σ H x y v u Q I rx ry h
  obtain ⟨p, l, vs, ys, hp, rfl, hl, hy, k⟩ := h
  cases ry
  rcases hl with hl | hl
  · obtain ⟨its, rv, hL, _⟩ := I.list (SqL.of (K := X.K) hl)
    exact PySem.W.in_list_datum hL.isList (by simpa using hy.holds I rv) (hp.holds I rx) (by omega) ⟨.bl _, H, I, rfl, k⟩
  · obtain ⟨its, rv, hL, _⟩ := I.tuple (SqT.of (K := X.K) hl)
    exact PySem.W.in_tuple_datum (show s.heap.IsTuple l its.toArray from hL) (by simpa using hy.holds I rv) (hp.holds I rx) (by omega) ⟨.bl _, H, I, rfl, k⟩
theorem op_ninT (hu : X.A.units + 64 < cLine) (hd : Datum.depth a ≤ 60 := by decide) : OpR X (compareOp .NotIn) (rInT a true) := by
  intro pins s σ H x y v u Q I rx ry h
  obtain ⟨p, l, vs, ys, hp, rfl, hl, hy, k⟩ := h
  cases ry
  rcases hl with hl | hl
  · obtain ⟨its, rv, hL, _⟩ := I.list (SqL.of (K := X.K) hl)
    exact PySem.W.notIn_list_datum hL.isList (by simpa using hy.holds I rv) (hp.holds I rx) (by omega) ⟨.bl _, H, I, rfl, k⟩
  · obtain ⟨its, rv, hL, _⟩ := I.tuple (SqT.of (K := X.K) hl)
    exact PySem.W.notIn_tuple_datum (show s.heap.IsTuple l its.toArray from hL) (by simpa using hy.holds I rv) (hp.holds I rx) (by omega) ⟨.bl _, H, I, rfl, k⟩
end

/-! ### sorted -/
/-- how data may be sorted: all are tuples with an item, or none is a tuple or None -/
class SortB (a : Type) [DecidableEq a] [Datum a] : Prop where
  ok : (∀ x : a, ∃ d r, Datum.toD x = .tuple (d :: r)) ∨ ∀ x : a, Datum.toD x ≠ .none ∧ ∀ ds, Datum.toD x ≠ .tuple ds
instance : SortB Int := ⟨.inr fun x => ⟨(fun e => nomatch (show PyData.int x = .none from e)), fun ds e => nomatch (show PyData.int x = .tuple ds from e)⟩⟩
instance : SortB Str := ⟨.inr fun x => ⟨(fun e => nomatch (show PyData.str x = .none from e)), fun ds e => nomatch (show PyData.str x = .tuple ds from e)⟩⟩
section
variable {a b c : Type} [DecidableEq a] [Datum a] [DecidableEq b] [Datum b] [DecidableEq c] [Datum c]
instance : SortB (List a) := ⟨.inr fun x => ⟨(fun e => nomatch (show PyData.list _ = .none from e)), fun ds e => nomatch (show PyData.list _ = .tuple ds from e)⟩⟩
instance : SortB (a × b) := ⟨.inl fun x => ⟨_, _, rfl⟩⟩
instance : SortB (T3 a b c) := ⟨.inl fun x => ⟨_, _, rfl⟩⟩
end
/-- Python's order -/
def leT {a : Type} [DecidableEq a] [DatumOrd a] (x y : a) : Bool := !DatumOrd.lt y x
def sortT {a : Type} [DecidableEq a] [DatumOrd a] (xs : List a) : List a := xs.mergeSort leT
theorem dataLe_T {a β : Type} [DecidableEq a] [DatumOrd a] (f : β → a) : PySem.W.dataLe false (fun b => Datum.toD (f b)) = fun x y => leT (f x) (f y) := by
  funext x y
  rw [PySem.W.dataLe_eq]
  show (!PySem.W.dataLt (Datum.toD (f y)) (Datum.toD (f x))) = _
  rw [DatumOrd.lt_eq]
  rfl
section
variable {a : Type} [Py a] [DecidableEq a] [DatumOrd a] [IsD a] {H : Hp}
theorem each_pairs : ∀ {vs : List V} {xs : List a} {us : List Value}, RL H vs xs → Vals vs us → EachIs (fun (u : Value) (p : V × a) => RelV p.1 u ∧ R H p.1 p.2) us (vs.zip xs)
  | _, [], _, h, r => by
    rw [RL.nil_ h] at r ⊢
    cases r
    exact .nil
  | _, x :: xs, _, h, r => by
    obtain ⟨w, ws, rfl, h1, h2⟩ := RL.cons_ h
    cases r with
    | cons r1 r2 => exact .cons ⟨r1, h1⟩ (each_pairs h2 r2)
theorem pairs_vals : ∀ {ps : List (V × a)} {us : List Value}, EachIs (fun (u : Value) (p : V × a) => RelV p.1 u ∧ R H p.1 p.2) us ps → Vals (ps.map (·.1)) us ∧ RL H (ps.map (·.1)) (ps.map (·.2))
  | _, _, .nil => ⟨.nil, RL.nil⟩
  | _, _, .cons ⟨r1, h1⟩ t => ⟨.cons r1 (pairs_vals t).1, RL.cons h1 (pairs_vals t).2⟩
theorem each_imp {β γ : Type} {A B : β → γ → Prop} (f : ∀ x y, A x y → B x y) : ∀ {xs : List β} {ys : List γ}, EachIs A xs ys → EachIs B xs ys
  | _, _, .nil => .nil
  | _, _, .cons h t => .cons (f _ _ h) (each_imp f t)
theorem zip_snd : ∀ {vs : List V} {xs : List a}, vs.length = xs.length → (vs.zip xs).map (·.2) = xs
  | [], [], _ => rfl
  | v :: vs, x :: xs, h => by
    rw [List.zip_cons_cons, List.map_cons, zip_snd (by simpa using h)]
  | [], _ :: _, h => by simp at h
  | _ :: _, [], h => by simp at h
theorem sort_zip {vs : List V} {xs : List a} (h : vs.length = xs.length) : ((vs.zip xs).mergeSort fun p q => leT p.2 q.2).map (·.2) = sortT xs := by
  unfold sortT
  rw [List.map_mergeSort (s := leT) (fun _ _ _ _ => rfl), zip_snd h]
end
section
variable {a : Type} [Py a] [DecidableEq a] [DatumOrd a] [IsD a] {H : Hp}
def sortV (ws : List V) (xs : List a) : List V := ((ws.zip xs).mergeSort fun p q => leT p.2 q.2).map (·.1)
theorem RL.pairs : ∀ {ws : List V} {xs : List a}, RL H ws xs → ∀ p ∈ ws.zip xs, R H p.1 p.2
  | _, [], _, p, hp => by simp at hp
  | _, x :: xs, h, p, hp => by
    obtain ⟨w, ws, rfl, h1, h2⟩ := RL.cons_ h
    rw [List.zip_cons_cons] at hp
    rcases List.mem_cons.mp hp with rfl | hp
    · exact h1
    · exact RL.pairs h2 p hp
theorem RL.of_pairs : ∀ {ps : List (V × a)}, (∀ p ∈ ps, R H p.1 p.2) → RL H (ps.map (·.1)) (ps.map (·.2))
  | [], _ => RL.nil
  | p :: ps, h => RL.cons (h p List.mem_cons_self) (RL.of_pairs fun q hq => h q (List.mem_cons_of_mem _ hq))
theorem RL.sorted {ws : List V} {xs : List a} (h : RL H ws xs) : RL H (sortV ws xs) (sortT xs) := by
  have q : RL H (sortV ws xs) (((ws.zip xs).mergeSort fun p q => leT p.2 q.2).map (·.2)) := RL.of_pairs fun p hp => h.pairs p (List.mem_mergeSort.mp hp)
  rw [sort_zip h.len] at q
  exact q
end
section
variable {X : Cx} (a : Type) [Py a] [DecidableEq a] [DatumOrd a] [IsD a]
/-- sorted(xs) of a list: a new list -/
def rSortedT : List V → Hp → VK → Prop := fun vs H Q => ∃ (l : Addr) (ws : List V) (xs : List a), vs = [.ref l] ∧ H l = some (.lst ws) ∧ RL H ws xs ∧ ∀ (p : Addr), H p = none → Q (.ref p) (upd H p (.lst (sortV ws xs)))
theorem cr_sortedT [SortB a] (hu : X.A.units + 128 < cLine) (hd : Datum.depth a ≤ 100 := by decide) : CallR X (.builtin "sorted") (rSortedT a) := by
  intro pins s σ H vs us Q I r h
  obtain ⟨l, ws, xs, rfl, hl, hx, k⟩ := h
  obtain ⟨its, rv, hL, hz⟩ := I.list (SqL.of (K := X.K) hl)
  rw [Vals.ref1 r]
  have hlen : ws.length = xs.length := hx.len
  have hE := each_pairs hx rv
  refine PySem.W.sorted_data (bs := ws.zip xs) (enc := fun p => Datum.toD p.2) hL.isList hE (each_imp (fun u p hp => hp.2.holds I hp.1) hE) (PySem.W.AllAlike.of fun p q => DatumOrd.alike p.2 q.2) ?_ (by rw [List.length_zip, ← hlen, Nat.min_self]; exact hz) (fun p _ => ?_) fun out ho he => ?_
  · rcases SortB.ok (a := a) with q | q
    · exact PySem.W.Sortable.tuples fun p => q p.2
    · exact PySem.W.Sortable.others fun p => q p.2
  · have := Datum.depth_le p.2
    omega
  · rw [dataLe_T (fun p : V × a => p.2)] at he
    obtain ⟨q1, q2⟩ := pairs_vals he
    obtain ⟨ep, he'⟩ := PyProof.Rows.sortedAll_at s.heap its out.toArray
    refine ⟨.ref _, upd H (s.heap.objs.size + 1) (.lst _), I.laid (t' := s.toks) (fun _ _ => PyProof.Rows.sortedAll_old) (Nat.le_succ _) ⟨?_, out, ep, q1, he'⟩, rfl, k _ (I.hok.fresh (Nat.le_succ _))⟩
    rw [List.length_map, List.length_mergeSort, List.length_zip, ← hlen, Nat.min_self]
    exact hz
end
end PG

set_option Elab.async false
set_option linter.all false
set_option maxRecDepth 100000
set_option maxHeartbeats 4000000
namespace PG
open PySem PySem.Spec PyProof.Rows L2
open PySem.W (T3 T4 Datum DatumOrd Holds HoldAll EachIs)

instance (i j : Int) : Decidable (CMulW i j) := inferInstanceAs (Decidable (_ < _))
instance (i j : Int) : Decidable (CDivW i j) := inferInstanceAs (Decidable (_ ∧ _))
instance (i j : Int) : Decidable (CPow i j) := inferInstanceAs (Decidable (_ ∧ _ ∧ _))
theorem szl : sizeLine = 16777216 := sizeLine_eq
theorem lt_line {n : Nat} (h : n < 16777216) : n < sizeLine := by rw [szl]; exact h
theorem le_line {n : Nat} (h : n < 16777216) : n ≤ sizeLine := Nat.le_of_lt (lt_line h)
theorem len_line {vs : List V} (h : vs.length < 16777216 := by (show _ < 16777216); simp) : vs.length ≤ sizeLine := le_line h
theorem SqLF {K : PySem.W.Frag} {F H : Hp} {p : Addr} {vs : List V} (s : Same F H) (h : F p = some (.lst vs)) : SqL K H p vs := SqL.of (s _ _ h)
theorem SqTF {K : PySem.W.Frag} {F H : Hp} {p : Addr} {vs : List V} (s : Same F H) (h : F p = some (.tup vs)) : SqT K H p vs := SqT.of (s _ _ h)

/-! ### mirrors of what may go wrong -/
def setI {a : Type} (xs : List a) (i : Int) (y : a) : M (List a) := match ixN xs.length i with
  | some j => .ok (xs.set j y)
  | none => bad
def popI {a : Type} (xs : List a) (i : Int) : M (a × List a) := if xs.length < 16777216 then (match ixN xs.length i with
    | some j => (match xs[j]? with
      | some y => .ok (y, xs.eraseIdx j)
      | none => bad)
    | none => bad) else bad
def popL {a : Type} (xs : List a) : M (a × List a) := match xs[xs.length - 1]? with
  | some y => .ok (y, xs.dropLast)
  | none => bad
def appL {a : Type} (xs : List a) (y : a) : M (List a) := if xs.length < 16777216 then .ok (xs ++ [y]) else bad
def rangeL (lo hi : Int) : List Int := (List.range (hi - lo).toNat).map fun (i : Nat) => lo + (i : Int)
def okR (i : Int) : Prop := -1000000 ≤ i ∧ i ≤ 1000000
instance (i : Int) : Decidable (okR i) := inferInstanceAs (Decidable (_ ∧ _))
theorem okR.lo {i : Int} (h : okR i) : -(2 ^ 62) ≤ i := by obtain ⟨a, b⟩ := h; omega
theorem okR.hi {i : Int} (h : okR i) : i < 2 ^ 62 := by obtain ⟨a, b⟩ := h; omega
theorem rangeL_get {lo hi : Int} {i : Nat} (h : i < (hi - lo).toNat) : (rangeL lo hi).drop i = (lo + (i : Int)) :: (rangeL lo hi).drop (i + 1) := by
  unfold rangeL
  rw [List.drop_eq_getElem_cons (by simpa using h)]
  simp
theorem rangeL_end {lo hi : Int} : (rangeL lo hi).drop (hi - lo).toNat = [] := by
  rw [List.drop_eq_nil_iff]
  unfold rangeL
  simp
section
variable {a b : Type} {Q : a → Prop} {E : String → Prop} {H : Hp}
theorem wp_setI {xs : List b} {i : Int} {y : b} {k : List b → M a} (h : wp (setI xs i y >>= k) Q E) : ∃ j, ixN xs.length i = some j ∧ wp (k (xs.set j y)) Q E := by
  unfold setI at h
  cases e : ixN xs.length i with
  | none => rw [e] at h; exact h.elim
  | some j => rw [e] at h; exact ⟨j, rfl, h⟩
theorem wp_popI {xs : List b} {i : Int} {k : b × List b → M a} (h : wp (popI xs i >>= k) Q E) : ∃ j y, seqIndex? i xs.length = some j ∧ -(2 ^ 63) ≤ i ∧ i < 2 ^ 63 ∧ xs[j]? = some y ∧ wp (k (y, xs.eraseIdx j)) Q E := by
  unfold popI at h
  by_cases hl : xs.length < 16777216
  · rw [if_pos hl] at h
    cases e : ixN xs.length i with
    | none => rw [e] at h; exact h.elim
    | some j =>
      rw [e] at h
      have h : wp ((match xs[j]? with
        | some y => .ok (y, xs.eraseIdx j)
        | none => bad) >>= k) Q E := h
      cases e2 : xs[j]? with
      | none => rw [e2] at h; exact h.elim
      | some y =>
        rw [e2] at h
        obtain ⟨q1, q2, q3, q4⟩ := ixN_seq e
        exact ⟨j, y, q1, by omega, by omega, e2, h⟩
  · rw [if_neg hl] at h
    exact h.elim
theorem wp_popL {xs : List b} {k : b × List b → M a} (h : wp (popL xs >>= k) Q E) : ∃ y, xs[xs.length - 1]? = some y ∧ wp (k (y, xs.dropLast)) Q E := by
  unfold popL at h
  cases e : xs[xs.length - 1]? with
  | none => rw [e] at h; exact h.elim
  | some y => rw [e] at h; exact ⟨y, rfl, h⟩
theorem wp_appL {xs : List b} {y : b} {k : List b → M a} (h : wp (appL xs y >>= k) Q E) : xs.length < sizeLine ∧ wp (k (xs ++ [y])) Q E := by
  unfold appL at h
  by_cases hl : xs.length < 16777216
  · rw [if_pos hl] at h
    exact ⟨lt_line hl, h⟩
  · rw [if_neg hl] at h
    exact h.elim
end
/-! loops, by what is left to be done -/
section
variable {i s r a c : Type} {Q : a → Prop} {E : String → Prop}
theorem loopN_L {b : i → s → M s} {xs : List i} {x : s} {k : s → M a} (h : wp (loopN b xs x >>= k) Q E) :
    ∃ L : List i → s → Prop, L xs x ∧ (∀ y ys x, L (y :: ys) x → wp (b y x) (fun x' => L ys x') E) ∧ ∀ x, L [] x → wp (k x) Q E := by
  refine ⟨fun ys x => wp (loopN b ys x >>= k) Q E, h, fun y ys x hx => ?_, fun x hx => hx⟩
  have hx : wp (loopN b (y :: ys) x >>= k) Q E := hx
  rw [wp_bind] at hx
  have hx : wp (b y x >>= fun x' => loopN b ys x') (fun x => wp (k x) Q E) E := hx
  rw [wp_bind] at hx
  cases e : b y x with
  | ok z =>
    rw [e] at hx
    exact wp_bind.mpr hx
  | error e2 =>
    rw [e] at hx
    cases e2 <;> exact hx
theorem loopM_L {b : i → s → M (Fl s r)} {xs : List i} {x : s} {k : Fl s r → M a} (h : wp (loopM b xs x >>= k) Q E) :
    ∃ L : List i → s → Prop, L xs x ∧ (∀ y ys x, L (y :: ys) x → wp (b y x) (fun f => match f with
      | .nx x' => L ys x'
      | .rt z => wp (k (.rt z)) Q E) E) ∧ ∀ x, L [] x → wp (k (.nx x)) Q E := by
  refine ⟨fun ys x => wp (loopM b ys x >>= k) Q E, h, fun y ys x hx => ?_, fun x hx => hx⟩
  have hx : wp (loopM b (y :: ys) x >>= k) Q E := hx
  rw [wp_bind] at hx
  cases e : b y x with
  | ok z =>
    have hx : wp (b y x >>= fun f => match f with
      | .nx x' => loopM b ys x'
      | .rt z => .ok (.rt z)) (fun x => wp (k x) Q E) E := hx
    rw [e] at hx
    cases z with
    | nx z => exact wp_bind.mpr hx
    | rt z => exact hx
  | error e2 =>
    have hx : wp (b y x >>= fun f => match f with
      | .nx x' => loopM b ys x'
      | .rt z => .ok (.rt z)) (fun x => wp (k x) Q E) E := hx
    rw [e] at hx
    cases e2 <;> exact hx
theorem whileN_L {c : s → M Bool} {b : s → M s} {n : Nat} {x : s} {k : s → M a} (h : wp (whileN c b n x >>= k) Q E) :
    ∃ L : Nat → s → Prop, L n x ∧ ∀ m x, L m x → wp (c x) (fun t => if t = true then ∃ m', m' < m ∧ wp (b x) (fun x' => L m' x') E else wp (k x) Q E) E := by
  refine ⟨fun n x => wp (whileN c b n x >>= k) Q E, h, fun m x hx => ?_⟩
  cases m with
  | zero => exact hx.elim
  | succ m =>
    have hx : wp ((c x >>= fun t => if t = true then b x >>= fun x' => whileN c b m x' else .ok x) >>= k) Q E := hx
    rw [wp_bind, wp_bind] at hx
    cases e : c x with
    | error e2 => rw [e] at hx; cases e2 <;> exact hx
    | ok t =>
      rw [e] at hx
      cases t with
      | false => exact hx
      | true =>
        refine ⟨m, Nat.lt_succ_self m, ?_⟩
        have hx : wp (b x >>= fun x' => whileN c b m x') (fun x => wp (k x) Q E) E := hx
        rw [wp_bind] at hx
        cases e : b x with
        | error e2 => rw [e] at hx; cases e2 <;> exact hx
        | ok z =>
          rw [e] at hx
          exact wp_bind.mpr hx
theorem whileM_L {c : s → M Bool} {b : s → M (Fl s r)} {n : Nat} {x : s} {k : Fl s r → M a} (h : wp (whileM c b n x >>= k) Q E) :
    ∃ L : Nat → s → Prop, L n x ∧ ∀ m x, L m x → wp (c x) (fun t => if t = true then ∃ m', m' < m ∧ wp (b x) (fun f => match f with
      | .nx x' => L m' x'
      | .rt z => wp (k (.rt z)) Q E) E else wp (k (.nx x)) Q E) E := by
  refine ⟨fun n x => wp (whileM c b n x >>= k) Q E, h, fun m x hx => ?_⟩
  cases m with
  | zero => exact hx.elim
  | succ m =>
    have hx : wp ((c x >>= fun t => if t = true then b x >>= fun
      | .nx x' => whileM c b m x'
      | .rt z => .ok (.rt z)
    else .ok (.nx x)) >>= k) Q E := hx
    rw [wp_bind, wp_bind] at hx
    cases e : c x with
    | error e2 => rw [e] at hx; cases e2 <;> exact hx
    | ok t =>
      rw [e] at hx
      cases t with
      | false => exact hx
      | true =>
        refine ⟨m, Nat.lt_succ_self m, ?_⟩
        have hx : wp (b x >>= fun
          | .nx x' => whileM c b m x'
          | .rt z => .ok (.rt z)) (fun x => wp (k x) Q E) E := hx
        rw [wp_bind] at hx
        cases e : b x with
        | error e2 => rw [e] at hx; cases e2 <;> exact hx
        | ok z =>
          rw [e] at hx
          cases z with
          | nx z => exact wp_bind.mpr hx
          | rt z => exact hx
/-- a comprehension: what it has made so far, then the items left; no exception leaves it -/
def compX (b : i → s → M (Option c × s)) : List i → List c → s → M (List c × s)
  | [], acc, x => .ok (acc, x)
  | y :: ys, acc, x => nox (b y x) >>= fun p => compX b ys (match p.1 with
    | some z => acc ++ [z]
    | none => acc) p.2
/-- the list is short enough -/
def compS (b : i → s → M (Option c × s)) (xs : List i) (x : s) : M (List c × s) := chk (xs.length < 16777216) >>= fun _ => compX b xs [] x
theorem compX_L {b : i → s → M (Option c × s)} {k : List c × s → M a} : ∀ {xs : List i} {acc : List c} {x : s}, wp (compX b xs acc x >>= k) Q E →
    ∃ L : List i → List c → s → Prop, L xs acc x ∧ (∀ y ys acc x, L (y :: ys) acc x → wp (b y x) (fun p => L ys (match p.1 with
      | some z => acc ++ [z]
      | none => acc) p.2) (fun _ => False)) ∧ ∀ acc x, L [] acc x → wp (k (acc, x)) Q E := by
  intro xs acc x h
  refine ⟨fun ys acc x => wp (compX b ys acc x >>= k) Q E, h, fun y ys acc x hx => ?_, fun acc x hx => hx⟩
  have hx : wp ((nox (b y x) >>= fun p => compX b ys (match p.1 with
    | some z => acc ++ [z]
    | none => acc) p.2) >>= k) Q E := hx
  rw [wp_bind] at hx
  obtain ⟨p, e, hx⟩ := wp_nox hx
  rw [e]
  exact wp_bind.mpr hx
theorem compS_L {b : i → s → M (Option c × s)} {k : List c × s → M a} {xs : List i} {x : s} (h : wp (compS b xs x >>= k) Q E) : xs.length < 16777216 ∧
    ∃ L : List i → List c → s → Prop, L xs [] x ∧ (∀ y ys acc x, L (y :: ys) acc x → wp (b y x) (fun p => L ys (match p.1 with
      | some z => acc ++ [z]
      | none => acc) p.2) (fun _ => False)) ∧ ∀ acc x, L [] acc x → wp (k (acc, x)) Q E := by
  unfold compS at h
  rw [wp_bind] at h
  obtain ⟨h1, h2⟩ := wp_chk h
  exact ⟨h1, compX_L (wp_bind.mpr h2)⟩
end
theorem drop_at {a : Type} {xs : List a} {i : Nat} {x : a} (h : xs[i]? = some x) : xs.drop i = x :: xs.drop (i + 1) := by
  obtain ⟨h1, h2⟩ := List.getElem?_eq_some_iff.mp h
  rw [List.drop_eq_getElem_cons h1, h2]
theorem drop_end {a : Type} {xs : List a} {vs : List V} (h : vs.length = xs.length) : xs.drop vs.length = [] := by
  rw [h, List.drop_length]

/-! ### a def as it stands -/
structure Df (K : PySem.W.Frag) (mg : Str → Option Value) (x qual : Str) (st : Stmt) (ps : List Str) : Prop where
  ex : ∃ f fd, Fun K x qual st f fd ∧ mg x = some (.ref f) ∧ Binds K fd ps []
structure Ca (P : Program) (w : World) (K : PySem.W.Frag) (mg : Str → Option Value) (base : Heap) (x : Str) (k : Nat) (ps : List Str) (sp : Sp) : Prop where
  ex : ∃ f fd, FnOk P w K mg base (L2.CX P w) k f fd ps sp ∧ mg x = some (.ref f) ∧ PySem.W.keepIn K (.ref f) = true ∧ Binds K fd ps []
/-- an exception class of the program -/
structure Xc (K : PySem.W.Frag) (mg : Str → Option Value) (x : Str) (C : Addr) : Prop where
  g : mg x = some (.ref C)
  x : PySem.W.excIn K C [.type "ValueError", .type "Exception", .type "BaseException", .type "object"] "ValueError.__new__" = true
  k : PySem.W.keepIn K (.ref C) = true
  b : PySem.W.subIn K (.ref C) (.type "BaseException") = some true
  t : PySem.W.typeIn K (.ref C) = some (.type "type")
section
variable {P : Program} {w : World} {K : PySem.W.Frag} {mg : Str → Option Value} {base : Heap}
theorem Ca.mk' {x qual : Str} {st : Stmt} {N ps : List Str} {k : Nat} {sp : Sp} (D : Df K mg x qual st ps) (S : FnScope N ps (defScope st)) (len : ∀ vs H Q E, sp vs H Q E → vs.length = ps.length)
    (hbody : ∀ (qual' : Str) (f : Addr) (cdv : Value) (A : Around) (outer : List Env) (s : Shared) (H : Hp) (vs : List V) (Q : VK) (E : XK), Room k (A.deeper (envOfC qual (defScope st) s.heap.objs.size f cdv)) → sp vs H Q E →
      ∃ t, PSs (cxOf (L2.CX P w) P w K mg base N qual (defScope st) f cdv A outer s H E) (defBody st) t ∧ t { nx := fun _ H' => Q .non H', rt := Q } (start N vs) H) : Ca P w K mg base x (k + 1) ps sp := by
  obtain ⟨f, fd, F, m, b⟩ := D.ex
  exact ⟨f, fd, F.okX S len fun cdv A outer s H vs Q E hr h => hbody qual f cdv A outer s H vs Q E hr h, m, F.kp, b⟩
end
section
variable {X : Cx}
/-- len of a list or tuple -/
def rLenT : List V → Hp → VK → Prop := fun vs H Q => ∃ (l : Addr) (ws : List V) (n : Nat), vs = [.ref l] ∧ (H l = some (.lst ws) ∨ H l = some (.tup ws)) ∧ ws.length = n ∧ Q (.int n) H
theorem call_lenT : CallR X (.builtin "len") rLenT := by
  intro pins s σ H vs us Q I r h
  obtain ⟨l, ws, n, e, hl, rfl, k⟩ := h
  refine call_len_seq pins s σ H vs us Q I r ⟨l, ws, e, ?_, k⟩
  rcases hl with hl | hl
  · exact .inl (SqL.of hl)
  · exact .inr (SqT.of hl)
end

section
variable {Z : Ent} {F F' H H' : Hp} {cs : List (Addr × HO)} {p a : Addr} {o o' : HO}
theorem Ow.putE (O : Ow Z F cs H) (h : H p = none) (o : HO) : ∃ F', Ow Z F' cs (upd H p o) ∧ Same F F' ∧ F' p = some o := ⟨_, O.put h, O.putS h, upd_same⟩
theorem Ow.was (O : Ow Z F cs H) (h : H p = none) : Z.H p = none := by
  cases q : Z.H p with
  | none => rfl
  | some u => exact absurd h (O.g.t p (by rw [q]; simp))
theorem Ow.frzE (O : Ow Z F cs H) (i : Nat) (e : cs[i]? = some (a, o)) (hz : Z.H a = none) : ∃ F', Ow Z F' (cs.eraseIdx i) H ∧ Same F F' ∧ F' a = some o := ⟨_, O.frz i e hz, O.frzS i e, upd_same⟩
/-- a cell that a call made -/
theorem Ow.got (O : Ow Z F cs H) (O' : Ow Z F' cs' H') (hk : cs'.map (·.1) = cs.map (·.1)) (hn : H p = none) (hf : F' p = none) (h : H' p = some o) (ht : noTup o = true := by rfl) : Ow Z F' ((p, o) :: cs') H' :=
  O'.add O (fun c hc => by rw [← hk]; exact List.mem_map.mpr ⟨c, hc, rfl⟩) hn hf h ht
end
theorem rangeL_get0 {n : Int} {i : Nat} (h : i < n.toNat) : (rangeL 0 n).drop i = (0 + (i : Int)) :: (rangeL 0 n).drop (i + 1) := rangeL_get (by simpa using h)
theorem rangeL_end0 {n : Int} : (rangeL 0 n).drop n.toNat = [] := by
  have := rangeL_end (lo := 0) (hi := n)
  simpa using this
theorem iteD {c A B : Prop} [Decidable c] (h1 : c → A) (h2 : ¬ c → B) : if decide c = true then A else B := by
  by_cases h : c
  · rw [decide_eq_true h, if_pos rfl]; exact h1 h
  · rw [decide_eq_false h, if_neg Bool.false_ne_true]; exact h2 h
theorem iteN {c A B : Prop} [Decidable c] (h1 : c → B) (h2 : ¬ c → A) : if (!decide c) = true then A else B := by
  by_cases h : c
  · rw [decide_eq_true h]; exact h1 h
  · rw [decide_eq_false h]; exact h2 h
theorem iteB {b : Bool} {A B : Prop} (h1 : b = true → A) (h2 : ¬ b = true → B) : if b = true then A else B := by
  cases b with
  | true => exact h1 rfl
  | false => exact h2 Bool.false_ne_true
theorem iteBN {b : Bool} {A B : Prop} (h1 : b = true → B) (h2 : ¬ b = true → A) : if (!b) = true then A else B := by
  cases b with
  | true => exact h1 rfl
  | false => exact h2 Bool.false_ne_true
theorem iteNT {A B : Prop} (h : B) : if (!true) = true then A else B := h
theorem iteNF {A B : Prop} (h : A) : if (!false) = true then A else B := h
theorem wp_if {a : Type} {Q : a → Prop} {E : String → Prop} {c : Prop} [Decidable c] {x y : M a} (h : wp (if c then x else y) Q E) (hc : c) : wp x Q E := by
  rw [if_pos hc] at h
  exact h
theorem wp_el {a : Type} {Q : a → Prop} {E : String → Prop} {c : Prop} [Decidable c] {x y : M a} (h : wp (if c then x else y) Q E) (hc : ¬ c) : wp y Q E := by
  rw [if_neg hc] at h
  exact h

theorem hu128_of {A : Around} {k : Nat} (hr : Room k A) : A.units + 128 < cLine := by have := hr.un; omega
def cutL {a : Type} (xs : List a) (lo hi : Option Int) : List a := (xs.drop (HT.sIx xs.length 0 lo)).take (HT.sIx xs.length xs.length hi - HT.sIx xs.length 0 lo)
theorem RL.cutL {a : Type} [Py a] {H : Hp} {vs : List V} {xs : List a} (h : RL H vs xs) (lo hi : Option Int) : RL H (cutV vs lo hi) (PG.cutL xs lo hi) := h.cut lo hi
theorem RL.last {a : Type} [Py a] {H : Hp} {vs : List V} {xs : List a} {y : a} (h : RL H vs xs) (e : xs[xs.length - 1]? = some y) : ∃ w, vs[vs.length - 1]? = some w ∧ R H w y := by
  obtain ⟨w, e1, h1⟩ := h.get e
  exact ⟨w, by rw [h.len]; exact e1, h1⟩

theorem okR.rg1 {n : Int} (h : okR n) : RgOk 0 n := by
  obtain ⟨a, b⟩ := h
  exact ⟨by omega, by omega, by omega, by omega, by omega⟩
theorem rgV_eq (a b : Int) : rgV a b = (rangeL a b).map V.int := by
  unfold rgV rangeL
  rw [List.map_map]
  rfl
theorem RL.rg {H : Hp} {a b : Int} : RL H (rgV a b) (rangeL a b) := by
  rw [rgV_eq]
  exact RL.of_ints

theorem comp_len {b : Type} {w vs : List V} {xs : List b} {i : Nat} {x : V} (la : w.length ≤ i) (hi : vs[i]? = some x) (hl : vs.length = xs.length) (c : xs.length < 16777216) : w.length < sizeLine := by
  have := (List.getElem?_eq_some_iff.mp hi).1
  exact lt_line (by omega)
theorem rangeL_length (lo hi : Int) : (rangeL lo hi).length = (hi - lo).toNat := by
  unfold rangeL
  simp
theorem comp_lenR {w : List V} {lo hi : Int} {i n : Nat} (la : w.length ≤ i) (h : i < n) (e : (hi - lo).toNat = n) (c : (rangeL lo hi).length < 16777216) : w.length < sizeLine := by
  rw [rangeL_length] at c
  exact lt_line (by omega)
theorem tYes_ {σ : L2.St} {H : Hp} {Q : Bool → Hp → Prop} (h : Q true H) : tYes σ H Q := h

/-! lists of own lists of ints -/
abbrev LC := Addr × List Int
def lcell (c : LC) : Addr × HO := (c.1, .lst (c.2.map V.int))
theorem Ow.perm {Z : Ent} {F H : Hp} {cs cs' : List (Addr × HO)} (O : Ow Z F cs H) (h : cs.Perm cs') : Ow Z F cs' H where
  g := O.g
  cf := fun c hc => O.cf c (h.mem_iff.mpr hc)
  ch := fun c hc => O.ch c (h.mem_iff.mpr hc)
  nd := (h.map _).nodup_iff.mp O.nd
  ca := fun c hc => O.ca c (h.mem_iff.mpr hc)
  nt := fun c hc => O.nt c (h.mem_iff.mpr hc)
theorem Ow.sub {Z : Ent} {F H : Hp} {cs cs' : List (Addr × HO)} (O : Ow Z F cs H) (h : cs'.Sublist cs) : Ow Z F cs' H where
  g := O.g
  cf := fun c hc => O.cf c (h.subset hc)
  ch := fun c hc => O.ch c (h.subset hc)
  nd := O.nd.sublist (h.map _)
  ca := fun c hc => O.ca c (h.subset hc)
  nt := fun c hc => O.nt c (h.subset hc)
/-- a new list of new lists -/
structure OwnLL (H F' H' : Hp) (p : Addr) (ps : List LC) : Prop where
  pn : H p = none
  pf : F' p = none
  ph : H' p = some (.lst (ps.map fun c => V.ref c.1))
  qn : ∀ c ∈ ps, H c.1 = none
  qf : ∀ c ∈ ps, F' c.1 = none
  qh : ∀ c ∈ ps, H' c.1 = some (.lst (c.2.map V.int))
  nd : (p :: ps.map (·.1)).Nodup
theorem OwnLL.frz {F H F' H' : Hp} {p : Addr} {ps : List LC} {as : List Addr} (G : Gr as F H F' H') (L : OwnLL H F' H' p ps) :
    ∃ F2, Gr as F H F2 H' ∧ F2 p = none ∧ RL F2 (ps.map fun c => V.ref c.1) (ps.map (·.2)) := by
  refine ⟨fun b => if b ∈ ps.map (·.1) then H' b else F' b, ⟨fun b o e => ?_, fun b o e => ?_, G.k, G.t, fun b e => ?_, G.u⟩, ?_, ?_⟩
  · have h1 := G.f b o e
    by_cases hb : b ∈ ps.map (·.1)
    · obtain ⟨c, hc, rfl⟩ := List.mem_map.mp hb
      rw [L.qf c hc] at h1
      cases h1
    · show (if b ∈ ps.map (·.1) then H' b else F' b) = some o
      rw [if_neg hb]
      exact h1
  · have e : (if b ∈ ps.map (·.1) then H' b else F' b) = some o := e
    by_cases hb : b ∈ ps.map (·.1)
    · rw [if_pos hb] at e
      exact e
    · rw [if_neg hb] at e
      exact G.s b o e
  · show (if b ∈ ps.map (·.1) then H' b else F' b) = F b ∨ _
    have hb : b ∉ ps.map (·.1) := fun hb => by
      obtain ⟨c, hc, rfl⟩ := List.mem_map.mp hb
      exact e (L.qn c hc)
    rw [if_neg hb]
    exact G.n b e
  · show (if p ∈ ps.map (·.1) then H' p else F' p) = none
    rw [if_neg (List.nodup_cons.mp L.nd).1]
    exact L.pf
  · have all : ∀ l : List LC, (∀ c ∈ l, c ∈ ps) → RL (fun b => if b ∈ ps.map (·.1) then H' b else F' b) (l.map fun c => V.ref c.1) (l.map (·.2)) := by
      intro l
      induction l with
      | nil => intro _; exact RL.nil
      | cons c l ih =>
        intro h
        have hc := h c List.mem_cons_self
        refine RL.cons (R.lst (vs := c.2.map V.int) ?_ RL.of_ints) (ih fun d hd => h d (List.mem_cons_of_mem _ hd))
        show (if c.1 ∈ ps.map (·.1) then H' c.1 else F' c.1) = _
        rw [if_pos (List.mem_map.mpr ⟨c, hc, rfl⟩)]
        exact L.qh c hc
    exact all ps fun _ h => h
theorem FnOk.impC {P : Program} {w : World} {K : PySem.W.Frag} {mg : Str → Option Value} {base : Heap} {x : Str} {k : Nat} {ps : List Str} {sp sp' : Sp} (F : Ca P w K mg base x k ps sp) (h : ∀ vs H Q E, sp' vs H Q E → sp vs H Q E) : Ca P w K mg base x k ps sp' := by
  obtain ⟨f, fd, G, m, kp, b⟩ := F.ex
  exact ⟨f, fd, G.imp h, m, kp, b⟩
theorem wp_mono {a : Type} {Q Q' : a → Prop} {E : String → Prop} {m : M a} (h : wp m Q E) (f : ∀ r, Q r → Q' r) : wp m Q' E := wp_tail h (fun r _ q => f r q) fun _ e => e
/-- a scalar call that reads a cell: the cell is as it was, and nothing of the call is kept -/
theorem Ow.borrow {Z : Ent} {F F1 F' H H' : Hp} {cs : List (Addr × HO)} (O : Ow Z F cs H) (s1 : Same F F1) (g : Gr [] F1 H F' H') : Ow Z F cs H' where
  g := ⟨O.g.f, (s1.trans g.f).trans g.s, fun b o hb e => g.k b o (fun h => nomatch h) (O.g.k b o hb e), fun b e => g.t b (O.g.t b e), O.g.n, fun b xs e => by
    rcases g.u b xs e with z | z
    · refine .inl ?_
      cases q : Z.H b with
      | none => rfl
      | some u => exact absurd z (O.g.t b (by rw [q]; simp))
    · exact O.g.u b xs z⟩
  cf := O.cf
  ch := fun c hc => g.k _ _ (fun h => nomatch h) (O.ch c hc)
  nd := O.nd
  ca := O.ca
  nt := O.nt
theorem Ow.lend {Z : Ent} {F H : Hp} {cs : List (Addr × HO)} {a : Addr} {o : HO} (O : Ow Z F cs H) (i : Nat) (e : cs[i]? = some (a, o)) : ∃ F1, Same F F1 ∧ Pre F1 [] H ∧ F1 a = some o := by
  have m := List.mem_of_getElem? e
  refine ⟨upd F a o, Same.new (O.cf _ m), ⟨fun b u q => ?_, (fun _ h => nomatch h), (fun _ h => nomatch h), List.nodup_nil, fun _ h => nomatch h⟩, upd_same⟩
  by_cases hb : b = a
  · subst hb; rw [upd_same] at q; rw [← q]; exact O.ch _ m
  · rw [upd_ne hb] at q; exact O.s b u q

abbrev lrefs (ps : List LC) : List V := ps.map fun (c : LC) => V.ref c.1

def ret {a : Type} (x : a) : M a := .ok x
theorem wp_ret {a b : Type} {Q : a → Prop} {E : String → Prop} {x : b} {k : b → M a} (h : wp (ret x >>= k) Q E) : ∃ y, y = x ∧ wp (k y) Q E := ⟨x, rfl, h⟩

/-- tuples that stand may be read -/
theorem Ow.tups {Z : Ent} {F H : Hp} {cs : List (Addr × HO)} (O : Ow Z F cs H) (bs : List Addr) (h : ∀ b ∈ bs, ∃ xs, H b = some (.tup xs)) : ∃ F', Ow Z F' cs H ∧ Same F F' ∧ ∀ b ∈ bs, F' b = H b := by
  refine ⟨fun b => if b ∈ bs then H b else F b, ⟨⟨fun b o e => ?_, fun b o e => ?_, O.g.k, O.g.t, fun b e => ?_, O.g.u⟩, fun c hc => ?_, O.ch, O.nd, O.ca, O.nt⟩, fun b o e => ?_, fun b hb => if_pos hb⟩
  · have h1 := O.g.f b o e
    show (if b ∈ bs then H b else F b) = some o
    by_cases hb : b ∈ bs
    · rw [if_pos hb]; exact O.s b o h1
    · rw [if_neg hb]; exact h1
  · have e : (if b ∈ bs then H b else F b) = some o := e
    by_cases hb : b ∈ bs
    · rw [if_pos hb] at e; exact e
    · rw [if_neg hb] at e; exact O.s b o e
  · show (if b ∈ bs then H b else F b) = Z.F b ∨ _
    by_cases hb : b ∈ bs
    · obtain ⟨xs, hx⟩ := h b hb
      rcases O.g.u b xs hx with z | z
      · exact absurd z e
      · exact .inr ⟨xs, z⟩
    · rw [if_neg hb]; exact O.g.n b e
  · show (if c.1 ∈ bs then H c.1 else F c.1) = none
    by_cases hb : c.1 ∈ bs
    · obtain ⟨xs, hx⟩ := h c.1 hb
      have hn := O.nt c hc
      rw [O.ch c hc] at hx
      rw [Option.some.inj hx] at hn
      cases hn
    · rw [if_neg hb]; exact O.cf c hc
  · show (if b ∈ bs then H b else F b) = some o
    by_cases hb : b ∈ bs
    · rw [if_pos hb]; exact O.s b o e
    · rw [if_neg hb]; exact e
end PG

set_option Elab.async false
set_option linter.all false
set_option maxRecDepth 100000
set_option maxHeartbeats 4000000
namespace PG
open PySem PySem.Spec PyProof.Rows L2
open PySem.W (T3 T4 Datum DatumOrd Holds HoldAll EachIs)

theorem u1_of {n : Nat} (h : n + 64 < cLine) : n + 1 < cLine := Nat.lt_of_le_of_lt (Nat.add_le_add_left (by decide) _) h
/-! ### dicts: what stands for a key -/
class DK (κ : Type) (K' : outParam Type) where
  kk : κ → K'
  inj : ∀ a b, kk a = kk b → a = b
instance : DK Int Key := ⟨Sum.inl, fun _ _ h => Sum.inl.inj h⟩
instance : DK Str Key := ⟨Sum.inr, fun _ _ h => Sum.inr.inj h⟩
instance : DK (Int × Int) (List Key) := ⟨fun p => [.inl p.1, .inl p.2], fun a b h => by
  injection h with h1 h2
  injection h2 with h2 _
  exact Prod.ext (Sum.inl.inj h1) (Sum.inl.inj h2)⟩
section
variable {κ K' β : Type} [DK κ K'] [Py β]
inductive RD (F : Hp) : List (K' × V) → List (κ × β) → Prop
  | nil : RD F [] []
  | cons {k : κ} {v : V} {y : β} {kvs : List (K' × V)} {xs : List (κ × β)} : R F v y → RD F kvs xs → RD F ((DK.kk k, v) :: kvs) ((k, y) :: xs)
variable {F F' : Hp}
theorem RD.mono {kvs : List (K' × V)} {xs : List (κ × β)} (h : RD F kvs xs) (s : Same F F') : RD F' kvs xs := by
  induction h with
  | nil => exact .nil
  | cons h _ ih => exact .cons (h.mono s) ih
theorem RD.len {kvs : List (K' × V)} {xs : List (κ × β)} (h : RD F kvs xs) : kvs.length = xs.length := by
  induction h with
  | nil => rfl
  | cons h _ ih => rw [List.length_cons, List.length_cons, ih]
theorem RD.keys {kvs : List (K' × V)} {xs : List (κ × β)} (h : RD F kvs xs) : kvs.map (·.1) = (xs.map (·.1)).map DK.kk := by
  induction h with
  | nil => rfl
  | cons h _ ih => rw [List.map_cons, List.map_cons, List.map_cons, ih]
end
section
variable {κ K' β : Type} [DK κ K'] [DecidableEq κ] [DecidableEq K'] [Py β] {F F' : Hp}
def dGet (xs : List (κ × β)) (k : κ) : Option β := (xs.find? fun p => decide (p.1 = k)).map (·.2)
def dPut (xs : List (κ × β)) (k : κ) (y : β) : List (κ × β) :=
  if (xs.any fun p => decide (p.1 = k)) = true then xs.map (fun p => if p.1 = k then (p.1, y) else p) else xs ++ [(k, y)]
def dHas (xs : List (κ × β)) (k : κ) : Bool := (dGet xs k).isSome
theorem kk_dec {a b : κ} : decide ((DK.kk a : K') = DK.kk b) = decide (a = b) := by
  by_cases h : a = b
  · subst h; simp
  · rw [decide_eq_false h, decide_eq_false fun z => h (DK.inj a b z)]
theorem dGet_pos {p : κ × β} {r : List (κ × β)} {k : κ} (e : p.1 = k) : dGet (p :: r) k = some p.2 := by simp [dGet, List.find?_cons, e]
theorem dGet_neg {p : κ × β} {r : List (κ × β)} {k : κ} (e : ¬ p.1 = k) : dGet (p :: r) k = dGet r k := by simp [dGet, List.find?_cons, e]
theorem RD.get {kvs : List (K' × V)} {xs : List (κ × β)} (h : RD F kvs xs) (k : κ) :
    (dGet xs k = none ∧ valV kvs (DK.kk k) = none) ∨ ∃ y v, dGet xs k = some y ∧ valV kvs (DK.kk k) = some v ∧ R F v y := by
  induction h with
  | nil => exact .inl ⟨rfl, rfl⟩
  | @cons j v y kvs xs h hs ih =>
    by_cases e : j = k
    · exact .inr ⟨y, v, dGet_pos e, valV_pos (by rw [e]), h⟩
    · rw [dGet_neg (p := (j, y)) e, valV_neg (fun z => e (DK.inj j k z))]
      exact ih
theorem RD.some {kvs : List (K' × V)} {xs : List (κ × β)} (h : RD F kvs xs) {k : κ} {y : β} (e : dGet xs k = some y) : ∃ v, valV kvs (DK.kk k) = some v ∧ R F v y := by
  rcases h.get k with ⟨a, _⟩ | ⟨y', v, a, b, c⟩
  · rw [e] at a; cases a
  · rw [e] at a; cases a; exact ⟨v, b, c⟩
theorem RD.is {kvs : List (K' × V)} {xs : List (κ × β)} (h : RD F kvs xs) (k : κ) : (valV kvs (DK.kk k)).isSome = dHas xs k := by
  unfold dHas
  rcases h.get k with ⟨a, b⟩ | ⟨y', v, a, b, c⟩
  · rw [a, b]; rfl
  · rw [a, b]; rfl
theorem RD.map {kvs : List (K' × V)} {xs : List (κ × β)} (h : RD F kvs xs) (k : κ) {v : V} {y : β} (hv : R F v y) :
    RD F (kvs.map fun kv => if kv.1 = DK.kk k then (kv.1, v) else kv) (xs.map fun p => if p.1 = k then (p.1, y) else p) := by
  induction h with
  | nil => exact .nil
  | @cons j u z kvs xs h hs ih =>
    rw [List.map_cons, List.map_cons]
    by_cases e : j = k
    · rw [if_pos e, if_pos (show (DK.kk j, u).1 = DK.kk k by rw [e])]
      exact .cons hv ih
    · rw [if_neg e, if_neg (show ¬ (DK.kk j, u).1 = DK.kk k from fun z => e (DK.inj j k z))]
      exact .cons h ih
theorem RD.snoc {kvs : List (K' × V)} {xs : List (κ × β)} (h : RD F kvs xs) (k : κ) {v : V} {y : β} (hv : R F v y) : RD F (kvs ++ [(DK.kk k, v)]) (xs ++ [(k, y)]) := by
  induction h with
  | nil => exact .cons hv .nil
  | cons h _ ih => exact .cons h ih
theorem RD.any {kvs : List (K' × V)} {xs : List (κ × β)} (h : RD F kvs xs) (k : κ) : (kvs.any fun kv => decide (kv.1 = DK.kk k)) = (xs.any fun p => decide (p.1 = k)) := by
  induction h with
  | nil => rfl
  | @cons j u z kvs xs h hs ih => rw [List.any_cons, List.any_cons, ih, kk_dec]
theorem RD.put {kvs : List (K' × V)} {xs : List (κ × β)} (h : RD F kvs xs) (k : κ) {v : V} {y : β} (hv : R F v y) : RD F (putK kvs (DK.kk k) v) (dPut xs k y) := by
  unfold putK dPut
  rw [h.any k]
  by_cases e : (xs.any fun p => decide (p.1 = k)) = true
  · rw [if_pos e, if_pos e]; exact h.map k hv
  · rw [if_neg e, if_neg e]; exact h.snoc k hv
def putD (xs : List (κ × β)) (k : κ) (y : β) : M (List (κ × β)) := if xs.length < 16777216 then .ok (dPut xs k y) else bad
theorem wp_putD {a : Type} {Q : a → Prop} {E : String → Prop} {xs : List (κ × β)} {j : κ} {y : β} {k : List (κ × β) → M a} (h : wp (putD xs j y >>= k) Q E) : xs.length < sizeLine ∧ wp (k (dPut xs j y)) Q E := by
  unfold putD at h
  by_cases hl : xs.length < 16777216
  · rw [if_pos hl] at h
    exact ⟨lt_line hl, h⟩
  · rw [if_neg hl] at h
    exact h.elim
end
/-- a dict that is read alone -/
class DO (K' : Type) where
  ho : List (K' × V) → HO
instance : DO Key := ⟨.dK⟩
instance : DO (List Key) := ⟨.dT⟩
section
variable {κ K' β : Type} [DK κ K'] [Py β] [DO K'] {F F' H : Hp} {v : V} {a b : Addr}
def RDv (F : Hp) (v : V) (xs : List (κ × β)) : Prop := ∃ (a : Addr) (kvs : List (K' × V)), v = .ref a ∧ F a = some (DO.ho kvs) ∧ RD F kvs xs
theorem RDv.mono {xs : List (κ × β)} (h : RDv F v xs) (s : Same F F') : RDv F' v xs := by
  obtain ⟨a, kvs, e, h1, h2⟩ := h
  exact ⟨a, kvs, e, s _ _ h1, h2.mono s⟩
theorem RDv.mk {xs : List (κ × β)} {kvs : List (K' × V)} (h : F a = some (DO.ho kvs)) (hr : RD F kvs xs) : RDv F (.ref a) xs := ⟨a, kvs, rfl, h, hr⟩
end
section
variable {β : Type} [Py β] {F H : Hp} {a b : Addr}
theorem dget_T {kvs : List (List Key × V)} {i j : Int} {v : V} (e : H a = some (.dT kvs)) (eb : H b = some (.tup [.int i, .int j])) (hv : valV kvs (DK.kk (i, j)) = some v) : DGet H a (.ref b) (some v) := by
  rw [← hv]
  exact DGet.t (k := [.inl i, .inl j]) e eb
theorem dget_I {kvs : List (Key × V)} {i : Int} {v : V} (e : H a = some (.dK kvs)) (hv : valV kvs (DK.kk i) = some v) : DGet H a (.int i) (some v) := by
  rw [← hv]
  exact DGet.k (k := .inl i) e
theorem dget_S {kvs : List (Key × V)} {i : Str} {v : V} (e : H a = some (.dK kvs)) (hv : valV kvs (DK.kk i) = some v) : DGet H a (.str i) (some v) := by
  rw [← hv]
  exact DGet.k (k := .inr i) e
theorem din_T {kvs : List (List Key × V)} {i j : Int} {xs : List ((Int × Int) × β)} (e : H a = some (.dT kvs)) (eb : H b = some (.tup [.int i, .int j])) (hr : RD F kvs xs) : ∃ o, DGet H a (.ref b) o ∧ o.isSome = dHas xs (i, j) :=
  ⟨_, DGet.t (k := [.inl i, .inl j]) e eb, hr.is (i, j)⟩
theorem din_I {kvs : List (Key × V)} {i : Int} {xs : List (Int × β)} (e : H a = some (.dK kvs)) (hr : RD F kvs xs) : ∃ o, DGet H a (.int i) o ∧ o.isSome = dHas xs i :=
  ⟨_, DGet.k (k := .inl i) e, hr.is i⟩
theorem din_S {kvs : List (Key × V)} {i : Str} {xs : List (Str × β)} (e : H a = some (.dK kvs)) (hr : RD F kvs xs) : ∃ o, DGet H a (.str i) o ∧ o.isSome = dHas xs i :=
  ⟨_, DGet.k (k := .inr i) e, hr.is i⟩
theorem dput_T {kvs : List (List Key × V)} {i j : Int} {v : V} (e : H a = some (.dT kvs)) (eb : H b = some (.tup [.int i, .int j])) (hl : kvs.length < sizeLine) : DPut H a (.ref b) v (upd H a (.dT (putK kvs (DK.kk (i, j)) v))) := DPut.t (k := [.inl i, .inl j]) e eb hl
theorem dput_I {kvs : List (Key × V)} {i : Int} {v : V} (e : H a = some (.dK kvs)) (hl : kvs.length < sizeLine) : DPut H a (.int i) v (upd H a (.dK (putK kvs (DK.kk i) v))) := DPut.k (k := .inl i) e hl
theorem dput_S {kvs : List (Key × V)} {i : Str} {v : V} (e : H a = some (.dK kvs)) (hl : kvs.length < sizeLine) : DPut H a (.str i) v (upd H a (.dK (putK kvs (DK.kk i) v))) := DPut.k (k := .inr i) e hl
end
/-! sorted(d), the keys pairs of whole numbers -/
theorem keys_tups {H : Hp} {kvs : List (List Key × V)} {bs : List Addr} (h : IsKeys H kvs bs) : ∀ b ∈ bs, ∃ xs, H b = some (.tup xs) := by
  unfold IsKeys at h
  induction h with
  | nil => intro b hb; simp at hb
  | cons h t ih =>
    intro c hc
    rcases List.mem_cons.mp hc with rfl | hc
    · exact ⟨_, h⟩
    · exact ih c hc
theorem keys_rl {H : Hp} {kvs : List (List Key × V)} {bs : List Addr} (h : IsKeys H kvs bs) : ∀ {ks : List (Int × Int)}, kvs.map (·.1) = ks.map DK.kk → RL H (bs.map V.ref) ks := by
  unfold IsKeys at h
  induction h with
  | nil =>
    intro ks e
    cases ks with
    | nil => exact RL.nil
    | cons k ks => simp at e
  | cons h t ih =>
    intro ks e
    cases ks with
    | nil => simp at e
    | cons k ks =>
      rw [List.map_cons, List.map_cons] at e
      injection e with e1 e2
      rw [e1] at h
      exact RL.cons (R.t2 h R.int R.int) (ih e2)
theorem keys_in {H F : Hp} {kvs : List (List Key × V)} {bs : List Addr} {ks : List (Int × Int)} (h : IsKeys H kvs bs) (hf : ∀ b ∈ bs, F b = H b) (e : kvs.map (·.1) = ks.map DK.kk) : RL F (bs.map V.ref) ks := by
  refine keys_rl ?_ e
  unfold IsKeys at h ⊢
  clear e
  induction h with
  | nil => exact .nil
  | @cons x b xs bs h t ih =>
    refine .cons ?_ (ih fun c hc => hf c (List.mem_cons_of_mem _ hc))
    rw [hf b List.mem_cons_self]
    exact h
section
variable {X : Cx}
theorem cr_sortedDT (hcalm : X.calm = true) (hu : X.A.units + 128 < cLine) : CallR X (.builtin "sorted") (fun xs H Q => ∃ (d : Addr) (kvs : List (List Key × V)) (ks : List (Int × Int)), xs = [.ref d] ∧ H d = some (.dT kvs) ∧ kvs.map (·.1) = ks.map DK.kk ∧
    ∀ (bs : List Addr) (p : Addr), IsKeys H kvs bs → H p = none → Q (.ref p) (upd H p (.lst (sortV (bs.map V.ref) ks)))) := by
  intro pins s σ H xs us Q I r q
  obtain ⟨d, kvs, ks', ex, hd, hks, q⟩ := q
  subst ex
  obtain ⟨u, eu, rx⟩ := vals1 r
  subst eu
  cases rx
  obtain ⟨z, hs, ks, pr, o, es, ep, ho, hx, hdt, he, hn⟩ := (show ObjOk X.prog X.w H s.heap d (.dT kvs) from I.hok d _ hd)
  have l1 : es.size = ks.length := size_of_entries he
  have l2 : kvs.length = ks.length := Paired.length pr
  refine Calls.call_function_entry PyProof.Rows.kind_sorted PyProof.Rows.plain_sorted PyProof.Rows.entry_sorted (PyProof.Rows.args_sorted1 _) ?_
  unfold Builtin.«sorted»
  refine wpAny_bind (m := checkCount "sorted" 1 1 _) (wpAny_pure ?_)
  refine wpAny_bind (PySem.W.kdu_collect (A := X.A.in1) (kdl_raw hs hx hdt) (I.ok.hd hcalm) ho (by omega) fun h' tk acc kp it => ?_)
  have ea : acc.toList = ks.map fun x => Value.ref x.2.1 := by
    have hl : acc.toList.length = ks.length := by rw [Array.length_toList, it.1]; exact l1
    apply List.ext_getElem?
    intro j
    rw [List.getElem?_map]
    cases hj : acc.toList[j]? with
    | none =>
      have h1 := List.getElem?_eq_none_iff.mp hj
      rw [List.getElem?_eq_none (by omega)]
      all_goals rfl
    | some v =>
      obtain ⟨en, hen, hv⟩ := it.2 j v (by rw [← Array.getElem?_toList]; exact hj)
      have qe := entry_at he j
      rw [hen] at qe
      cases hb : ks[j]? with
      | none =>
        rw [hb] at qe
        exact nomatch (show some en = none from qe)
      | some b =>
        rw [hb] at qe
        have e2 : en = entryOfKey (tupleKind (mixKind X.prog X.w)) b := Option.some.inj qe
        rw [hv, e2]
        all_goals rfl
  have eb : acc.toList = (ks.map fun (x : List Key × Addr × Value) => x.2.1).map Value.ref := by rw [ea, List.map_map]; all_goals rfl
  have rv : Vals ((ks.map fun (x : List Key × Addr × Value) => x.2.1).map V.ref) acc.toList := by rw [eb]; exact vals_refs _
  have hik : IsKeys H kvs (ks.map fun (x : List Key × Addr × Value) => x.2.1) := isKeys_of pr
  have hrl := keys_rl hik hks
  have hlen : ((ks.map fun (x : List Key × Addr × Value) => x.2.1).map V.ref).length = ks'.length := hrl.len
  have hal : acc.toList.length = ks.length := by rw [ea, List.length_map]
  have I1 : Inv X pins σ H { s with heap := h', toks := tk } := I.kept kp
  have hE := each_pairs hrl rv
  have hR : EachIs (fun u (p : V × (Int × Int)) => ∃ as, PySem.Reads h' u (Datum.toD p.2) as) acc.toList (((ks.map fun (x : List Key × Addr × Value) => x.2.1).map V.ref).zip ks') := each_imp (fun u p hp => hp.2.holds I1 hp.1) hE
  have hoL : (h'.push (seqObj "list" acc.toList.toArray 0)).get? h'.objs.size = some (seqObj "list" acc.toList.toArray 0) := Heap.get?_push_size _ rfl
  have hz : acc.toList.length ≤ sizeLine := by rw [hal]; omega
  refine wpAny_bind (wpAny_newList ?_ hz)
  show wpAny _ _ _ _ _ { s with heap := h'.push (seqObj "list" acc.toList.toArray 0), toks := tk }
  have er' : EachIs (fun v (p : V × (Int × Int)) => ∃ as, PySem.Reads (PySem.W.sortingHeap (h'.push (seqObj "list" acc.toList.toArray 0)) h'.objs.size acc.toList) v (Datum.toD p.2) as) acc.toList (((ks.map fun (x : List Key × Addr × Value) => x.2.1).map V.ref).zip ks') :=
    hR.mono fun _ _ ⟨as, r⟩ => ⟨as, PyProof.Rows.Reads.keeps (fun b o e => PySem.W.sortingHeap_old (Nat.ne_of_lt (Heap.lt_size e)) (Heap.get?_push_of_some _ e)) r⟩
  have hal2 : PySem.W.AllAlike ((((ks.map fun (x : List Key × Addr × Value) => x.2.1).map V.ref).zip ks').map fun p => Datum.toD p.2) := PySem.W.AllAlike.of fun p q => DatumOrd.alike p.2 q.2
  refine wpAny_bind (wpAny_holding (wpAny_call_entry PyProof.Rows.slot_list_sort ⟨_, hoL, rfl⟩ PyProof.Rows.entry_list_sort
    (PySem.W.list_sort_vals (κ := PySem.W.dataKind (PySem.W.sortingHeap (h'.push (seqObj "list" acc.toList.toArray 0)) h'.objs.size acc.toList) ((((ks.map fun (x : List Key × Addr × Value) => x.2.1).map V.ref).zip ks').map fun p => Datum.toD p.2)) (s := { s with heap := h'.push (seqObj "list" acc.toList.toArray 0), toks := tk }) hoL
      (PySem.W.SortsAt.data (s := { s with heap := PySem.W.sortingHeap (h'.push (seqObj "list" acc.toList.toArray 0)) h'.objs.size acc.toList, toks := tk }) (PySem.W.each_map (R := fun v d => ∃ as, PySem.Reads (PySem.W.sortingHeap (h'.push (seqObj "list" acc.toList.toArray 0)) h'.objs.size acc.toList) v d as) (fun (p : V × (Int × Int)) => Datum.toD p.2) er') hal2 ?_ ?_) hz ⟨_, rfl, ?_⟩)
    (PyProof.Rows.args_list_sort _)))
  · exact PySem.W.Sortable.tuples fun p => ⟨_, _, rfl⟩
  · intro dd hdd
    obtain ⟨p, _, rfl⟩ := List.mem_map.mp hdd
    have hdp : Datum.depth (Int × Int) ≤ 100 := by decide
    have := Datum.depth_le p.2
    have hA : X.A.in1.in1.units ≤ X.A.units + 2 := by simp [Around.in1]
    omega
  · have he2 := PySem.W.sortVals_data (R := fun (u : Value) (p : V × (Int × Int)) => RelV p.1 u ∧ R H p.1 p.2) (enc := fun p => Datum.toD p.2) false hE er' hal2
    rw [dataLe_T (fun p : V × (Int × Int) => p.2)] at he2
    obtain ⟨q1, q2⟩ := pairs_vals he2
    obtain ⟨e', he'⟩ := PyProof.Rows.sortedHeap_at (vs := acc.toList) (out := (PySem.W.sortVals (PySem.W.dataKind (PySem.W.sortingHeap (h'.push (seqObj "list" acc.toList.toArray 0)) h'.objs.size acc.toList) ((((ks.map fun (x : List Key × Addr × Value) => x.2.1).map V.ref).zip ks').map fun p => Datum.toD p.2)) false acc.toList acc.toList).toArray) hoL
    refine wpAny_pure ⟨_, rfl, .ref h'.objs.size, upd H h'.objs.size (.lst (sortV ((ks.map fun (x : List Key × Addr × Value) => x.2.1).map V.ref) ks')), I1.laid (t' := tk) (fun b u e => ?_) (Nat.le_refl _)
      (show ObjOk X.prog X.w _ _ _ (.lst _) from ⟨?_, _, e', q1, he'⟩), rfl, q _ _ hik (I1.hok.fresh (Nat.le_refl _))⟩
    · have hb : b < h'.objs.size := Heap.lt_size e
      rw [PyProof.Rows.sortedHeap_old (Nat.ne_of_lt hb) (by rw [size_push']; exact Nat.lt_succ_of_lt hb)]
      exact Heap.get?_push_of_some _ e
    · unfold sortV
      rw [List.length_map, List.length_mergeSort, List.length_zip, hlen, Nat.min_self, ← hlen, List.length_map, List.length_map]
      omega
end
end PG

set_option Elab.async false
set_option linter.all false
set_option maxRecDepth 100000
set_option maxHeartbeats 4000000
namespace PG
open PySem PySem.Spec PyProof.Rows L2
open PySem.W (T3 T4 Datum DatumOrd Holds HoldAll EachIs)

/-! ### a list of two things of two kinds -/
structure HL2 (a b : Type) where
  a : a
  b : b
  deriving DecidableEq
theorem HL2.same {a b : Type} : ∀ {p q : HL2 a b}, p.a = q.a → p.b = q.b → p = q
  | ⟨_, _⟩, ⟨_, _⟩, rfl, rfl => rfl
section
variable {α β : Type} [DecidableEq α] [Datum α] [DecidableEq β] [Datum β]
instance : Datum (HL2 α β) where
  toD p := .list [Datum.toD p.a, Datum.toD p.b]
  plain p := by simp only [PyData.plain, PyData.plainAll, Datum.plain, Bool.and_self]
  eqv p q := by
    simp only [PyData.eqv, PyData.eqvAll]
    rw [Datum.eqv, Datum.eqv, Bool.and_true, ← Bool.decide_and]
    exact decide_eq_decide.mpr ⟨fun e => HL2.same e.1 e.2, fun e => by rw [e]; exact ⟨rfl, rfl⟩⟩
  depth := max (Datum.depth α) (Datum.depth β) + 1
  depth_le p := by
    simp only [PyData.depth, PyData.depthAll]
    have h0 := Datum.depth_le p.a
    have h1 := Datum.depth_le p.b
    omega
end
instance {a b : Type} [Py a] [Py b] : Py (HL2 a b) := ⟨fun p => .list [Py.toD p.a, Py.toD p.b]⟩
section
variable {a b : Type} [Py a] [DecidableEq a] [Datum a] [IsD a] [Py b] [DecidableEq b] [Datum b] [IsD b]
instance : IsD (HL2 a b) := ⟨fun p => by show PyData.list [_, _] = PyData.list [_, _]; rw [IsD.eq, IsD.eq]⟩
end
theorem R.hl2 {a b : Type} [Py a] [Py b] {H : Hp} {p : Addr} {x : HL2 a b} {v1 v2 : V} (ha : H p = some (.lst [v1, v2])) (h1 : R H v1 x.a) (h2 : R H v2 x.b) : R H (.ref p) x := Rep.lst ha (.cons h1 (.cons h2 .nil))
/-! ### data without lists within -/
class NoL (a : Type) [Py a] : Prop where
  mv : ∀ (F F' : Hp), (∀ b xs, F b = some (.tup xs) → F' b = some (.tup xs)) → ∀ (v : V) (x : a), R F v x → R F' v x
instance : NoL Int := ⟨fun _ _ _ _ _ h => by rw [R.int_ h]; exact R.int⟩
instance : NoL Bool := ⟨fun _ _ _ _ _ h => by rw [R.bl_ h]; exact R.bl⟩
instance : NoL Str := ⟨fun _ _ _ _ _ h => by rw [R.str_ h]; exact R.str⟩
instance {a b : Type} [Py a] [Py b] [NoL a] [NoL b] : NoL (a × b) := ⟨fun _ _ t _ _ h => by
  obtain ⟨p, v1, v2, rfl, hp, h1, h2⟩ := R.t2_ h
  exact R.t2 (t _ _ hp) (NoL.mv _ _ t _ _ h1) (NoL.mv _ _ t _ _ h2)⟩
instance {a b c : Type} [Py a] [Py b] [Py c] [NoL a] [NoL b] [NoL c] : NoL (T3 a b c) := ⟨fun _ _ t _ _ h => by
  obtain ⟨p, v1, v2, v3, rfl, hp, h1, h2, h3⟩ := R.t3_ h
  exact R.t3 (t _ _ hp) (NoL.mv _ _ t _ _ h1) (NoL.mv _ _ t _ _ h2) (NoL.mv _ _ t _ _ h3)⟩
theorem RL.mv {a : Type} [Py a] [NoL a] {F F' : Hp} (t : ∀ b xs, F b = some (.tup xs) → F' b = some (.tup xs)) : ∀ {vs : List V} {xs : List a}, RL F vs xs → RL F' vs xs
  | _, [], h => by rw [RL.nil_ h]; exact RL.nil
  | _, x :: xs, h => by
    obtain ⟨w, ws, rfl, h1, h2⟩ := RL.cons_ h
    exact RL.cons (NoL.mv _ _ t _ _ h1) (RL.mv t h2)
/-! ### cells lent to a call -/
open Classical in
noncomputable def lendF (as : List Addr) (F H : Hp) : Hp := fun b => if b ∈ as then H b else F b
open Classical in
noncomputable def backF (as : List Addr) (F : Hp) : Hp := fun b => if b ∈ as then none else F b
section
variable {Z : Ent} {F F' H H' : Hp} {cs : List (Addr × HO)} {p a q : Addr} {o o' : HO} {as : List Addr}
theorem inA_nil : ∀ b ∈ ([] : List Addr), ∃ o, (b, o) ∈ cs := fun _ h => nomatch h
theorem inA_cons (i : Nat) (e : cs[i]? = some (a, o)) (h : ∀ b ∈ as, ∃ o, (b, o) ∈ cs) : ∀ b ∈ a :: as, ∃ o, (b, o) ∈ cs := fun b hb => by
  rcases List.mem_cons.mp hb with rfl | hb
  · exact ⟨o, List.mem_of_getElem? e⟩
  · exact h b hb
theorem lendF_at (h : a ∈ as) : lendF as F H a = H a := if_pos h
theorem Ow.lendS (O : Ow Z F cs H) (hin : ∀ b ∈ as, ∃ o, (b, o) ∈ cs) : Same F (lendF as F H) := fun b u e => by
  by_cases hb : b ∈ as
  · obtain ⟨o, hc⟩ := hin b hb
    have := O.cf _ hc
    have e' : F b = none := this
    rw [e'] at e; cases e
  · show (if b ∈ as then H b else F b) = _
    rw [if_neg hb]; exact e
theorem Ow.lendP (O : Ow Z F cs H) (hin : ∀ b ∈ as, ∃ o, (b, o) ∈ cs) : Pre (lendF as F H) [] H := by
  refine ⟨fun b u e => ?_, (fun _ h => nomatch h), (fun _ h => nomatch h), List.nodup_nil, fun _ h => nomatch h⟩
  have e : (if b ∈ as then H b else F b) = some u := e
  by_cases hb : b ∈ as
  · rw [if_pos hb] at e; exact e
  · rw [if_neg hb] at e; exact O.s b u e
theorem Ow.unlend (O : Ow Z F cs H) (hin : ∀ b ∈ as, ∃ o, (b, o) ∈ cs) (g : Gr [] (lendF as F H) H F' H') :
    Ow Z (backF as F') cs H' ∧ Same F (backF as F') ∧ (∀ b xs, F' b = some (.tup xs) → backF as F' b = some (.tup xs)) ∧ ∀ b, F' b = none → backF as F' b = none := by
  have inF : ∀ b, b ∉ as → ∀ u, F b = some u → F' b = some u := fun b hb u e => g.f b u (by
    show (if b ∈ as then H b else F b) = _
    rw [if_neg hb]; exact e)
  have nF : ∀ b ∈ as, F b = none := fun b hb => by obtain ⟨o, hc⟩ := hin b hb; exact O.cf _ hc
  have sF : Same F (backF as F') := fun b u e => by
    show (if b ∈ as then none else F' b) = _
    by_cases hb : b ∈ as
    · rw [nF b hb] at e; cases e
    · rw [if_neg hb]; exact inF b hb u e
  refine ⟨⟨⟨O.g.f.trans sF, fun b u e => ?_, fun b u hb e => g.k b u (fun h => nomatch h) (O.g.k b u hb e), fun b e => g.t b (O.g.t b e), fun b e => ?_, fun b xs e => ?_⟩, fun c hc => ?_, fun c hc => g.k _ _ (fun h => nomatch h) (O.ch c hc), O.nd, O.ca, O.nt⟩, sF, fun b xs e => ?_, fun b e => ?_⟩
  · have e : (if b ∈ as then none else F' b) = some u := e
    by_cases hb : b ∈ as
    · rw [if_pos hb] at e; cases e
    · rw [if_neg hb] at e; exact g.s b u e
  · show (if b ∈ as then none else F' b) = _ ∨ _
    by_cases hb : b ∈ as
    · rw [if_pos hb]
      rcases O.g.n b e with h0 | h0
      · rw [nF b hb] at h0; exact .inl h0
      · exact .inr h0
    · rw [if_neg hb]
      rcases O.g.n b e with h0 | h0
      · rcases g.n b (O.g.t b e) with h1 | ⟨xs, hx⟩
        · refine .inl (h1.trans ?_)
          show (if b ∈ as then H b else F b) = _
          rw [if_neg hb]; exact h0
        · rcases O.g.u b xs hx with z | z
          · exact absurd z e
          · exact .inr ⟨xs, z⟩
      · exact .inr h0
  · rcases g.u b xs e with z | z
    · refine .inl ?_
      cases q : Z.H b with
      | none => rfl
      | some u => exact absurd z (O.g.t b (by rw [q]; simp))
    · exact O.g.u b xs z
  · show (if c.1 ∈ as then none else F' c.1) = none
    by_cases hb : c.1 ∈ as
    · rw [if_pos hb]
    · rw [if_neg hb]
      have hl : lendF as F H c.1 = none := by
        show (if c.1 ∈ as then H c.1 else F c.1) = _
        rw [if_neg hb]; exact O.cf c hc
      exact g.none (O.ch c hc) (O.nt c hc) hl
  · show (if b ∈ as then none else F' b) = _
    by_cases hb : b ∈ as
    · obtain ⟨o, hc⟩ := hin b hb
      have h1 : lendF as F H b = some o := by
        show (if b ∈ as then H b else F b) = _
        rw [if_pos hb]; exact O.ch _ hc
      have h2 := g.f b o h1
      rw [e] at h2
      have h3 := O.nt _ hc
      have h3 : noTup o = true := h3
      rw [← Option.some.inj h2] at h3
      cases h3
    · rw [if_neg hb]; exact e
  · show (if b ∈ as then none else F' b) = _
    by_cases hb : b ∈ as
    · rw [if_pos hb]
    · rw [if_neg hb]; exact e
theorem Ow.fresh (O : Ow Z F cs H) (h : H p = none) : p ∉ cs.map (·.1) := fun hm => by
  obtain ⟨c, hc, e⟩ := List.mem_map.mp hm
  have z := O.ch c hc
  rw [e, h] at z
  cases z
theorem Ow.add' (O : Ow Z F cs H) (hm : p ∉ cs.map (·.1)) (hz : Z.H p = none) (hf : F p = none) (h : H p = some o) (ht : noTup o = true := by rfl) : Ow Z F ((p, o) :: cs) H where
  g := O.g
  cf := fun c hc => by
    rcases List.mem_cons.mp hc with rfl | hc
    · exact hf
    · exact O.cf c hc
  ch := fun c hc => by
    rcases List.mem_cons.mp hc with rfl | hc
    · exact h
    · exact O.ch c hc
  nd := by
    rw [List.map_cons, List.nodup_cons]
    exact ⟨hm, O.nd⟩
  ca := fun c hc => by
    rcases List.mem_cons.mp hc with rfl | hc
    · exact .inr hz
    · exact O.ca c hc
  nt := fun c hc => by
    rcases List.mem_cons.mp hc with rfl | hc
    · exact ht
    · exact O.nt c hc
theorem Ow.ne (O : Ow Z F cs H) (i j : Nat) (hij : i ≠ j) (ei : cs[i]? = some (a, o)) (ej : cs[j]? = some (q, o')) : a ≠ q := fun e => by
  subst e
  have h1 : (cs.map (·.1))[i]? = some a := by rw [List.getElem?_map, ei]; rfl
  have h2 : (cs.map (·.1))[j]? = some a := by rw [List.getElem?_map, ej]; rfl
  exact hij (nd_ix O.nd h1 h2)
end
theorem nmem2 {p q : Addr} {l : List Addr} (h : p ≠ q) (h2 : p ∉ l) : p ∉ q :: l := fun m => by
  rcases List.mem_cons.mp m with e | m
  · exact h e
  · exact h2 m
/-! ### while -/
inductive Ws (s r : Type) where
  | go (x : s)
  | stop (x : s)
  | rt (z : r)
def whL {s r : Type} (b : s → M (Ws s r)) : Nat → s → M (Fl s r)
  | 0, _ => bad
  | n + 1, x => b x >>= fun
    | .go x' => whL b n x'
    | .stop x' => .ok (.nx x')
    | .rt z => .ok (.rt z)
theorem whL_L {s r a : Type} {Q : a → Prop} {E : String → Prop} {b : s → M (Ws s r)} {n : Nat} {x : s} {k : Fl s r → M a} (h : wp (whL b n x >>= k) Q E) :
    ∃ (L : Nat → s → Prop) (X : s → Prop), L n x ∧ (∀ m x, L m x → wp (b x) (fun w => match w with
      | .go x' => ∃ m', m' < m ∧ L m' x'
      | .stop x' => X x'
      | .rt z => wp (k (.rt z)) Q E) E) ∧ ∀ x, X x → wp (k (.nx x)) Q E := by
  refine ⟨fun n x => wp (whL b n x >>= k) Q E, fun x => wp (k (.nx x)) Q E, h, fun m x hx => ?_, fun x hx => hx⟩
  cases m with
  | zero => exact hx.elim
  | succ m =>
    have hx : wp ((b x >>= fun
      | .go x' => whL b m x'
      | .stop x' => .ok (.nx x')
      | .rt z => .ok (.rt z)) >>= k) Q E := hx
    rw [wp_bind, wp_bind] at hx
    cases e : b x with
    | error e2 => rw [e] at hx; cases e2 <;> exact hx
    | ok w =>
      rw [e] at hx
      cases w with
      | go x' => exact ⟨m, Nat.lt_succ_self m, wp_bind.mpr hx⟩
      | stop x' => exact hx
      | rt z => exact hx
theorem while_P {c : TT} {tb : TS} {D : Ends} {σ : L2.St} {H : Hp} (W : Nat → L2.St → Hp → Prop) (X : L2.St → Hp → Prop) (n : Nat) (h0 : W n σ H) (exit : ∀ σ H, X σ H → D.nx σ H)
    (turn : (∀ σ H, X σ H → D.nx σ H) → ∀ m σ H, W m σ H → c σ H fun b H1 => if b = true then ∃ N : L2.St → Hp → Prop, (∀ σ' H', N σ' H' → ∃ m', m' < m ∧ W m' σ' H') ∧ tb { D with nx := N, ct := N, bk := D.nx } σ H1 else D.nx σ H1) : tWhile c tb D σ H :=
  ⟨W, ⟨n, h0⟩, turn exit⟩
/-! ### a < b < c < d -/
section
variable {X : Cx} {a b c d : Expr} {ta tb tc td : TE} {pos : Pos}
def tChain3 (r r' r'' : R2) (ta tb tc td : TE) : TE := fun σ H Q => ta σ H fun x H1 => tb σ H1 fun y H2 => r x y H2 fun z H3 => ∃ k, z = .bl k ∧
  (if k = true then tc σ H3 fun w' H4 => r' y w' H4 fun z' H5 => ∃ k', z' = .bl k' ∧ (if k' = true then td σ H5 fun u' H6 => r'' w' u' H6 Q else Q (.bl false) H5) else Q (.bl false) H3)
theorem pt_chain3 {op op' op'' : CmpOp} {r r' r'' : R2} (ho : OpR X (compareOp op) r) (ho' : OpR X (compareOp op') r') (ho'' : OpR X (compareOp op'') r'') (ha : PE X a ta) (hb : PE X b tb) (hc : PE X c tc) (hd : PE X d td)
    (hm : lastMarks [op, op', op''] [b, c, d] = false := by with_unfolding_all rfl) : PT X (.Compare a [op, op', op''] [b, c, d] pos) (tTest (tChain3 r r' r'' ta tb tc td)) := by
  refine ⟨fun pins s σ H Q I h => ?_⟩
  refine isTrue_chain (thn (ha.run pins s σ H _ I h) fun v s1 ⟨x, H1, I1, r1, q1⟩ => test_link (thn (hb.run pins s1 σ H1 _ I1 q1) fun u s2 ⟨y, H2, I2, r2, q2⟩ =>
    thn (ho pins s2 σ H2 x y v u _ I2 r1 r2 q2) fun d1 s3 ⟨z, H3, I3, r3, k, e, q3⟩ => ?_)) hm
  subst e
  cases r3
  refine wpAny_truthy_bool ?_
  cases k with
  | false =>
    obtain ⟨k', e', q'⟩ := q3
    cases e'
    exact ite_ff ⟨H3, I3, q'⟩
  | true =>
    refine ite_tt (test_link (thn (hc.run pins s3 σ H3 _ I3 q3) fun w' s4 ⟨z', H4, I4, r4, q4⟩ => thn (ho' pins s4 σ H4 y z' u w' _ I4 r2 r4 q4) fun d2 s5 ⟨z2, H5, I5, r5, k2, e2, q5⟩ => ?_))
    subst e2
    cases r5
    refine wpAny_truthy_bool ?_
    cases k2 with
    | false =>
      obtain ⟨k', e', q'⟩ := q5
      cases e'
      exact ite_ff ⟨H5, I5, q'⟩
    | true =>
      refine ite_tt (test_last (thn (hd.run pins s5 σ H5 _ I5 q5) fun u' s6 ⟨z3, H6, I6, r6, q6⟩ => thn (ho'' pins s6 σ H6 z' z3 w' u' _ I6 r4 r6 q6) fun d3 s7 ⟨z4, H7, I7, r7, k3, e3, q7⟩ => ?_))
      subst e3
      cases r7
      exact wpAny_truthy_bool ⟨H7, I7, q7⟩
end
/-! ### list.index of whole numbers -/
def ixI (xs : List Int) (y : Int) : M Int := if y ∈ xs then .ok ((xs.findIdx (· == y) : Nat) : Int) else bad
theorem wp_ixI {a : Type} {Q : a → Prop} {E : String → Prop} {xs : List Int} {y : Int} {k : Int → M a} (h : wp (ixI xs y >>= k) Q E) : ∃ j, xs.findIdx (· == y) = j ∧ xs[j]? = some y ∧ (∀ (m : Nat) z, m < j → xs[m]? = some z → z ≠ y) ∧ wp (k (j : Int)) Q E := by
  unfold ixI at h
  by_cases hm : y ∈ xs
  · rw [if_pos hm] at h
    have hlt : xs.findIdx (· == y) < xs.length := List.findIdx_lt_length_of_exists ⟨y, hm, by simp⟩
    refine ⟨_, rfl, ?_, fun m z hmj hz e => ?_, h⟩
    · rw [List.getElem?_eq_getElem hlt]
      have := List.findIdx_getElem (w := hlt)
      rw [eq_of_beq this]
    · have := List.not_of_lt_findIdx hmj
      obtain ⟨hl, hz⟩ := List.getElem?_eq_some_iff.mp hz
      rw [hz, e] at this
      simp at this
  · rw [if_neg hm] at h; exact h.elim
theorem all_flat_int : ∀ xs : List Int, (xs.map V.int).all flatV = true
  | [] => rfl
  | x :: xs => by rw [List.map_cons, List.all_cons, all_flat_int xs]; rfl
theorem int_noeq {xs : List Int} {y : Int} {j : Nat} (h : ∀ (m : Nat) z, m < j → xs[m]? = some z → z ≠ y) : ∀ (m : Nat) (z' : V), m < j → (xs.map V.int)[m]? = some z' → eqV z' (.int y) = false := fun m z' hm hz => by
  rw [List.getElem?_map] at hz
  cases e : xs[m]? with
  | none => rw [e] at hz; cases hz
  | some z =>
    rw [e] at hz
    have hz : V.int z = z' := Option.some.inj hz
    subst hz
    have := h m z hm e
    show (z == y) = false
    simpa using this
theorem int_at {xs : List Int} {y : Int} {j : Nat} (h : xs[j]? = some y) : (xs.map V.int)[j]? = some (.int y) := by rw [List.getElem?_map, h]; rfl
theorem int_eq {y : Int} : eqV (.int y) (.int y) = true := by show (y == y) = true; simp
/-! ### dict(list of pairs), the keys whole numbers -/
section
variable {β : Type} [Py β] {F H : Hp}
def mergeD (xs : List (Int × β)) : List (Int × β) := xs.foldl (fun acc p => dPut acc p.1 p.2) []
theorem merge_rd {kvs : List (Key × V)} {xs : List (Int × β)} (hs : RD F kvs xs) : ∀ {acc : List (Key × V)} {ac : List (Int × β)}, RD F acc ac → RD F (mergeK acc kvs) (xs.foldl (fun acc p => dPut acc p.1 p.2) ac) := by
  induction hs with
  | nil => intro acc ac h; exact h
  | @cons k v y kvs xs hv _ ih =>
    intro acc ac h
    exact ih (h.put k hv)
theorem pairs_of_rl {K : PySem.W.Frag} (s : Same F H) : ∀ {vs : List V} {xs : List (Int × β)}, RL F vs xs → ∃ (ps : List Addr) (kvs : List (Key × V)), vs = ps.map V.ref ∧ Paired (fun p kv => SqT K H p [kV kv.1, kv.2]) ps kvs ∧ RD F kvs xs
  | _, [], h => ⟨[], [], RL.nil_ h, .nil, .nil⟩
  | _, x :: xs, h => by
    obtain ⟨w, ws, rfl, h1, h2⟩ := RL.cons_ h
    obtain ⟨ps, kvs, e, hp, hr⟩ := pairs_of_rl (K := K) s h2
    obtain ⟨p, v1, v2, rfl, hp1, h3, h4⟩ := R.t2_ h1
    rw [R.int_ h3] at hp1
    exact ⟨p :: ps, (.inl x.1, v2) :: kvs, by rw [e]; rfl, .cons (SqT.of (s _ _ hp1)) hp, .cons (k := x.1) h4 hr⟩
end
/-! ### the same rules, the fragment told outright (within a comprehension) -/
section
variable {X : Cx} {K : PySem.W.Frag}
theorem ixTupK (h : X.K = K) : IxR X (rIxT K) := by rw [← h]; exact ix_tup
theorem ixListK (h : X.K = K) : IxR X (rIxL K) := by rw [← h]; exact ix_list
theorem listOfK (h : X.K = K) : CallR X (.type "list") (fun xs H Q => ∃ p ys, xs = [.ref p] ∧ (SqL K H p ys ∨ SqT K H p ys) ∧ ∀ l, H l = none → Q (.ref l) (upd H l (.lst ys))) := by rw [← h]; exact call_list_of
theorem isiK (h : X.K = K) : CallR X (.builtin "isinstance") (rIsi K) := by rw [← h]; exact call_isi
theorem slListK (h : X.K = K) : SlR X (rSlL K) := by rw [← h]; exact sl_list
theorem indexK (h : X.K = K) : MtR X "list.index" (rIndex K) := by rw [← h]; exact mt_index
end
/-! ### enumerate in a comprehension -/
def enumL {b : Type} (xs : List b) : List (Int × b) := xs.zipIdx.map fun p => ((p.2 : Int), p.1)
theorem enumL_get {b : Type} {xs : List b} {i : Nat} {x : b} (h : xs[i]? = some x) : (enumL xs).drop i = ((i : Int), x) :: (enumL xs).drop (i + 1) := by
  apply drop_at
  unfold enumL
  rw [List.getElem?_map, List.getElem?_zipIdx, h]
  simp
theorem enumL_len {b : Type} {xs : List b} : (enumL xs).length = xs.length := by unfold enumL; simp
theorem enumL_end {b : Type} {xs : List b} {vs : List V} (h : vs.length = xs.length) : (enumL xs).drop vs.length = [] := by
  rw [h, ← enumL_len, List.drop_length]
theorem comp_lenE {b : Type} {w vs : List V} {xs : List b} {i : Nat} (la : w.length ≤ i) (hi : i < vs.length) (hl : vs.length = xs.length) (c : (enumL xs).length < 16777216) : w.length < sizeLine := by
  rw [enumL_len] at c
  exact lt_line (by omega)
end PG

set_option Elab.async false
set_option linter.all false
set_option maxRecDepth 100000
set_option maxHeartbeats 4000000
/-! Plain mathematics over the monad M: no program in sight. -/
namespace PG
open PySem L2
open PySem.W (T3 T4 Datum DatumOrd)
section
variable {a b s i : Type}
theorem ok_b (x : a) (k : a → M b) : (Except.ok x >>= k) = k x := rfl
theorem okP_b (x : a) (k : a → M b) : ((Except.ok x : M a) >>= k) = k x := rfl
theorem ret_b (x : a) (k : a → M b) : (ret x >>= k) = k x := rfl
theorem chk_ok {c : Prop} [Decidable c] (h : c) : chk c = .ok () := by unfold chk; rw [if_pos h]
theorem chk_b {c : Prop} [Decidable c] (h : c) (k : Unit → M b) : (chk c >>= k) = k () := by rw [chk_ok h]; rfl
theorem opt_b {o : Option a} {x : a} (h : o = some x) (k : a → M b) : (opt o >>= k) = k x := by rw [h]; rfl
theorem bind_ok {m : M a} {x : a} (h : m = .ok x) (k : a → M b) : (m >>= k) = k x := by rw [h]; rfl
theorem appL_ok {xs : List a} {y : a} (h : xs.length < 16777216) : appL xs y = .ok (xs ++ [y]) := by unfold appL; rw [if_pos h]
theorem ixN_nat {n : Nat} {j : Int} (h0 : 0 ≤ j) (h : j < n) : ixN n j = some j.toNat := by unfold ixN; rw [if_pos h0, if_pos h]
theorem atI_of {xs : List a} {j : Int} {x : a} (h0 : 0 ≤ j) (h : xs[j.toNat]? = some x) : L2.atI xs j = some x := by
  have hl := (List.getElem?_eq_some_iff.mp h).1
  unfold L2.atI
  rw [ixN_nat h0 (by omega)]
  exact h
theorem atI_some {xs : List a} {j : Int} (h0 : 0 ≤ j) (h : j < xs.length) : ∃ x, L2.atI xs j = some x ∧ xs[j.toNat]? = some x := by
  have hl : j.toNat < xs.length := by omega
  exact ⟨xs[j.toNat], atI_of h0 (List.getElem?_eq_getElem hl), List.getElem?_eq_getElem hl⟩
theorem setI_ok {xs : List a} {j : Int} {y : a} (h0 : 0 ≤ j) (h : j < xs.length) : setI xs j y = .ok (xs.set j.toNat y) := by unfold setI; rw [ixN_nat h0 h]
theorem popI_ok {xs : List a} {j : Int} {y : a} (h0 : 0 ≤ j) (h : xs[j.toNat]? = some y) (hl : xs.length < 16777216) : popI xs j = .ok (y, xs.eraseIdx j.toNat) := by
  have h1 := (List.getElem?_eq_some_iff.mp h).1
  unfold popI
  rw [if_pos hl, ixN_nat h0 (by omega)]
  show (match xs[j.toNat]? with
    | some y => (Except.ok (y, xs.eraseIdx j.toNat) : M _)
    | none => bad) = _
  rw [h]
/-- loops by an invariant over the items gone through -/
theorem loopN_inv {f : i → s → M s} (P : List i → s → Prop) : ∀ {xs pre : List i} {x : s}, P pre x → (∀ pre y ys x, xs ++ [] = xs → P pre x → (∃ q, q ++ y :: ys = pre ++ y :: ys) → ∃ x', f y x = .ok x' ∧ P (pre ++ [y]) x') → ∃ x', loopN f xs x = .ok x' ∧ P (pre ++ xs) x' := by
  intro xs
  induction xs with
  | nil => intro pre x h _; exact ⟨x, rfl, by rw [List.append_nil]; exact h⟩
  | cons y ys ih =>
    intro pre x h hs
    obtain ⟨x1, e1, h1⟩ := hs pre y ys x (List.append_nil _) h ⟨pre, rfl⟩
    obtain ⟨x2, e2, h2⟩ := ih (pre := pre ++ [y]) h1 fun pre y ys x _ hp hq => hs pre y ys x (List.append_nil _) hp hq
    refine ⟨x2, ?_, by rw [List.append_assoc] at h2; exact h2⟩
    show (f y x >>= fun x' => loopN f ys x') = _
    rw [e1]
    exact e2
/-- .. with what is known of the items -/
theorem loopN_run {f : i → s → M s} {all : List i} (P : List i → s → Prop) {x : s} (h : P [] x) (hs : ∀ pre y post x, all = pre ++ y :: post → P pre x → ∃ x', f y x = .ok x' ∧ P (pre ++ [y]) x') : ∃ x', loopN f all x = .ok x' ∧ P all x' := by
  have go : ∀ (xs pre : List i) (x : s), all = pre ++ xs → P pre x → ∃ x', loopN f xs x = .ok x' ∧ P (pre ++ xs) x' := by
    intro xs
    induction xs with
    | nil => intro pre x _ h; exact ⟨x, rfl, by rw [List.append_nil]; exact h⟩
    | cons y ys ih =>
      intro pre x e h
      obtain ⟨x1, e1, h1⟩ := hs pre y ys x e h
      obtain ⟨x2, e2, h2⟩ := ih (pre ++ [y]) x1 (by rw [List.append_assoc]; exact e) h1
      refine ⟨x2, ?_, by rw [List.append_assoc] at h2; exact h2⟩
      show (f y x >>= fun x' => loopN f ys x') = _
      rw [e1]
      exact e2
  exact go all [] x rfl h
/-- a loop that goes on at each item -/
theorem loopM_run {r : Type} {f : i → s → M (Fl s r)} {all : List i} (P : List i → s → Prop) {x : s} (h : P [] x) (hs : ∀ pre y post x, all = pre ++ y :: post → P pre x → ∃ x', f y x = .ok (.nx x') ∧ P (pre ++ [y]) x') : ∃ x', loopM f all x = .ok (.nx x') ∧ P all x' := by
  have go : ∀ (xs pre : List i) (x : s), all = pre ++ xs → P pre x → ∃ x', loopM f xs x = .ok (.nx x') ∧ P (pre ++ xs) x' := by
    intro xs
    induction xs with
    | nil => intro pre x _ h; exact ⟨x, rfl, by rw [List.append_nil]; exact h⟩
    | cons y ys ih =>
      intro pre x e h
      obtain ⟨x1, e1, h1⟩ := hs pre y ys x e h
      obtain ⟨x2, e2, h2⟩ := ih (pre ++ [y]) x1 (by rw [List.append_assoc]; exact e) h1
      refine ⟨x2, ?_, by rw [List.append_assoc] at h2; exact h2⟩
      show (f y x >>= fun q => match q with
        | .nx x' => loopM f ys x'
        | .rt z => .ok (.rt z)) = _
      rw [e1]
      exact e2
  exact go all [] x rfl h
/-- .. that has no state -/
theorem loopM_all {r : Type} {f : i → Unit → M (Fl Unit r)} {all : List i} (hs : ∀ y ∈ all, f y () = .ok (.nx ())) : loopM f all () = .ok (.nx ()) := by
  obtain ⟨x, e, _⟩ := loopM_run (f := f) (all := all) (fun _ _ => True) (x := ()) trivial fun pre y post x e _ => ⟨(), by cases x; exact hs y (by rw [e]; simp), trivial⟩
  exact e
theorem compX_run {c : Type} {f : i → s → M (Option c × s)} {all : List i} (P : List i → List c → s → Prop) {x : s} (h : P [] [] x)
    (hs : ∀ pre y post acc x, all = pre ++ y :: post → P pre acc x → ∃ o x', f y x = .ok (o, x') ∧ P (pre ++ [y]) (match o with
      | some z => acc ++ [z]
      | none => acc) x') : ∃ acc x', compX f all [] x = .ok (acc, x') ∧ P all acc x' := by
  have go : ∀ (xs pre : List i) (acc : List c) (x : s), all = pre ++ xs → P pre acc x → ∃ acc' x', compX f xs acc x = .ok (acc', x') ∧ P (pre ++ xs) acc' x' := by
    intro xs
    induction xs with
    | nil => intro pre acc x _ h; exact ⟨acc, x, rfl, by rw [List.append_nil]; exact h⟩
    | cons y ys ih =>
      intro pre acc x e h
      obtain ⟨o, x1, e1, h1⟩ := hs pre y ys acc x e h
      obtain ⟨acc2, x2, e2, h2⟩ := ih (pre ++ [y]) _ x1 (by rw [List.append_assoc]; exact e) h1
      refine ⟨acc2, x2, ?_, by rw [List.append_assoc] at h2; exact h2⟩
      show (nox (f y x) >>= fun p => compX f ys (match p.1 with
        | some z => acc ++ [z]
        | none => acc) p.2) = _
      rw [e1]
      exact e2
  exact go all [] [] x rfl h
theorem compS_run {c : Type} {f : i → s → M (Option c × s)} {all : List i} (hl : all.length < 16777216) (P : List i → List c → s → Prop) {x : s} (h : P [] [] x)
    (hs : ∀ pre y post acc x, all = pre ++ y :: post → P pre acc x → ∃ o x', f y x = .ok (o, x') ∧ P (pre ++ [y]) (match o with
      | some z => acc ++ [z]
      | none => acc) x') : ∃ acc x', compS f all x = .ok (acc, x') ∧ P all acc x' := by
  unfold compS
  rw [chk_b hl]
  exact compX_run P h hs
/-- a plain map with a test -/
theorem compS_pure {c : Type} {f : i → Unit → M (Option c × Unit)} {all : List i} (g : i → Option c) (hl : all.length < 16777216) (hs : ∀ y ∈ all, f y () = .ok (g y, ())) : compS f all () = .ok (all.filterMap g, ()) := by
  obtain ⟨acc, x, e, h⟩ := compS_run (f := f) (all := all) hl (fun pre acc _ => acc = pre.filterMap g) (x := ()) rfl fun pre y post acc x e h => by
    refine ⟨g y, (), by cases x; exact hs y (by rw [e]; simp), ?_⟩
    rw [h, List.filterMap_append]
    cases e2 : g y with
    | none => simp [e2]
    | some z => simp [e2]
  rw [e, h]
end

/-! ### sorted lists -/
section
variable {a : Type}
/-- two sorted lists of the same things are one -/
theorem perm_sorted_eq {le : a → a → Bool} (anti : ∀ x y, le x y = true → le y x = true → x = y) : ∀ {xs ys : List a}, xs.Perm ys → xs.Pairwise (fun x y => le x y = true) → ys.Pairwise (fun x y => le x y = true) → xs = ys := by
  intro xs
  induction xs with
  | nil => intro ys h _ _; exact (List.nil_perm.mp h).symm
  | cons x xs ih =>
    intro ys h hx hy
    cases ys with
    | nil => exact absurd h.length_eq (by simp)
    | cons y ys =>
      rw [List.pairwise_cons] at hx hy
      have e : x = y := by
        have m1 : x ∈ y :: ys := h.mem_iff.mp List.mem_cons_self
        have m2 : y ∈ x :: xs := h.mem_iff.mpr List.mem_cons_self
        rcases List.mem_cons.mp m1 with r | r
        · exact r
        · rcases List.mem_cons.mp m2 with q | q
          · exact q.symm
          · exact anti x y (hx.1 y q) (hy.1 x r)
      subst e
      rw [ih (List.Perm.cons_inv h) hx.2 hy.2]
class LeOk (a : Type) [DecidableEq a] [DatumOrd a] : Prop where
  tr : ∀ x y z : a, leT x y = true → leT y z = true → leT x z = true
  tot : ∀ x y : a, (leT x y || leT y x) = true
  anti : ∀ x y : a, leT x y = true → leT y x = true → x = y
theorem leT_int (x y : Int) : leT x y = decide (x ≤ y) := by
  show (!decide (y < x)) = decide (x ≤ y)
  by_cases h : y < x
  · have : ¬ x ≤ y := by omega
    simp [h, this]
  · have : x ≤ y := by omega
    simp [h, this]
instance : LeOk Int where
  tr x y z h1 h2 := by
    rw [leT_int, decide_eq_true_eq] at h1 h2 ⊢
    omega
  tot x y := by
    rw [leT_int, leT_int, Bool.or_eq_true, decide_eq_true_eq, decide_eq_true_eq]
    omega
  anti x y h1 h2 := by
    rw [leT_int, decide_eq_true_eq] at h1 h2
    omega
theorem leT_p (x y : Int × Int) : leT x y = decide (x.1 < y.1 ∨ (x.1 = y.1 ∧ x.2 ≤ y.2)) := by
  show (!(if y.1 = x.1 then decide (y.2 < x.2) else decide (y.1 < x.1))) = _
  by_cases h : y.1 = x.1
  · rw [if_pos h]
    by_cases h2 : y.2 < x.2
    · have : ¬ (x.1 < y.1 ∨ (x.1 = y.1 ∧ x.2 ≤ y.2)) := by omega
      simp [h2, this]
    · have : (x.1 < y.1 ∨ (x.1 = y.1 ∧ x.2 ≤ y.2)) := by omega
      simp [h2, this]
  · rw [if_neg h]
    by_cases h2 : y.1 < x.1
    · have : ¬ (x.1 < y.1 ∨ (x.1 = y.1 ∧ x.2 ≤ y.2)) := by omega
      simp [h2, this]
    · have : (x.1 < y.1 ∨ (x.1 = y.1 ∧ x.2 ≤ y.2)) := by omega
      simp [h2, this]
instance : LeOk (Int × Int) where
  tr x y z h1 h2 := by
    rw [leT_p, decide_eq_true_eq] at h1 h2 ⊢
    omega
  tot x y := by
    rw [leT_p, leT_p, Bool.or_eq_true, decide_eq_true_eq, decide_eq_true_eq]
    omega
  anti x y h1 h2 := by
    rw [leT_p, decide_eq_true_eq] at h1 h2
    exact Prod.ext (by omega) (by omega)
theorem leT_3 (x y : T3 Int Int Int) : leT x y = decide (x.a < y.a ∨ (x.a = y.a ∧ (x.b < y.b ∨ (x.b = y.b ∧ x.c ≤ y.c)))) := by
  show (!DatumOrd.lt y x) = _
  have e : DatumOrd.lt y x = decide (y.a < x.a ∨ (y.a = x.a ∧ (y.b < x.b ∨ (y.b = x.b ∧ y.c < x.c)))) := by
    rw [Bool.eq_iff_iff, decide_eq_true_eq]
    show (if y.a = x.a then (if y.b = x.b then decide (y.c < x.c) else decide (y.b < x.b)) else decide (y.a < x.a)) = true ↔ _
    by_cases h : y.a = x.a
    · rw [if_pos h]
      by_cases h2 : y.b = x.b
      · rw [if_pos h2, decide_eq_true_eq]; omega
      · rw [if_neg h2, decide_eq_true_eq]; omega
    · rw [if_neg h, decide_eq_true_eq]; omega
  rw [e, Bool.eq_iff_iff, Bool.not_eq_true', decide_eq_false_iff_not, decide_eq_true_eq]
  omega
instance : LeOk (T3 Int Int Int) where
  tr x y z h1 h2 := by
    rw [leT_3, decide_eq_true_eq] at h1 h2 ⊢
    omega
  tot x y := by
    rw [leT_3, leT_3, Bool.or_eq_true, decide_eq_true_eq, decide_eq_true_eq]
    omega
  anti x y h1 h2 := by
    rw [leT_3, decide_eq_true_eq] at h1 h2
    exact PySem.W.T3.same (by omega) (by omega) (by omega)
variable [DecidableEq a] [DatumOrd a] [LeOk a]
theorem sortT_perm (xs : List a) : (sortT xs).Perm xs := List.mergeSort_perm xs _
theorem sortT_sorted (xs : List a) : (sortT xs).Pairwise (fun x y => leT x y = true) := List.pairwise_mergeSort (fun x y z => LeOk.tr x y z) (fun x y => LeOk.tot x y) xs
theorem sortT_eq {xs ys : List a} (h : xs.Perm ys) : sortT xs = sortT ys :=
  perm_sorted_eq LeOk.anti ((sortT_perm xs).trans (h.trans (sortT_perm ys).symm)) (sortT_sorted xs) (sortT_sorted ys)
theorem sortT_id {xs : List a} (h : xs.Pairwise (fun x y => leT x y = true)) : sortT xs = xs := perm_sorted_eq LeOk.anti (sortT_perm xs) (sortT_sorted xs) h
theorem sortT_idem (xs : List a) : sortT (sortT xs) = sortT xs := sortT_id (sortT_sorted xs)
theorem sortT_len (xs : List a) : (sortT xs).length = xs.length := (sortT_perm xs).length_eq
theorem sortT_mem {xs : List a} {x : a} : x ∈ sortT xs ↔ x ∈ xs := (sortT_perm xs).mem_iff
end
/-! ### numbers -/
theorem cdivW {i j : Int} (h : 0 < j) (h2 : j ≤ 10 ^ 40) : CDivW i j := by
  have h3 : j.natAbs ≤ 10 ^ 40 := by omega
  exact wide_div (b := 200) h (Nat.lt_of_le_of_lt h3 (by decide)) (by decide) (by decide)
theorem cmulW {i j : Int} (h1 : i.natAbs < 2 ^ 100000) (h2 : j.natAbs < 2 ^ 100000) : CMulW i j := wide_mul h1 h2 (by decide) (by decide) (by decide)

theorem erase_perm {a : Type} : ∀ {l : List a} {j : Nat} (h : j < l.length), (l[j] :: l.eraseIdx j).Perm l
  | x :: l, 0, _ => List.Perm.refl _
  | x :: l, j + 1, h => by
    have h' : j < l.length := by simpa using h
    show (l[j] :: x :: l.eraseIdx j).Perm (x :: l)
    exact (List.Perm.swap _ _ _).trans (List.Perm.cons _ (erase_perm h'))

/-! ### trees -/
abbrev Tie := T3 Int Int Int
abbrev Tr := List Int × List Tie
def tieOf (p q c : Int) : Tie := if p ≤ q then ⟨p, q, c⟩ else ⟨q, p, c⟩
/-- place by place, each new one tied to one that is there -/
inductive Grown : List Int → List Tie → Prop
  | one (p : Int) : Grown [p] []
  | more {ps : List Int} {ts : List Tie} (q p c : Int) : Grown ps ts → q ∈ ps → p ∉ ps → Grown (ps ++ [p]) (ts ++ [tieOf p q c])
theorem tieOf_lt {p q c : Int} (h : p ≠ q) : (tieOf p q c).a < (tieOf p q c).b ∧ ((tieOf p q c).a = p ∧ (tieOf p q c).b = q ∨ (tieOf p q c).a = q ∧ (tieOf p q c).b = p) ∧ (tieOf p q c).c = c := by
  unfold tieOf
  by_cases h1 : p ≤ q
  · rw [if_pos h1]; exact ⟨by show p < q; omega, .inl ⟨rfl, rfl⟩, rfl⟩
  · rw [if_neg h1]; exact ⟨by show q < p; omega, .inr ⟨rfl, rfl⟩, rfl⟩
theorem Grown.in {ps : List Int} {ts : List Tie} (g : Grown ps ts) : ∀ t ∈ ts, t.a ∈ ps ∧ t.b ∈ ps ∧ t.a < t.b := by
  induction g with
  | one p => intro t h; cases h
  | @more ps ts q p c g hq hp ih =>
    intro t h
    rcases List.mem_append.mp h with h | h
    · obtain ⟨h1, h2, h3⟩ := ih t h
      exact ⟨List.mem_append_left _ h1, List.mem_append_left _ h2, h3⟩
    · have e := List.mem_singleton.mp h
      subst e
      have hpq : p ≠ q := fun e => hp (e ▸ hq)
      obtain ⟨l, hab, _⟩ := tieOf_lt (c := c) hpq
      have mp : p ∈ ps ++ [p] := by simp
      have mq : q ∈ ps ++ [p] := List.mem_append_left _ hq
      rcases hab with ⟨h1, h2⟩ | ⟨h1, h2⟩
      · exact ⟨by rw [h1]; exact mp, by rw [h2]; exact mq, l⟩
      · exact ⟨by rw [h1]; exact mq, by rw [h2]; exact mp, l⟩
theorem Grown.len {ps : List Int} {ts : List Tie} (g : Grown ps ts) : ps.length = ts.length + 1 := by
  induction g with
  | one p => rfl
  | more q p c g hq hp ih => rw [List.length_append, List.length_append, ih]; rfl
theorem Grown.nd {ps : List Int} {ts : List Tie} (g : Grown ps ts) : ps.Nodup := by
  induction g with
  | one p => simp
  | more q p c g hq hp ih => exact List.nodup_append.mpr ⟨ih, by simp, fun x hx y hy e => by rw [List.mem_singleton.mp hy] at e; exact hp (e ▸ hx)⟩
/-- a tree: its worths, its ties sorted -/
structure TreeOk (t : Tr) : Prop where
  ex : ∃ ps ts, Grown ps ts ∧ ps.Perm (rangeL 0 (t.1.length : Int)) ∧ t.2 = sortT ts
theorem TreeOk.pos {t : Tr} (h : TreeOk t) : 1 ≤ t.1.length := by
  obtain ⟨ps, ts, g, p, e⟩ := h.ex
  have h1 := p.length_eq
  rw [rangeL_length] at h1
  have := g.len
  omega
theorem TreeOk.len {t : Tr} (h : TreeOk t) : t.1.length = t.2.length + 1 := by
  obtain ⟨ps, ts, g, p, e⟩ := h.ex
  have h1 := p.length_eq
  rw [rangeL_length] at h1
  have := g.len
  rw [e, sortT_len]
  omega
theorem rangeL_mem' {lo hi x : Int} : x ∈ rangeL lo hi ↔ lo ≤ x ∧ x < hi := by
  unfold rangeL
  rw [List.mem_map]
  constructor
  · rintro ⟨j, hj, rfl⟩
    have := List.mem_range.mp hj
    omega
  · rintro ⟨h1, h2⟩
    exact ⟨(x - lo).toNat, List.mem_range.mpr (by omega), by omega⟩
theorem TreeOk.tie {t : Tr} (h : TreeOk t) : ∀ x ∈ t.2, 0 ≤ x.a ∧ x.a < x.b ∧ x.b < (t.1.length : Int) := by
  obtain ⟨ps, ts, g, p, e⟩ := h.ex
  intro x hx
  rw [e, sortT_mem] at hx
  obtain ⟨h1, h2, h3⟩ := g.in x hx
  have a1 := rangeL_mem'.mp (p.mem_iff.mp h1)
  have a2 := rangeL_mem'.mp (p.mem_iff.mp h2)
  exact ⟨a1.1, h3, a2.2⟩
theorem TreeOk.sorted {t : Tr} (h : TreeOk t) : sortT t.2 = t.2 := by
  obtain ⟨ps, ts, g, p, e⟩ := h.ex
  rw [e, sortT_idem]
theorem sort2 (x y : Int) : sortT [x, y] = if x ≤ y then [x, y] else [y, x] := by
  by_cases h : x ≤ y
  · rw [if_pos h]
    exact sortT_id (by simp [leT_int, h])
  · rw [if_neg h]
    have e : sortT [x, y] = sortT [y, x] := sortT_eq (List.Perm.swap _ _ _)
    rw [e]
    exact sortT_id (by simp [leT_int]; omega)

theorem fm_congr {a b : Type} {f g : a → Option b} : ∀ {l : List a}, (∀ x ∈ l, f x = g x) → l.filterMap f = l.filterMap g
  | [], _ => rfl
  | x :: l, h => by
    have h1 := h x List.mem_cons_self
    have h2 := fm_congr (l := l) fun y hy => h y (List.mem_cons_of_mem _ hy)
    rw [List.filterMap_cons, List.filterMap_cons, h1, h2]
end PG

set_option Elab.async false
set_option linter.all false
set_option maxRecDepth 100000
namespace G
open PySem PySem.Spec PyProof.Rows L2 PG
open PySem.W (T3 T4 Datum DatumOrd)
def top (i : Nat) : Stmt := PySem.Challenge.pw_everyseat_k01_trees_made.main.body.getD i (.Pass ⟨0, 0, 0, 0⟩)
structure Nb (mg : Str → Option Value) : Prop where
  b_bool : mg "bool" = none
  b_int : mg "int" = none
  b_isinstance : mg "isinstance" = none
  b_len : mg "len" = none
  b_list : mg "list" = none
  b_max : mg "max" = none
  b_range : mg "range" = none
  b_sorted : mg "sorted" = none
  b_tuple : mg "tuple" = none
section
variable {P : Program} {w : World} {K : PySem.W.Frag} {mg : Str → Option Value} {base : Heap}
abbrev s_tied_places : Stmt := top 4
theorem sc_tied_places : FnScope ["many", "ties", "found", "a", "b", "length", "near", "place"] ["many", "ties"] (defScope s_tied_places) := ⟨rfl, rfl, rfl, by decide +kernel, rfl, by decide +kernel, by decide +kernel⟩
def addAt (fs : List (List Int)) (a b : Int) : M (List (List Int)) := match ixN fs.length a with
  | some j => (match fs[j]? with
    | some x => appL x b >>= fun y => .ok (fs.set j y)
    | none => bad)
  | none => bad
def m_tied_places (x_many : Int) (x_ties : List (T3 Int Int Int)) : M (List (List Int)) :=
  chk (okR x_many) >>= fun _ =>
  loopN (fun (t : T3 Int Int Int) (fs : List (List Int)) => addAt fs t.a t.b >>= fun f1 => addAt f1 t.b t.a) (sortT x_ties) (List.replicate x_many.toNat []) >>= fun fs =>
  .ok (fs.map sortT)
theorem wp_addAt {b : Type} {Q : b → Prop} {E : String → Prop} {fs : List (List Int)} {a y : Int} {k : List (List Int) → M b} (h : wp (addAt fs a y >>= k) Q E) :
    ∃ j x, ixN fs.length a = some j ∧ fs[j]? = some x ∧ x.length < sizeLine ∧ wp (k (fs.set j (x ++ [y]))) Q E := by
  unfold addAt at h
  cases e : ixN fs.length a with
  | none => rw [e] at h; exact h.elim
  | some j =>
    rw [e] at h
    have h : wp ((match fs[j]? with
      | some x => appL x y >>= fun y => .ok (fs.set j y)
      | none => bad) >>= k) Q E := h
    cases e2 : fs[j]? with
    | none => rw [e2] at h; exact h.elim
    | some x =>
      rw [e2] at h
      have h : wp ((appL x y >>= fun y => .ok (fs.set j y)) >>= k) Q E := h
      rw [wp_bind] at h
      obtain ⟨c, h⟩ := wp_appL h
      exact ⟨j, x, rfl, e2, c, h⟩
/-- all lists are new -/
def sp_tied_places_own (mg : Str → Option Value) : Sp := fun vs H Q E => ∃ (F : Hp) (x_many : Int) (v_ties : V) (x_ties : List (T3 Int Int Int)), vs = [.int x_many, v_ties] ∧ Pre F [] H ∧ R F v_ties x_ties ∧
  wp (m_tied_places x_many x_ties) (fun r => ∀ (F' H' : Hp) (p : Addr) (ps : List LC), Gr [] F H F' H' → OwnLL H F' H' p ps → ps.map (·.2) = r → Q (.ref p) H')
  (fun n => ∀ (C : Addr) (H' : Hp), mg (Str.ofString n) = some (.ref C) → Kp [] H H' → E (.ref C) none H')
def sp_tied_places (mg : Str → Option Value) : Sp := fun vs H Q E => ∃ (F : Hp) (x_many : Int) (v_ties : V) (x_ties : (List (T3 Int Int Int))), vs = [.int x_many, v_ties] ∧ Pre F [] H ∧ R (a := (List (T3 Int Int Int))) F v_ties x_ties ∧
  wp (m_tied_places x_many x_ties) (fun r => ∀ (F' H' : Hp), Gr [] F H F' H' → ∀ (p : Addr) (w : List V), H p = none → F' p = none → H' p = some (.lst w) → RL (a := (List Int)) F' w r → Q (.ref p) H')
  (fun n => ∀ (C : Addr) (H' : Hp), mg (Str.ofString n) = some (.ref C) → Kp [] H H' → E (.ref C) none H')
theorem lc_set {ps : List LC} {j : Nat} {c : LC} {y : List Int} (h : ps[j]? = some c) : (ps.set j (c.1, y)).map (·.1) = ps.map (·.1) ∧ (ps.set j (c.1, y)).map (·.2) = (ps.map (·.2)).set j y := by
  refine ⟨?_, by rw [List.map_set]⟩
  rw [List.map_set]
  refine List.ext_getElem? fun k => ?_
  by_cases hk : j = k
  · subst hk
    have hl := (List.getElem?_eq_some_iff.mp h).1
    rw [List.getElem?_set_self (by simpa using hl), List.getElem?_map, h]
    rfl
  · rw [List.getElem?_set_ne hk]
/-- one append -/
theorem tp_app {Z : Ent} {F H : Hp} {D : Addr} {o : HO} {rest : List (Addr × HO)} {ps : List LC} (O : Ow Z F ((D, o) :: ps.map lcell) H) {j : Nat} {c : LC} (h : ps[j]? = some c) (y : Int) :
    Ow Z F ((D, o) :: (ps.set j (c.1, c.2 ++ [y])).map lcell) (upd H c.1 (.lst (c.2.map V.int ++ [V.int y]))) ∧ H c.1 = some (.lst (c.2.map V.int)) := by
  have e : ((D, o) :: ps.map lcell)[j + 1]? = some (c.1, .lst (c.2.map V.int)) := by
    rw [List.getElem?_cons_succ, List.getElem?_map, h]
    rfl
  refine ⟨?_, O.at (j + 1) e⟩
  have q := O.set (j + 1) (.lst (c.2.map V.int ++ [V.int y])) e
  have e2 : ((D, o) :: ps.map lcell).set (j + 1) (c.1, .lst (c.2.map V.int ++ [V.int y])) = (D, o) :: (ps.set j (c.1, c.2 ++ [y])).map lcell := by
    rw [List.set_cons_succ, List.map_set]
    unfold lcell
    rw [List.map_append]
    rfl
  rw [e2] at q
  exact q
theorem tp_at {ps : List LC} {j : Nat} {x : List Int} (h : (ps.map (·.2))[j]? = some x) : ∃ c, ps[j]? = some c ∧ c.2 = x := by
  rw [List.getElem?_map] at h
  cases e : ps[j]? with
  | none => rw [e] at h; cases h
  | some c => rw [e] at h; exact ⟨c, rfl, Option.some.inj h⟩
theorem tp_ix {ps : List LC} {a : Int} {j : Nat} {c : LC} (e : ixN (ps.map (·.2)).length a = some j) (h : ps[j]? = some c) : atI (lrefs ps) a = some (.ref c.1) := by
  unfold atI lrefs
  rw [List.length_map] at e ⊢
  rw [e]
  show (lrefs ps)[j]? = _
  rw [List.getElem?_map, h]
  rfl
set_option maxHeartbeats 4000000 in
theorem ok_tied_places_own (nb : Nb mg) (D : Df K mg "tied_places" "tied_places" s_tied_places ["many", "ties"]) : Ca P w K mg base "tied_places" 1 ["many", "ties"] (sp_tied_places_own mg) := by
  refine Ca.mk' D sc_tied_places (fun vs H Q E h => ?_) (fun q_ f_ cdv A outer s H vs Q E hr h => ?_)
  · obtain ⟨F, _, _, _, rfl, _⟩ := h
    rfl
  · obtain ⟨F, x_many, v_ties, x_ties, rfl, P0, f_ties, hk⟩ := h
    have nd := sc_tied_places.nd
    have hu128 := hu128_of hr
    have O := P0.start
    refine ⟨_, pss_cons (ps_setLc (i := 2) (own := [("place", 7)]) (g := _) (tt := _) rfl nd rfl rfl (sw_true rfl rfl rfl (by decide +kernel)) (pi_range1 rfl nb.b_range (pa_cons (pv 0) pa_nil))
        (blkOk_by (own := [("place", 7)]) (N := ["many", "ties", "found", "a", "b", "length", "near", "place"]) (sc := defScope s_tied_places) (by decide +kernel)) (fun _ _ _ _ _ => (pg_name (i := 7) nd rfl (Or.inl rfl))) (fun _ _ _ _ _ => pts_nil) (fun _ _ _ _ _ => pe_lst pa_nil))
      (pss_cons (ps_for (passes_of rfl) rfl (pi_list (pe_callB (cr_sortedT (T3 Int Int Int) hu128) (by rfl) nb.b_sorted (by decide +kernel) (pa_cons (pv 1) pa_nil)))
        (pg_tup rfl (pgs_cons (pg_name (i := 3) nd rfl (Or.inl rfl)) (pgs_cons (pg_name (i := 4) nd rfl (Or.inl rfl)) (pgs_cons (pg_name (i := 5) nd rfl (Or.inl rfl)) pgs_nil))))
        (pss_cons (ps_expr (pe_bm PySem.F.plainAttrs_list PySem.F.slot_list_append PySem.F.type_list_append mt_append (pe_ix ix_list (pv 2) (pv 3) (fun _ _ => rfl)) (pa_cons (pv 4) pa_nil)))
          (pss_one (ps_expr (pe_bm PySem.F.plainAttrs_list PySem.F.slot_list_append PySem.F.type_list_append mt_append (pe_ix ix_list (pv 2) (pv 4) (fun _ _ => rfl)) (pa_cons (pv 3) pa_nil))))))
      (pss_one (ps_ret (pe_lc (own := [("near", 6)]) (g := _) (tt := _) rfl nd (pi_list (pv 2))
        (blkOk_by (own := [("near", 6)]) (N := ["many", "ties", "found", "a", "b", "length", "near", "place"]) (sc := defScope s_tied_places) (by decide +kernel)) (fun _ _ _ _ _ => (pg_name (i := 6) nd rfl (Or.inl rfl))) (fun _ _ _ _ _ => pts_nil)
        (fun _ _ _ _ _ => pe_callB (cr_sortedT Int hu128) (by rfl) nb.b_sorted (by decide +kernel) (pa_cons (pv 6) pa_nil)))))), ?_⟩
    obtain ⟨c1, hk⟩ := wp_chk hk
    obtain ⟨L, hL, hLs, hLd⟩ := loopN_L hk
    refine ⟨_, rfl, _, rfl, c1.lo, c1.hi, fun D hD => ?_⟩
    refine lc_range (lo := 0) (n := x_many.toNat) (fun i H => ∃ ps : List LC, Ow _ F ((D, .lst (lrefs ps)) :: ps.map lcell) H ∧ ps.map (·.2) = List.replicate i []) ⟨[], O.new hD, rfl⟩ ?_ ?_
    · rintro i H1 hi ⟨ps, O1, e1⟩
      refine ⟨rfl, (by show 0 ≤ sizeLine; decide), fun q hq => ?_⟩
      have O2 := O1.new (o := .lst []) hq
      have hlen : ps.length = i := by
        have := congrArg List.length e1
        simpa using this
      have b := c1.2
      refine ⟨_, O2.at 1 rfl, lt_line (by rw [List.length_map]; omega), ps ++ [(q, [])], ?_, by rw [List.map_append, e1, List.replicate_succ']; rfl⟩
      have O3 := O2.set 1 (.lst ((lrefs ps) ++ [V.ref q])) rfl
      have ea : lrefs (ps ++ [(q, [])]) = lrefs ps ++ [V.ref q] := List.map_append
      rw [ea, List.map_append]
      refine O3.perm ?_
      show ((q, HO.lst []) :: (D, _) :: ps.map lcell).Perm ((D, _) :: (ps.map lcell ++ [(q, HO.lst [])]))
      refine (List.Perm.swap _ _ _).trans (List.Perm.cons _ ?_)
      exact (List.perm_append_comm (l₁ := [(q, HO.lst [])]) (l₂ := ps.map lcell))
    · rintro H1 ⟨ps, O1, e1⟩
      obtain ⟨p1, w1, e2, h2, hl2⟩ := R.lst_ f_ties
      cases e2
      refine ⟨_, rfl, _, _, _, rfl, O1.s _ _ h2, RL.mono hl2 O1.s, fun p3 hp3 => ?_⟩
      obtain ⟨F4, O4, S4, h4⟩ := O1.putE hp3 (.lst (sortV w1 x_ties))
      have hl4 := (RL.sorted hl2).mono S4
      refine ⟨_, rfl, ⟨_, SqLF O4.s h4⟩, ?_⟩
      rw [← e1] at hL
      refine for_list (K := K) (xs := sortV w1 x_ties) (fun i σ H => ∃ (ps' : List LC) (t3 t4 t5 : Option V), σ = [some (V.int x_many), some (V.ref p1), some (V.ref D), t3, t4, t5, none, none] ∧ Ow _ F4 ((D, .lst (lrefs ps')) :: ps'.map lcell) H ∧ ps'.length = x_many.toNat ∧ L (List.drop i (sortT x_ties)) (ps'.map fun (c : LC) => c.2))
        ⟨ps, none, none, none, rfl, O4, (by have := congrArg List.length e1; simpa using this), hL⟩ (fun i_ σ_ H_ _ hp_ => ?_) ?_ ?_
      · obtain ⟨_, _, _, _, _, hO_, _⟩ := hp_
        exact SqLF hO_.s h4
      · rintro i x σ H5 hi ⟨ps', t3, t4, t5, rfl, O5, hl5, hL5⟩
        obtain ⟨y, ey, hy⟩ := RL.got hl4 hi
        rw [drop_at ey] at hL5
        have hk := hLs _ _ _ hL5
        obtain ⟨p6, v1, v2, v3, e6, h6, r1, r2, r3⟩ := R.t3_ hy
        cases e6
        obtain rfl := R.int_ r1
        obtain rfl := R.int_ r2
        obtain rfl := R.int_ r3
        obtain ⟨j, x, ej, ex, cl, hk⟩ := wp_addAt hk
        have hk := wp_bind (k := fun r => Except.ok r) |>.mpr hk
        obtain ⟨j2, x2, ej2, ex2, cl2, hk⟩ := wp_addAt hk
        obtain ⟨c, hc, rfl⟩ := tp_at ex
        obtain ⟨O6, hq6⟩ := tp_app (rest := []) O5 hc y.b
        obtain ⟨l1, l2⟩ := lc_set (y := c.2 ++ [y.b]) hc
        rw [← l2] at ex2 ej2
        obtain ⟨c', hc', rfl⟩ := tp_at ex2
        obtain ⟨O7, hq7⟩ := tp_app (rest := []) O6 hc' y.a
        obtain ⟨l3, l4⟩ := lc_set (y := c'.2 ++ [y.a]) hc'
        have eD : lrefs (ps'.set j (c.1, c.2 ++ [y.b])) = lrefs ps' := by
          have := congrArg (List.map V.ref) l1
          rw [List.map_map, List.map_map] at this
          exact this
        have eD2 : lrefs ((ps'.set j (c.1, c.2 ++ [y.b])).set j2 (c'.1, c'.2 ++ [y.a])) = lrefs (ps'.set j (c.1, c.2 ++ [y.b])) := by
          have := congrArg (List.map V.ref) l3
          rw [List.map_map, List.map_map] at this
          exact this
        have i2 : atI (lrefs ps') y.b = some (.ref c'.1) := by
          rw [← eD]
          exact tp_ix ej2 hc'
        refine ⟨_, _, rfl, SqTF O5.s h6, rfl, _, _, rfl, _, _, rfl, _, _, rfl, rfl, _, rfl, _, rfl, _, _, _, _, rfl, rfl, SqL.of (O5.at 0 rfl), tp_ix ej hc, .inl ⟨rfl, _, SqL.of hq6⟩, _, rfl, _, _, _, rfl, rfl, hq6, by rw [List.length_map]; exact cl, ?_⟩
        refine ⟨_, rfl, _, rfl, _, _, _, _, rfl, rfl, SqL.of (O6.at 0 rfl), i2, .inl ⟨rfl, _, SqL.of hq7⟩, _, rfl, _, _, _, rfl, rfl, hq7, by rw [List.length_map]; exact cl2, ?_⟩
        refine ⟨_, _, _, _, rfl, by rw [eD2, eD]; exact O7, by rw [List.length_set, List.length_set]; exact hl5, ?_⟩
        rw [l4, l2]
        exact hk
      · rintro σ H5 ⟨ps', t3, t4, t5, rfl, O5, hl5, hL5⟩
        rw [drop_end hl4.len] at hL5
        have hk := hLd _ hL5
        refine ⟨_, rfl, _, rfl, ⟨_, SqL.of (O5.at 0 rfl)⟩, fun D2 hD2 => ?_⟩
        have b1 := c1.2
        refine lc_list (K := K) (xs := lrefs ps') (fun i H => ∃ qs : List LC, Ow _ F4 ((D2, .lst (lrefs qs)) :: (qs.map lcell ++ ((D, .lst (lrefs ps')) :: ps'.map lcell))) H ∧ qs.map (·.2) = ((ps'.map (·.2)).take i).map sortT)
          ⟨[], O5.new hD2, by simp⟩ (fun i_ H_ _ hp_ => ?_) ?_ ?_
        · obtain ⟨qs, hO_, _⟩ := hp_
          exact SqL.of (hO_.ch (D, _) (List.mem_cons_of_mem _ (List.mem_append_right _ List.mem_cons_self)))
        · rintro i x H6 hi ⟨qs, O6, e6⟩
          obtain ⟨c, hc, rfl⟩ : ∃ c, ps'[i]? = some c ∧ x = V.ref c.1 := by
            have hi : (ps'.map fun (c : LC) => V.ref c.1)[i]? = some x := hi
            rw [List.getElem?_map] at hi
            cases e : ps'[i]? with
            | none => rw [e] at hi; cases hi
            | some c => rw [e] at hi; exact ⟨c, rfl, (Option.some.inj hi).symm⟩
          have hm : lcell c ∈ ps'.map lcell := List.mem_map.mpr ⟨c, List.mem_of_getElem? hc, rfl⟩
          have hq := O6.ch (lcell c) (List.mem_cons_of_mem _ (List.mem_append_right _ (List.mem_cons_of_mem _ hm)))
          have hil := (List.getElem?_eq_some_iff.mp hc).1
          have hql : qs.length ≤ i := by
            have := congrArg List.length e6
            simp at this
            omega
          have es : sortV (c.2.map V.int) c.2 = (sortT c.2).map V.int := (RL.sorted (H := F) RL.of_ints).ints
          refine ⟨rfl, _, rfl, _, _, c.2, rfl, hq, RL.of_ints, fun p hp => ?_⟩
          have O7 := O6.new (o := .lst (sortV (c.2.map V.int) c.2)) hp
          refine ⟨_, O7.at 1 rfl, lt_line (by rw [List.length_map]; omega), qs ++ [(p, sortT c.2)], ?_, ?_⟩
          · have O8 := O7.set 1 (.lst (lrefs qs ++ [V.ref p])) rfl
            have ea : lrefs (qs ++ [(p, sortT c.2)]) = lrefs qs ++ [V.ref p] := List.map_append
            rw [ea, List.map_append]
            refine O8.perm ?_
            rw [es]
            show ((p, HO.lst _) :: (D2, _) :: (qs.map lcell ++ _)).Perm ((D2, _) :: (qs.map lcell ++ [(p, HO.lst _)] ++ _))
            refine (List.Perm.swap _ _ _).trans (List.Perm.cons _ ?_)
            rw [List.append_assoc]
            exact List.perm_middle.symm
          · rw [List.map_append, e6]
            have e7 : (ps'.map (·.2))[i]? = some c.2 := by rw [List.getElem?_map, hc]; rfl
            rw [List.take_succ, e7, List.map_append]
            rfl
        · rintro H6 ⟨qs, O6, e6⟩
          have el : (lrefs ps').length = (ps'.map (·.2)).length := by rw [List.length_map, List.length_map]
          rw [el, List.take_length] at e6
          have hsub : ∀ c ∈ qs, lcell c ∈ (D2, HO.lst (lrefs qs)) :: (qs.map lcell ++ ((D, .lst (lrefs ps')) :: ps'.map lcell)) := fun c hc => List.mem_cons_of_mem _ (List.mem_append_left _ (List.mem_map.mpr ⟨c, hc, rfl⟩))
          have nas : ∀ b : Addr, ¬ b ∈ ([] : List Addr) := fun b h => nomatch h
          refine hk F4 H6 D2 qs O6.g ⟨O5.was hD2, O6.cf _ List.mem_cons_self, O6.ch _ List.mem_cons_self, fun c hc => (O6.ca _ (hsub c hc)).resolve_left (nas _), fun c hc => O6.cf _ (hsub c hc), fun c hc => O6.ch _ (hsub c hc), ?_⟩ e6
          have n := O6.nd
          rw [List.map_cons, List.map_append, List.nodup_cons, List.nodup_append] at n
          rw [List.nodup_cons]
          have em : (qs.map lcell).map (·.1) = qs.map (·.1) := by
            rw [List.map_map]
            rfl
          rw [em] at n
          exact ⟨fun h => n.1 (List.mem_append_left _ h), n.2.1⟩
theorem ok_tied_places (nb : Nb mg) (D : Df K mg "tied_places" "tied_places" s_tied_places ["many", "ties"]) : Ca P w K mg base "tied_places" 1 ["many", "ties"] (sp_tied_places mg) := by
  refine FnOk.impC (ok_tied_places_own nb D) fun vs H Q E h => ?_
  obtain ⟨F, x_many, v_ties, x_ties, rfl, P0, f_ties, hk⟩ := h
  refine ⟨F, x_many, v_ties, x_ties, rfl, P0, f_ties, wp_mono hk fun r k F' H' p ps g L e => ?_⟩
  obtain ⟨F2, g2, n2, rl⟩ := L.frz g
  rw [e] at rl
  exact k F2 H' g2 p _ L.pn n2 L.ph rl

abbrev s_come_to : Stmt := top 5
theorem sc_come_to : FnScope ["near", "place", "found", "at", "other"] ["near", "place"] (defScope s_come_to) := ⟨rfl, rfl, rfl, by decide +kernel, rfl, by decide +kernel, by decide +kernel⟩
def m_come_to (x_near : (List (List Int))) (x_place : Int) : M ((List Int)) :=
whL (r := Unit) (fun (st17 : Int × (List Int)) =>
if st17.1 < (st17.2.length : Int) then (
opt (atI st17.2 st17.1) >>= fun y25 =>
opt (atI x_near y25) >>= fun y35 =>
loopN (fun (y45 : Int) (st56 : (List Int)) =>
if y45 ∉ st56 then (
appL st56 y45 >>= fun _ =>
.ok (st56 ++ [y45]))
else (
.ok st56)) y35 st17.2 >>= fun st72 =>
.ok (.go ((st17.1 + (1 : Int)), st72)))
else (
.ok (.stop (st17.1, st17.2)))) 1000000 ((0 : Int), [x_place]) >>= fun f89 => match f89 with
| .rt _ => bad
| .nx st82 =>
.ok st82.2
def sp_come_to (mg : Str → Option Value) : Sp := fun vs H Q E => ∃ (F : Hp) (v_near : V) (x_near : (List (List Int))) (x_place : Int), vs = [v_near, V.int x_place] ∧ Pre F [] H ∧ R (a := (List (List Int))) F v_near x_near ∧
  wp (m_come_to x_near x_place) (fun r => ∀ (F' H' : Hp), Gr [] F H F' H' → ∀ (p : Addr) (w : (List V)), H p = none → F' p = none → H' p = some (.lst w) → RL (a := Int) F' w r → Q (.ref p) H')
  (fun n => ∀ (C : Addr) (H' : Hp), mg (Str.ofString n) = some (.ref C) → Kp [] H H' → E (.ref C) none H')
set_option maxHeartbeats 2000000 in
theorem ok_come_to (nb : Nb mg) (D : Df K mg "come_to" "come_to" s_come_to ["near", "place"]) : Ca P w K mg base "come_to" 1 ["near", "place"] (sp_come_to mg) := by
  refine Ca.mk' D sc_come_to (fun vs H Q E h => ?_) (fun q_ f_ cdv A outer s H vs Q E hr h => ?_)
  · obtain ⟨F, _, _, _, rfl, _⟩ := h
    rfl
  · obtain ⟨F, v_near, x_near, x_place, rfl, P0, f_near, hk⟩ := h
    have nd := sc_come_to.nd
    have hu64 := hr.units
    have hu128 := hu128_of hr
    have O := P0.start
    refine ⟨_, (pss_cons (ps_set (i := 2) nd rfl (Or.inl rfl) (pe_lst (pa_cons (pv 1) pa_nil)))
  (pss_cons (ps_set (i := 3) nd rfl (Or.inl rfl) pe_int)
  (pss_cons (ps_while (passes_of rfl) (pt_cmpR op_lt (pv 3) (pe_callB call_lenT (by rfl) nb.b_len PySem.boot_len (pa_cons (pv 2) pa_nil)) (nomark _)) (pss_cons (ps_for (passes_of rfl) rfl (pi_list (pe_ix (ixListK (K := K) rfl) (pv 0) (pe_ix (ixListK (K := K) rfl) (pv 2) (pv 3) (fun _ _ => rfl)) (fun _ _ => rfl))) (pg_name (i := 4) nd rfl (Or.inl rfl)) (pss_one (ps_if (pt_cmpR (op_ninT Int hu64) (pv 4) (pv 2) rfl) (pss_one (ps_expr (pe_bm PySem.F.plainAttrs_list PySem.F.slot_list_append PySem.F.type_list_append mt_append (pv 2) (pa_cons (pv 4) pa_nil)))) pss_nil)))
  (pss_one (ps_aug (i := 3) nd rfl (Or.inl rfl) pe_int ip_add))))
  (pss_one (ps_ret (pv 2)))))), ?_⟩
    refine ⟨_, rfl, (by show 1 ≤ sizeLine; decide), fun p2 hp3 => ?_⟩
    have hl5 : RL (a := Int) F ([V.int x_place]) ([x_place]) := RL.cons R.int RL.nil
    have z6 := O.was hp3
    have O4 := O.new (o := .lst ([V.int x_place])) hp3
    obtain ⟨L7, X8, hL9, hLs10, hLd11⟩ := whL_L hk
    refine while_P (fun n σ H_ => ∃ (F_ : Hp) (st : Int × (List Int)) (w_0 : (List V)) (t_0 : Option V), σ = [some v_near, some (V.int x_place), some (V.ref p2), some (V.int st.1), t_0] ∧ Same F F_ ∧ Ow (⟨[], F, H⟩ : Ent) F_ [(p2, .lst w_0)] H_ ∧ RL (a := Int) F_ w_0 st.2 ∧ L7 n st) (fun σ H_ => ∃ (F_ : Hp) (st : Int × (List Int)) (w_0 : (List V)) (t_0 : Option V), σ = [some v_near, some (V.int x_place), some (V.ref p2), some (V.int st.1), t_0] ∧ Same F F_ ∧ Ow (⟨[], F, H⟩ : Ent) F_ [(p2, .lst w_0)] H_ ∧ RL (a := Int) F_ w_0 st.2 ∧ X8 st) 1000000 ⟨F, ((0 : Int), [x_place]), [V.int x_place], none, rfl, Same.refl _, O4, hl5, hL9⟩ ?_ ?_
    rotate_left
    · rintro hex12 m13 sg14 H15 ⟨F22, st17, w19, t21, rfl, S16, O23, hl20, hL18⟩
      have f_near := f_near.mono S16
      have hk := hLs10 _ _ hL18
      refine ⟨_, rfl, _, rfl, _, _, _, rfl, (.inl (O23.at 0 rfl)), hl20.len, _, _, rfl, rfl, _, rfl, ?_⟩
      refine iteD (fun q24 => ?_) (fun q24 => ?_)
      · have hk := wp_if hk q24
        obtain ⟨y25, e26, hk⟩ := wp_opt hk
        obtain ⟨w27, e28, r29⟩ := hl20.atI e26
        obtain rfl := R.int_ r29
        obtain ⟨p30, w31, e32, h33, hl34⟩ := R.lst_ f_near
        cases e32
        obtain ⟨y35, e36, hk⟩ := wp_opt hk
        obtain ⟨w37, e38, r39⟩ := hl34.atI e36
        obtain ⟨p40, w41, e42, h43, hl44⟩ := R.lst_ r39
        cases e42
        obtain ⟨L46, hL47, hLs48, hLd49⟩ := loopN_L hk
        refine ⟨_, (fun _ _ h_ => h_), _, rfl, _, rfl, _, rfl, _, _, _, _, rfl, rfl, (SqL.of (O23.at 0 rfl)), e28, _, _, _, _, rfl, rfl, (SqLF O23.s h33), e38, _, rfl, ⟨_, (SqLF O23.s h43)⟩, ?_⟩
        refine for_list (K := K) (xs := w41) (fun i σ H => ∃ (F_ : Hp) (st : (List Int)) (w_0 : (List V)) (t_0 : Option V), σ = [some (V.ref p30), some (V.int x_place), some (V.ref p2), some (V.int st17.1), t_0] ∧ Same F22 F_ ∧ Ow _ F_ [(p2, .lst w_0)] H ∧ RL (a := Int) F_ w_0 st ∧ L46 (List.drop i y35) st) ⟨F22, st17.2, w19, t21, rfl, Same.refl _, O23, hl20, hL47⟩ (fun i_ σ_ H_ _ hp_ => ?_) ?_ ?_
        · obtain ⟨_, _, _, _, _, hS_, hO_, _⟩ := hp_
          exact SqLF hO_.s (hS_ _ _ h43)
        · rintro i50 x51 sg52 H53 hi54 ⟨F60, st56, w57, t59, rfl, S55, O61, hl58, hL47⟩
          have f_near := f_near.mono S55
          have S16 := S16.trans S55
          have h33 := S55 _ _ h33
          have hl34 := hl34.mono S55
          have r39 := r39.mono S55
          have h43 := S55 _ _ h43
          have hl44 := hl44.mono S55
          obtain ⟨y45, e62, r63⟩ := RL.got hl44 hi54
          rw [drop_at e62] at hL47
          have hk := hLs48 _ _ _ hL47
          obtain rfl := R.int_ r63
          refine ⟨_, rfl, _, rfl, _, _, _, _, R.int, rfl, (.inl (O61.at 0 rfl)), (RL.mono (hl58) O61.s), _, rfl, ?_⟩
          refine iteD (fun q64 => ?_) (fun q64 => ?_)
          · have hk := wp_if hk q64
            obtain ⟨c65, hk⟩ := wp_appL hk
            refine ⟨_, rfl, (.inl ⟨rfl, _, SqL.of (O61.at 0 rfl)⟩), _, rfl, _, _, _, rfl, rfl, (O61.at 0 rfl), (by rw [hl58.len]; exact c65), ?_⟩
            have O67 := O61.set 0 (.lst (w57 ++ [V.int y45])) rfl
            have hl68 : RL (a := Int) F60 (w57 ++ [V.int y45]) (st56 ++ [y45]) := RL.snoc hl58 R.int
            exact ⟨F60, (st56 ++ [y45]), (w57 ++ [V.int y45]), some (V.int y45), rfl, S55, O67, hl68, hk⟩
          · have hk := wp_el hk q64
            exact ⟨F60, st56, w57, some (V.int y45), rfl, S55, O61, hl58, hk⟩
        rintro sg69 H70 ⟨F77, st72, w74, t76, rfl, S71, O78, hl75, hL73⟩
        rw [drop_end hl44.len] at hL73
        have hk := hLd49 _ hL73
        have f_near := f_near.mono S71
        have S16 := S16.trans S71
        have h33 := S71 _ _ h33
        have hl34 := hl34.mono S71
        have r39 := r39.mono S71
        have h43 := S71 _ _ h43
        have hl44 := hl44.mono S71
        refine ⟨_, rfl, _, _, rfl, rfl, ?_⟩
        obtain ⟨m_, hm_, hk⟩ := hk
        exact ⟨m_, hm_, F77, ((st17.1 + (1 : Int)), st72), w74, t76, rfl, S16, O78, hl75, hk⟩
      · have hk := wp_el hk q24
        exact hex12 _ _ ⟨F22, (st17.1, st17.2), w19, t21, rfl, S16, O23, hl20, hk⟩
    rintro sg79 H80 ⟨F87, st82, w84, t86, rfl, S81, O88, hl85, hL83⟩
    have hk := hLd11 _ hL83
    have f_near := f_near.mono S81
    refine ⟨_, rfl, ?_⟩
    exact hk _ _  O88.g  _ _ z6 (O88.cf _ (List.mem_of_getElem? (i := 0) rfl)) (O88.at 0 rfl) hl85
abbrev s_tree_of : Stmt := top 6
theorem sc_tree_of : FnScope ["worths", "ties", "many", "pairs", "a", "b", "length"] ["worths", "ties"] (defScope s_tree_of) := ⟨rfl, rfl, rfl, by decide +kernel, rfl, by decide +kernel, by decide +kernel⟩
def m_tree_of (x_worths : (List Int)) (x_ties : (List (T3 Int Int Int))) : M (((List Int) × (List (T3 Int Int Int)))) :=
compS (fun (y11 : (T3 Int Int Int)) (st28 : Unit) =>
.ok (some (y11.a, y11.b), ())) x_ties () >>= fun q61 =>
if (q61.1.length : Int) ≠ ((x_worths.length : Int) - (1 : Int)) then (
raise "NoTree")
else (
compS (fun (y78 : (Int × Int)) (st95 : Unit) =>
if (0 : Int) ≤ y78.1 then (
if y78.1 < y78.2 then (
if y78.2 < (x_worths.length : Int) then (
.ok (none, ()))
else (
.ok (some (y78.1, y78.2), ())))
else (
.ok (some (y78.1, y78.2), ())))
else (
.ok (some (y78.1, y78.2), ()))) q61.1 () >>= fun q143 =>
if q143.1 ≠ ([] : List (Int × Int)) then (
raise "NoTree")
else (
m_tied_places (x_worths.length : Int) x_ties >>= fun r158 =>
m_come_to r158 (0 : Int) >>= fun r177 =>
if (r177.length : Int) < (x_worths.length : Int) then (
raise "NoTree")
else (
.ok (x_worths, (sortT x_ties)))))
def sp_tree_of (mg : Str → Option Value) : Sp := fun vs H Q E => ∃ (F : Hp) (v_worths : V) (x_worths : (List Int)) (v_ties : V) (x_ties : (List (T3 Int Int Int))), vs = [v_worths, v_ties] ∧ Pre F [] H ∧ R (a := (List Int)) F v_worths x_worths ∧ R (a := (List (T3 Int Int Int))) F v_ties x_ties ∧
  wp (m_tree_of x_worths x_ties) (fun r => ∀ (F' H' : Hp), Gr [] F H F' H' → ∀ (p : Addr) (q0 : Addr) (v0 : (List V)) (q1 : Addr) (v1 : (List V)), H q0 = none → F' q0 = none → H' q0 = some (.lst v0) → RL (a := Int) F' v0 r.1 → H q1 = none → F' q1 = none → H' q1 = some (.lst v1) → RL (a := (T3 Int Int Int)) F' v1 r.2 → q0 ≠ q1 → F' p = some (.tup [.ref q0, .ref q1]) → Q (.ref p) H')
  (fun n => ∀ (C : Addr) (H' : Hp), mg (Str.ofString n) = some (.ref C) → Kp [] H H' → E (.ref C) none H')
set_option maxHeartbeats 2000000 in
theorem ok_tree_of (nb : Nb mg) (C_come_to : Ca P w K mg base "come_to" 1 ["near", "place"] (sp_come_to mg)) (C_tied_places : Ca P w K mg base "tied_places" 1 ["many", "ties"] (sp_tied_places mg)) (E_NoTree : ∃ C, Xc K mg "NoTree" C) (D : Df K mg "tree_of" "tree_of" s_tree_of ["worths", "ties"]) : Ca P w K mg base "tree_of" 2 ["worths", "ties"] (sp_tree_of mg) := by
  obtain ⟨fa_come_to, fd_come_to, G_come_to, M_come_to, K_come_to, B_come_to⟩ := C_come_to.ex
  obtain ⟨fa_tied_places, fd_tied_places, G_tied_places, M_tied_places, K_tied_places, B_tied_places⟩ := C_tied_places.ex
  obtain ⟨XC_NoTree, X_NoTree⟩ := E_NoTree
  refine Ca.mk' D sc_tree_of (fun vs H Q E h => ?_) (fun q_ f_ cdv A outer s H vs Q E hr h => ?_)
  · obtain ⟨F, _, _, _, _, rfl, _⟩ := h
    rfl
  · obtain ⟨F, v_worths, x_worths, v_ties, x_ties, rfl, P0, f_worths, f_ties, hk⟩ := h
    have nd := sc_tree_of.nd
    have hu64 := hr.units
    have hu128 := hu128_of hr
    have O := P0.start
    refine ⟨_, (pss_cons (ps_set (i := 2) nd rfl (Or.inr rfl) (pe_callB call_lenT (by rfl) nb.b_len PySem.boot_len (pa_cons (pv 0) pa_nil)))
  (pss_cons (ps_setLc (i := 3) (own := [("a", 4), ("b", 5), ("length", 6)]) (g := gTup K 3 (gCons (gName 4) (gCons (gName 5) (gCons (gName 6) (gNil))))) (tt := _) rfl nd rfl rfl (sw_true rfl rfl rfl (by decide +kernel)) (pi_list (pv 1)) (blkOk_by (own := [("a", 4), ("b", 5), ("length", 6)]) (N := ["worths", "ties", "many", "pairs", "a", "b", "length"]) (sc := defScope s_tree_of) (by decide +kernel)) (fun _ _ _ _ _ => (pg_tup rfl (pgs_cons (pg_name (i := 4) nd rfl (Or.inl rfl)) (pgs_cons (pg_name (i := 5) nd rfl (Or.inl rfl)) (pgs_cons (pg_name (i := 6) nd rfl (Or.inl rfl)) pgs_nil))))) (fun _ _ _ _ _ => pts_nil) (fun _ _ _ _ _ => (pe_tup (pa_cons (pv 4) (pa_cons (pv 5) pa_nil)))))
  (pss_cons (ps_if (PW.pt (pw_or (pt_cmpR (op_neT Int hu64) (pe_callB call_lenT (by rfl) nb.b_len PySem.boot_len (pa_cons (pv 3) pa_nil)) (pe_op op_sub (pv 2) pe_int) (nomark _)) (pw_or1 (pt_cmpR (op_neT (List (Int × Int)) hu64) (pe_lc (own := [("a", 4), ("b", 5)]) (g := gTup K 2 (gCons (gName 4) (gCons (gName 5) (gNil)))) (tt := _) rfl nd (pi_list (pv 3)) (blkOk_by (own := [("a", 4), ("b", 5)]) (N := ["worths", "ties", "many", "pairs", "a", "b", "length"]) (sc := defScope s_tree_of) (by decide +kernel)) (fun _ _ _ _ _ => (pg_tup rfl (pgs_cons (pg_name (i := 4) nd rfl (Or.inl rfl)) (pgs_cons (pg_name (i := 5) nd rfl (Or.inl rfl)) pgs_nil)))) (fun _ _ _ _ _ => (pts_one (pt_not (pt_chain3 op_le op_lt op_lt pe_int (pv 4) (pv 5) (pv 2))))) (fun _ _ _ _ _ => (pe_tup (pa_cons (pv 4) (pa_cons (pv 5) pa_nil))))) (pe_lst pa_nil) (nomark _))))) (pss_one (ps_raise rfl (takes_of rfl rfl rfl rfl) (pmk_own PySem.F.excBase_ValueError X_NoTree.x X_NoTree.g X_NoTree.k (raises_own X_NoTree.b X_NoTree.t) rfl))) pss_nil)
  (pss_cons (ps_if (pt_cmpR op_lt (pe_callB call_lenT (by rfl) nb.b_len PySem.boot_len (pa_cons (pe_call G_come_to (hr.mono (by decide)) rfl M_come_to K_come_to B_come_to .nil (passes_call (takes_of rfl rfl rfl rfl) fun _ _ _ _ h => h) (pa_cons (pe_call G_tied_places (hr.mono (by decide)) rfl M_tied_places K_tied_places B_tied_places .nil (passes_call (takes_of rfl rfl rfl rfl) fun _ _ _ _ h => h) (pa_cons (pv 2) (pa_cons (pv 1) pa_nil))) (pa_cons pe_int pa_nil))) pa_nil)) (pv 2) (nomark _)) (pss_one (ps_raise rfl (takes_of rfl rfl rfl rfl) (pmk_own PySem.F.excBase_ValueError X_NoTree.x X_NoTree.g X_NoTree.k (raises_own X_NoTree.b X_NoTree.t) rfl))) pss_nil)
  (pss_one (ps_ret (pe_tup (pa_cons (pe_callTy (listOfK (K := K) rfl) (by rfl) nb.b_list (by decide +kernel) (pa_cons (pv 0) pa_nil)) (pa_cons (pe_callB (cr_sortedT (T3 Int Int Int) hu128) (by rfl) nb.b_sorted (by decide +kernel) (pa_cons (pv 1) pa_nil)) pa_nil))))))))), ?_⟩
    obtain ⟨p1, w2, e3, h4, hl5⟩ := R.lst_ f_worths
    cases e3
    obtain ⟨p6, w7, e8, h9, hl10⟩ := R.lst_ f_ties
    cases e8
    obtain ⟨c16, L12, hL13, hLs14, hLd15⟩ := compS_L hk
    refine ⟨_, rfl, _, _, _, rfl, (.inl (O.s _ _ h4)), hl5.len, _, rfl, _, rfl, ⟨_, (SqLF O.s h9)⟩, fun p17 hp18 => ?_⟩
    have z50 := O.was hp18
    refine lc_list (K := K) (xs := w7) (fun i H => ∃ (F_ : Hp) (st : Unit) (acc : List (Int × Int)) (wa : List V), Same F F_ ∧ Ow _ F_ [(p17, .lst wa)] H ∧ RL F_ wa acc ∧ wa.length ≤ i ∧ L12 (List.drop i x_ties) acc st) ⟨F, (), [], [], Same.refl _, O.new hp18, RL.nil, Nat.zero_le _, hL13⟩ (fun i_ H_ _ hp_ => ?_) ?_ ?_
    · obtain ⟨_, _, _, _, hS_, hO_, _⟩ := hp_
      exact SqLF hO_.s (hS_ _ _ h9)
    · rintro i19 x20 H21 hi22 ⟨F27, st28, acc24, wa25, S29, O31, hl30, la26, hL13⟩
      have f_worths := f_worths.mono S29
      have f_ties := f_ties.mono S29
      have h4 := S29 _ _ h4
      have hl5 := hl5.mono S29
      have h9 := S29 _ _ h9
      have hl10 := hl10.mono S29
      obtain ⟨y11, e32, r33⟩ := RL.got hl10 hi22
      rw [drop_at e32] at hL13
      have hk := hLs14 _ _ _ _ hL13
      obtain ⟨p34, v37, v38, v39, e35, h36, r40, r41, r42⟩ := R.t3_ r33
      cases e35
      obtain rfl := R.int_ r40
      obtain rfl := R.int_ r41
      obtain rfl := R.int_ r42
      refine ⟨_, _, rfl, (SqTF O31.s h36), rfl, _, _, rfl, _, _, rfl, _, _, rfl, rfl, rfl, ?_⟩
      refine ⟨_, rfl, _, rfl, (by show 2 ≤ sizeLine; decide), fun p43 hp44 => ?_⟩
      obtain ⟨F45, O46, S47, h48⟩ := O31.putE hp44 (.tup [V.int y11.a, V.int y11.b])
      have f_worths := f_worths.mono S47
      have f_ties := f_ties.mono S47
      have h4 := S47 _ _ h4
      have hl5 := hl5.mono S47
      have h9 := S47 _ _ h9
      have hl10 := hl10.mono S47
      have S29 := S29.trans S47
      have hl30 := hl30.mono S47
      have r33 := r33.mono S47
      have h36 := S47 _ _ h36
      have h49 : R (a := (Int × Int)) F45 (.ref p43) (y11.a, y11.b) := R.t2 h48 R.int R.int
      refine ⟨_, (O46.at 0 rfl), (comp_len la26 hi22 hl10.len c16), ?_⟩
      exact ⟨F45, (), acc24 ++ [(y11.a, y11.b)], wa25 ++ [V.ref p43], S29, O46.set 0 (.lst (wa25 ++ [V.ref p43])) rfl, RL.snoc hl30 h49, by rw [List.length_append]; exact Nat.succ_le_succ la26, hk⟩
    rintro H51 ⟨F52, st53, acc54, wa55, S56, O57, hl58, la59, hL60⟩
    rw [drop_end hl10.len] at hL60
    have hk := hLd15 _ _ hL60
    have f_worths := f_worths.mono S56
    have f_ties := f_ties.mono S56
    have h4 := S56 _ _ h4
    have hl5 := hl5.mono S56
    have h9 := S56 _ _ h9
    have hl10 := hl10.mono S56
    obtain ⟨F62, O63, S64, h65⟩ := O57.frzE 0 rfl z50
    have f_worths := f_worths.mono S64
    have f_ties := f_ties.mono S64
    have h4 := S64 _ _ h4
    have hl5 := hl5.mono S64
    have h9 := S64 _ _ h9
    have hl10 := hl10.mono S64
    have hl58 := hl58.mono S64
    have h66 := R.lst (a := (Int × Int)) h65 hl58
    obtain ⟨p67, w68, e69, h70, hl71⟩ := R.lst_ h66
    cases e69
    refine ⟨_, rfl, _, _, _, rfl, (.inl (O63.s _ _ h70)), hl71.len, _, rfl, _, _, rfl, rfl, _, _, R.int, R.int, _, rfl, ?_⟩
    refine iteD (fun q72 => ?_) (fun q72 => ?_)
    · have hk := wp_if hk q72
      refine iteT ?_
      exact hk _ _ X_NoTree.g O63.kp
    · have hk := wp_el hk q72
      obtain ⟨p73, w74, e75, h76, hl77⟩ := R.lst_ h66
      cases e75
      obtain ⟨c83, L79, hL80, hLs81, hLd82⟩ := compS_L hk
      refine ⟨_, rfl, _, rfl, ⟨_, (SqLF O63.s h76)⟩, fun p84 hp85 => ?_⟩
      have z132 := O63.was hp85
      refine lc_list (K := K) (xs := w74) (fun i H => ∃ (F_ : Hp) (st : Unit) (acc : List (Int × Int)) (wa : List V), Same F62 F_ ∧ Ow _ F_ [(p84, .lst wa)] H ∧ RL F_ wa acc ∧ wa.length ≤ i ∧ L79 (List.drop i acc54) acc st) ⟨F62, (), [], [], Same.refl _, O63.new hp85, RL.nil, Nat.zero_le _, hL80⟩ (fun i_ H_ _ hp_ => ?_) ?_ ?_
      · obtain ⟨_, _, _, _, hS_, hO_, _⟩ := hp_
        exact SqLF hO_.s (hS_ _ _ h76)
      · rintro i86 x87 H88 hi89 ⟨F94, st95, acc91, wa92, S96, O98, hl97, la93, hL80⟩
        have f_worths := f_worths.mono S96
        have f_ties := f_ties.mono S96
        have h4 := S96 _ _ h4
        have hl5 := hl5.mono S96
        have h9 := S96 _ _ h9
        have hl10 := hl10.mono S96
        have h66 := h66.mono S96
        have h70 := S96 _ _ h70
        have hl71 := hl71.mono S96
        have h76 := S96 _ _ h76
        have hl77 := hl77.mono S96
        obtain ⟨y78, e99, r100⟩ := RL.got hl77 hi89
        rw [drop_at e99] at hL80
        have hk := hLs81 _ _ _ _ hL80
        obtain ⟨p101, v104, v105, e102, h103, r106, r107⟩ := R.t2_ r100
        cases e102
        obtain rfl := R.int_ r106
        obtain rfl := R.int_ r107
        refine ⟨_, _, rfl, (SqTF O98.s h103), rfl, _, _, rfl, _, _, rfl, rfl, rfl, _, rfl, _, _, rfl, rfl, _, rfl, ?_⟩
        refine iteD (fun q108 => ?_) (fun q108 => ?_)
        · have hk := wp_if hk q108
          refine ⟨_, rfl, _, _, rfl, rfl, _, rfl, ?_⟩
          refine iteD (fun q109 => ?_) (fun q109 => ?_)
          · have hk := wp_if hk q109
            refine ⟨_, rfl, _, _, rfl, rfl, _, rfl, ?_⟩
            refine iteN (fun q110 => ?_) (fun q110 => ?_)
            · have hk := wp_if hk q110
              exact ⟨F94, (), acc91, wa92, S96, O98, hl97, Nat.le_succ_of_le la93, hk⟩
            · have hk := wp_el hk q110
              refine ⟨_, rfl, _, rfl, (by show 2 ≤ sizeLine; decide), fun p111 hp112 => ?_⟩
              obtain ⟨F113, O114, S115, h116⟩ := O98.putE hp112 (.tup [V.int y78.1, V.int y78.2])
              have f_worths := f_worths.mono S115
              have f_ties := f_ties.mono S115
              have h4 := S115 _ _ h4
              have hl5 := hl5.mono S115
              have h9 := S115 _ _ h9
              have hl10 := hl10.mono S115
              have h66 := h66.mono S115
              have h70 := S115 _ _ h70
              have hl71 := hl71.mono S115
              have h76 := S115 _ _ h76
              have hl77 := hl77.mono S115
              have S96 := S96.trans S115
              have hl97 := hl97.mono S115
              have r100 := r100.mono S115
              have h103 := S115 _ _ h103
              have h117 : R (a := (Int × Int)) F113 (.ref p111) (y78.1, y78.2) := R.t2 h116 R.int R.int
              refine ⟨_, (O114.at 0 rfl), (comp_len la93 hi89 hl77.len c83), ?_⟩
              exact ⟨F113, (), acc91 ++ [(y78.1, y78.2)], wa92 ++ [V.ref p111], S96, O114.set 0 (.lst (wa92 ++ [V.ref p111])) rfl, RL.snoc hl97 h117, by rw [List.length_append]; exact Nat.succ_le_succ la93, hk⟩
          · have hk := wp_el hk q109
            refine ⟨_, rfl, ?_⟩
            refine iteNF ?_
            refine ⟨_, rfl, _, rfl, (by show 2 ≤ sizeLine; decide), fun p118 hp119 => ?_⟩
            obtain ⟨F120, O121, S122, h123⟩ := O98.putE hp119 (.tup [V.int y78.1, V.int y78.2])
            have f_worths := f_worths.mono S122
            have f_ties := f_ties.mono S122
            have h4 := S122 _ _ h4
            have hl5 := hl5.mono S122
            have h9 := S122 _ _ h9
            have hl10 := hl10.mono S122
            have h66 := h66.mono S122
            have h70 := S122 _ _ h70
            have hl71 := hl71.mono S122
            have h76 := S122 _ _ h76
            have hl77 := hl77.mono S122
            have S96 := S96.trans S122
            have hl97 := hl97.mono S122
            have r100 := r100.mono S122
            have h103 := S122 _ _ h103
            have h124 : R (a := (Int × Int)) F120 (.ref p118) (y78.1, y78.2) := R.t2 h123 R.int R.int
            refine ⟨_, (O121.at 0 rfl), (comp_len la93 hi89 hl77.len c83), ?_⟩
            exact ⟨F120, (), acc91 ++ [(y78.1, y78.2)], wa92 ++ [V.ref p118], S96, O121.set 0 (.lst (wa92 ++ [V.ref p118])) rfl, RL.snoc hl97 h124, by rw [List.length_append]; exact Nat.succ_le_succ la93, hk⟩
        · have hk := wp_el hk q108
          refine ⟨_, rfl, ?_⟩
          refine iteNF ?_
          refine ⟨_, rfl, _, rfl, (by show 2 ≤ sizeLine; decide), fun p125 hp126 => ?_⟩
          obtain ⟨F127, O128, S129, h130⟩ := O98.putE hp126 (.tup [V.int y78.1, V.int y78.2])
          have f_worths := f_worths.mono S129
          have f_ties := f_ties.mono S129
          have h4 := S129 _ _ h4
          have hl5 := hl5.mono S129
          have h9 := S129 _ _ h9
          have hl10 := hl10.mono S129
          have h66 := h66.mono S129
          have h70 := S129 _ _ h70
          have hl71 := hl71.mono S129
          have h76 := S129 _ _ h76
          have hl77 := hl77.mono S129
          have S96 := S96.trans S129
          have hl97 := hl97.mono S129
          have r100 := r100.mono S129
          have h103 := S129 _ _ h103
          have h131 : R (a := (Int × Int)) F127 (.ref p125) (y78.1, y78.2) := R.t2 h130 R.int R.int
          refine ⟨_, (O128.at 0 rfl), (comp_len la93 hi89 hl77.len c83), ?_⟩
          exact ⟨F127, (), acc91 ++ [(y78.1, y78.2)], wa92 ++ [V.ref p125], S96, O128.set 0 (.lst (wa92 ++ [V.ref p125])) rfl, RL.snoc hl97 h131, by rw [List.length_append]; exact Nat.succ_le_succ la93, hk⟩
      rintro H133 ⟨F134, st135, acc136, wa137, S138, O139, hl140, la141, hL142⟩
      rw [drop_end hl77.len] at hL142
      have hk := hLd82 _ _ hL142
      have f_worths := f_worths.mono S138
      have f_ties := f_ties.mono S138
      have h4 := S138 _ _ h4
      have hl5 := hl5.mono S138
      have h9 := S138 _ _ h9
      have hl10 := hl10.mono S138
      have h66 := h66.mono S138
      have h70 := S138 _ _ h70
      have hl71 := hl71.mono S138
      have h76 := S138 _ _ h76
      have hl77 := hl77.mono S138
      obtain ⟨F144, O145, S146, h147⟩ := O139.frzE 0 rfl z132
      have f_worths := f_worths.mono S146
      have f_ties := f_ties.mono S146
      have h4 := S146 _ _ h4
      have hl5 := hl5.mono S146
      have h9 := S146 _ _ h9
      have hl10 := hl10.mono S146
      have h66 := h66.mono S146
      have h70 := S146 _ _ h70
      have hl71 := hl71.mono S146
      have h76 := S146 _ _ h76
      have hl77 := hl77.mono S146
      have hl140 := hl140.mono S146
      have h148 := R.lst (a := (Int × Int)) h147 hl140
      refine ⟨(by show 0 ≤ sizeLine; decide), fun p149 hp150 => ?_⟩
      have hl156 : RL (a := (Int × Int)) F144 ([]) ([] : List (Int × Int)) := RL.nil
      obtain ⟨F151, O152, S153, h154⟩ := O145.putE hp150 (.lst ([]))
      have f_worths := f_worths.mono S153
      have f_ties := f_ties.mono S153
      have h4 := S153 _ _ h4
      have hl5 := hl5.mono S153
      have h9 := S153 _ _ h9
      have hl10 := hl10.mono S153
      have h66 := h66.mono S153
      have h70 := S153 _ _ h70
      have hl71 := hl71.mono S153
      have h76 := S153 _ _ h76
      have hl77 := hl77.mono S153
      have h148 := h148.mono S153
      have hl156 := hl156.mono S153
      have h155 := R.lst (a := (Int × Int)) h154 hl156
      refine ⟨_, _, (R.mono h148 O152.s), (R.mono h155 O152.s), _, rfl, ?_⟩
      refine iteD (fun q157 => ?_) (fun q157 => ?_)
      · have hk := wp_if hk q157
        exact hk _ _ X_NoTree.g O152.kp
      · have hk := wp_el hk q157
        refine ⟨_, rfl, _, rfl, _, _, _, _, rfl, O152.pre0, f_ties, wp_call hk (fun r158 er159 hk F160 H161 g162 p163 w164 hn165 hf166 h167 hl168 => ?_) (fun n hn C H1 hC kp => hn C H1 hC (O152.kp0 kp))⟩
        have O169 := O152.call0 g162
        have S_ := g162.f
        have f_worths := f_worths.mono S_
        have f_ties := f_ties.mono S_
        have h4 := S_ _ _ h4
        have hl5 := hl5.mono S_
        have h9 := S_ _ _ h9
        have hl10 := hl10.mono S_
        have h66 := h66.mono S_
        have h70 := S_ _ _ h70
        have hl71 := hl71.mono S_
        have h76 := S_ _ _ h76
        have hl77 := hl77.mono S_
        have h148 := h148.mono S_
        have h155 := h155.mono S_
        have O170 := O152.got O169 rfl hn165 hf166 h167
        have z171 := O152.was hn165
        obtain ⟨F172, O173, S174, h175⟩ := O170.frzE 0 rfl z171
        have f_worths := f_worths.mono S174
        have f_ties := f_ties.mono S174
        have h4 := S174 _ _ h4
        have hl5 := hl5.mono S174
        have h9 := S174 _ _ h9
        have hl10 := hl10.mono S174
        have h66 := h66.mono S174
        have h70 := S174 _ _ h70
        have hl71 := hl71.mono S174
        have h76 := S174 _ _ h76
        have hl77 := hl77.mono S174
        have h148 := h148.mono S174
        have h155 := h155.mono S174
        have hl168 := hl168.mono S174
        have h176 := R.lst (a := (List Int)) h175 hl168
        refine ⟨_, _, _, _, rfl, O173.pre0, h176, wp_call hk (fun r177 er178 hk F179 H180 g181 p182 w183 hn184 hf185 h186 hl187 => ?_) (fun n hn C H1 hC kp => hn C H1 hC (O173.kp0 kp))⟩
        have O188 := O173.call0 g181
        have S_ := g181.f
        have f_worths := f_worths.mono S_
        have f_ties := f_ties.mono S_
        have h4 := S_ _ _ h4
        have hl5 := hl5.mono S_
        have h9 := S_ _ _ h9
        have hl10 := hl10.mono S_
        have h66 := h66.mono S_
        have h70 := S_ _ _ h70
        have hl71 := hl71.mono S_
        have h76 := S_ _ _ h76
        have hl77 := hl77.mono S_
        have h148 := h148.mono S_
        have h155 := h155.mono S_
        have h176 := h176.mono S_
        have O189 := O173.got O188 rfl hn184 hf185 h186
        have z190 := O173.was hn184
        obtain ⟨F191, O192, S193, h194⟩ := O189.frzE 0 rfl z190
        have f_worths := f_worths.mono S193
        have f_ties := f_ties.mono S193
        have h4 := S193 _ _ h4
        have hl5 := hl5.mono S193
        have h9 := S193 _ _ h9
        have hl10 := hl10.mono S193
        have h66 := h66.mono S193
        have h70 := S193 _ _ h70
        have hl71 := hl71.mono S193
        have h76 := S193 _ _ h76
        have hl77 := hl77.mono S193
        have h148 := h148.mono S193
        have h155 := h155.mono S193
        have h176 := h176.mono S193
        have hl187 := hl187.mono S193
        have h195 := R.lst (a := Int) h194 hl187
        obtain ⟨p196, w197, e198, h199, hl200⟩ := R.lst_ h195
        cases e198
        refine ⟨_, _, _, rfl, (.inl (O192.s _ _ h199)), hl200.len, _, rfl, _, _, rfl, rfl, _, rfl, ?_⟩
        refine iteD (fun q201 => ?_) (fun q201 => ?_)
        · have hk := wp_if hk q201
          exact hk _ _ X_NoTree.g O192.kp
        · have hk := wp_el hk q201
          obtain ⟨p205, w206, e207, h208, hl209⟩ := R.lst_ f_worths
          cases e207
          refine ⟨_, rfl, _, _, rfl, (.inl (SqLF O192.s h208)), fun p210 hp211 => ?_⟩
          have hl213 : RL (a := Int) F191 w206 x_worths := hl209
          have z214 := O192.was hp211
          have O212 := O192.new (o := .lst w206) hp211
          obtain ⟨p215, w216, e217, h218, hl219⟩ := R.lst_ f_ties
          cases e217
          refine ⟨_, rfl, _, _, _, rfl, (O212.s _ _ h218), (RL.mono hl219 O212.s), fun p220 hp221 => ?_⟩
          have hl223 : RL (a := (T3 Int Int Int)) F191 (sortV w216 x_ties) (sortT x_ties) := (RL.sorted hl219)
          have z224 := O212.was hp221
          have O222 := O212.new (o := .lst (sortV w216 x_ties)) hp221
          refine ⟨(by show 2 ≤ sizeLine; decide), fun p225 hp226 => ?_⟩
          obtain ⟨F227, O228, S229, h230⟩ := O222.putE hp226 (.tup [V.ref p210, V.ref p220])
          have f_worths := f_worths.mono S229
          have f_ties := f_ties.mono S229
          have h4 := S229 _ _ h4
          have hl5 := hl5.mono S229
          have h9 := S229 _ _ h9
          have hl10 := hl10.mono S229
          have h66 := h66.mono S229
          have h70 := S229 _ _ h70
          have hl71 := hl71.mono S229
          have h76 := S229 _ _ h76
          have hl77 := hl77.mono S229
          have h148 := h148.mono S229
          have h155 := h155.mono S229
          have h176 := h176.mono S229
          have h195 := h195.mono S229
          have h199 := S229 _ _ h199
          have hl200 := hl200.mono S229
          have h208 := S229 _ _ h208
          have hl209 := hl209.mono S229
          have hl213 := hl213.mono S229
          have h218 := S229 _ _ h218
          have hl219 := hl219.mono S229
          have hl223 := hl223.mono S229
          exact hk _ _  O228.g  _ _ _ _ _ z214 (O228.cf _ (List.mem_of_getElem? (i := 1) rfl)) (O228.at 1 rfl) hl213 z224 (O228.cf _ (List.mem_of_getElem? (i := 0) rfl)) (O228.at 0 rfl) hl223 (O228.ne 1 0 (by decide) rfl rfl) h230
abbrev s_law_stir : Stmt := top 8
theorem sc_law_stir : FnScope ["cell", "k", "number"] ["cell", "k"] (defScope s_law_stir) := ⟨rfl, rfl, rfl, by decide +kernel, rfl, by decide +kernel, by decide +kernel⟩
def m_law_stir (x_cell : Int) (x_k : Int) : M (Int) :=
chk (0 < ((10 : Int) ^ Int.toNat (40 : Int))) >>= fun _ =>
chk (CMulW (x_cell % ((10 : Int) ^ Int.toNat (40 : Int))) (48271 : Int)) >>= fun _ =>
chk (CMulW ((3 : Int) ^ Int.toNat (60 : Int)) (x_k + (1 : Int))) >>= fun _ =>
chk (CMulW (((3 : Int) ^ Int.toNat (60 : Int)) * (x_k + (1 : Int))) (x_k + (1 : Int))) >>= fun _ =>
ret ((((x_cell % ((10 : Int) ^ Int.toNat (40 : Int))) * (48271 : Int)) + ((((3 : Int) ^ Int.toNat (60 : Int)) * (x_k + (1 : Int))) * (x_k + (1 : Int)))) + x_k) >>= fun n5 =>
chk (CMulW n5 n5) >>= fun _ =>
chk (CMulW (69621 : Int) n5) >>= fun _ =>
ret ((n5 * n5) + ((69621 : Int) * n5)) >>= fun n9 =>
chk (CMulW n9 n9) >>= fun _ =>
chk (0 < (((10 : Int) ^ Int.toNat (61 : Int)) + (7 : Int))) >>= fun _ =>
chk (CDivW ((n9 * n9) % (((10 : Int) ^ Int.toNat (61 : Int)) + (7 : Int))) (8 : Int)) >>= fun _ =>
.ok (((n9 * n9) % (((10 : Int) ^ Int.toNat (61 : Int)) + (7 : Int))) / (8 : Int))
def sp_law_stir (mg : Str → Option Value) : Sp := fun vs H Q E => ∃ (F : Hp) (x_cell : Int) (x_k : Int), vs = [V.int x_cell, V.int x_k] ∧ Pre F [] H ∧
  wp (m_law_stir x_cell x_k) (fun r => ∀ (F' H' : Hp), Gr [] F H F' H' → Q (V.int r) H')
  (fun n => ∀ (C : Addr) (H' : Hp), mg (Str.ofString n) = some (.ref C) → Kp [] H H' → E (.ref C) none H')
set_option maxHeartbeats 2000000 in
theorem ok_law_stir (nb : Nb mg) (D : Df K mg "_law_stir" "_law_stir" s_law_stir ["cell", "k"]) : Ca P w K mg base "_law_stir" 1 ["cell", "k"] (sp_law_stir mg) := by
  refine Ca.mk' D sc_law_stir (fun vs H Q E h => ?_) (fun q_ f_ cdv A outer s H vs Q E hr h => ?_)
  · obtain ⟨F, _, _, rfl, _⟩ := h
    rfl
  · obtain ⟨F, x_cell, x_k, rfl, P0, hk⟩ := h
    have nd := sc_law_stir.nd
    have hu64 := hr.units
    have hu128 := hu128_of hr
    have O := P0.start
    refine ⟨_, (pss_cons (ps_set (i := 2) nd rfl (Or.inl rfl) (pe_op op_add (pe_op op_add (pe_op op_mulW (pe_op op_mod (pv 0) (pe_op op_pow pe_int pe_int)) pe_int) (pe_op op_mulW (pe_op op_mulW (pe_op op_pow pe_int pe_int) (pe_op op_add (pv 1) pe_int)) (pe_op op_add (pv 1) pe_int))) (pv 1)))
  (pss_cons (ps_set (i := 2) nd rfl (Or.inl rfl) (pe_op op_add (pe_op op_mulW (pv 2) (pv 2)) (pe_op op_mulW pe_int (pv 2))))
  (pss_one (ps_ret (pe_op op_fdivW (pe_op op_mod (pe_op op_mulW (pv 2) (pv 2)) (pe_op op_add (pe_op op_pow pe_int pe_int) pe_int)) pe_int))))), ?_⟩
    obtain ⟨c1, hk⟩ := wp_chk hk
    obtain ⟨c2, hk⟩ := wp_chk hk
    obtain ⟨c3, hk⟩ := wp_chk hk
    obtain ⟨c4, hk⟩ := wp_chk hk
    obtain ⟨n5, hn6, hk⟩ := wp_ret hk
    subst hn6
    obtain ⟨c7, hk⟩ := wp_chk hk
    obtain ⟨c8, hk⟩ := wp_chk hk
    obtain ⟨n9, hn10, hk⟩ := wp_ret hk
    subst hn10
    obtain ⟨c11, hk⟩ := wp_chk hk
    obtain ⟨c12, hk⟩ := wp_chk hk
    obtain ⟨c13, hk⟩ := wp_chk hk
    refine ⟨_, rfl, _, _, rfl, rfl, (by decide), _, _, rfl, rfl, c1, _, _, rfl, rfl, c2, _, _, rfl, rfl, (by decide), _, rfl, _, _, rfl, rfl, _, _, rfl, rfl, c3, _, rfl, _, _, rfl, rfl, _, _, rfl, rfl, c4, _, _, rfl, rfl, _, rfl, _, _, rfl, rfl, _, rfl, _, rfl, _, _, rfl, rfl, c7, _, rfl, _, _, rfl, rfl, c8, _, _, rfl, rfl, _, rfl, _, rfl, _, _, rfl, rfl, c11, _, _, rfl, rfl, (by decide), _, _, rfl, rfl, _, _, rfl, rfl, c12, _, _, rfl, rfl, c13, ?_⟩
    exact hk _ _  O.g 
abbrev s_law_deck : Stmt := top 9
theorem sc_law_deck : FnScope ["cell"] ["cell"] (defScope s_law_deck) := ⟨rfl, rfl, rfl, by decide +kernel, rfl, by decide +kernel, by decide +kernel⟩
def m_law_deck (x_cell : Int) : M ((List Int)) :=
if ((10 : Int) ^ Int.toNat (18 : Int)) ≤ x_cell then (
.ok ([(x_cell - ((10 : Int) ^ Int.toNat (18 : Int)))]))
else (
m_law_stir x_cell (1 : Int) >>= fun r9 =>
chk (CMulW r9 ((10 : Int) ^ Int.toNat (60 : Int))) >>= fun _ =>
m_law_stir x_cell (2 : Int) >>= fun r16 =>
chk (CMulW ((r9 * ((10 : Int) ^ Int.toNat (60 : Int))) + r16) ((10 : Int) ^ Int.toNat (60 : Int))) >>= fun _ =>
m_law_stir x_cell (3 : Int) >>= fun r23 =>
.ok ([((((r9 * ((10 : Int) ^ Int.toNat (60 : Int))) + r16) * ((10 : Int) ^ Int.toNat (60 : Int))) + r23)]))
def sp_law_deck (mg : Str → Option Value) : Sp := fun vs H Q E => ∃ (F : Hp) (x_cell : Int), vs = [V.int x_cell] ∧ Pre F [] H ∧
  wp (m_law_deck x_cell) (fun r => ∀ (F' H' : Hp), Gr [] F H F' H' → ∀ (p : Addr) (w : (List V)), H p = none → F' p = none → H' p = some (.lst w) → RL (a := Int) F' w r → Q (.ref p) H')
  (fun n => ∀ (C : Addr) (H' : Hp), mg (Str.ofString n) = some (.ref C) → Kp [] H H' → E (.ref C) none H')
set_option maxHeartbeats 2000000 in
theorem ok_law_deck (nb : Nb mg) (C_law_stir : Ca P w K mg base "_law_stir" 1 ["cell", "k"] (sp_law_stir mg)) (D : Df K mg "_law_deck" "_law_deck" s_law_deck ["cell"]) : Ca P w K mg base "_law_deck" 2 ["cell"] (sp_law_deck mg) := by
  obtain ⟨fa_law_stir, fd_law_stir, G_law_stir, M_law_stir, K_law_stir, B_law_stir⟩ := C_law_stir.ex
  refine Ca.mk' D sc_law_deck (fun vs H Q E h => ?_) (fun q_ f_ cdv A outer s H vs Q E hr h => ?_)
  · obtain ⟨F, _, rfl, _⟩ := h
    rfl
  · obtain ⟨F, x_cell, rfl, P0, hk⟩ := h
    have nd := sc_law_deck.nd
    have hu64 := hr.units
    have hu128 := hu128_of hr
    have O := P0.start
    refine ⟨_, (pss_cons (ps_if (pt_cmpR op_ge (pv 0) (pe_op op_pow pe_int pe_int) (nomark _)) (pss_one (ps_ret (pe_lst (pa_cons (pe_op op_sub (pv 0) (pe_op op_pow pe_int pe_int)) pa_nil)))) pss_nil)
  (pss_one (ps_ret (pe_lst (pa_cons (pe_op op_add (pe_op op_mulW (pe_op op_add (pe_op op_mulW (pe_call G_law_stir (hr.mono (by decide)) rfl M_law_stir K_law_stir B_law_stir .nil (passes_call (takes_of rfl rfl rfl rfl) fun _ _ _ _ h => h) (pa_cons (pv 0) (pa_cons pe_int pa_nil))) (pe_op op_pow pe_int pe_int)) (pe_call G_law_stir (hr.mono (by decide)) rfl M_law_stir K_law_stir B_law_stir .nil (passes_call (takes_of rfl rfl rfl rfl) fun _ _ _ _ h => h) (pa_cons (pv 0) (pa_cons pe_int pa_nil)))) (pe_op op_pow pe_int pe_int)) (pe_call G_law_stir (hr.mono (by decide)) rfl M_law_stir K_law_stir B_law_stir .nil (passes_call (takes_of rfl rfl rfl rfl) fun _ _ _ _ h => h) (pa_cons (pv 0) (pa_cons pe_int pa_nil)))) pa_nil))))), ?_⟩
    refine ⟨_, rfl, _, _, rfl, rfl, (by decide), _, _, rfl, rfl, _, rfl, ?_⟩
    refine iteD (fun q1 => ?_) (fun q1 => ?_)
    · have hk := wp_if hk q1
      refine ⟨_, rfl, _, _, rfl, rfl, (by decide), _, _, rfl, rfl, (by show 1 ≤ sizeLine; decide), fun p3 hp4 => ?_⟩
      have hl6 : RL (a := Int) F ([V.int (x_cell - ((10 : Int) ^ Int.toNat (18 : Int)))]) ([(x_cell - ((10 : Int) ^ Int.toNat (18 : Int)))]) := RL.cons R.int RL.nil
      have z7 := O.was hp4
      have O5 := O.new (o := .lst ([V.int (x_cell - ((10 : Int) ^ Int.toNat (18 : Int)))])) hp4
      exact hk _ _  O5.g  _ _ z7 (O5.cf _ (List.mem_of_getElem? (i := 0) rfl)) (O5.at 0 rfl) hl6
    · have hk := wp_el hk q1
      refine ⟨_, rfl, _, _, _, rfl, O.pre0, wp_call hk (fun r9 er10 hk F11 H12 g13 => ?_) (fun n hn C H1 hC kp => hn C H1 hC (O.kp0 kp))⟩
      have O14 := O.call0 g13
      have S_ := g13.f
      obtain ⟨c15, hk⟩ := wp_chk hk
      refine ⟨_, _, rfl, rfl, (by decide), _, _, rfl, rfl, c15, _, rfl, _, _, _, rfl, O14.pre0, wp_call hk (fun r16 er17 hk F18 H19 g20 => ?_) (fun n hn C H1 hC kp => hn C H1 hC (O14.kp0 kp))⟩
      have O21 := O14.call0 g20
      have S_ := g20.f
      obtain ⟨c22, hk⟩ := wp_chk hk
      refine ⟨_, _, rfl, rfl, _, _, rfl, rfl, (by decide), _, _, rfl, rfl, c22, _, rfl, _, _, _, rfl, O21.pre0, wp_call hk (fun r23 er24 hk F25 H26 g27 => ?_) (fun n hn C H1 hC kp => hn C H1 hC (O21.kp0 kp))⟩
      have O28 := O21.call0 g27
      have S_ := g27.f
      refine ⟨_, _, rfl, rfl, (by show 1 ≤ sizeLine; decide), fun p29 hp30 => ?_⟩
      have hl32 : RL (a := Int) F25 ([V.int ((((r9 * ((10 : Int) ^ Int.toNat (60 : Int))) + r16) * ((10 : Int) ^ Int.toNat (60 : Int))) + r23)]) ([((((r9 * ((10 : Int) ^ Int.toNat (60 : Int))) + r16) * ((10 : Int) ^ Int.toNat (60 : Int))) + r23)]) := RL.cons R.int RL.nil
      have z33 := O28.was hp30
      have O31 := O28.new (o := .lst ([V.int ((((r9 * ((10 : Int) ^ Int.toNat (60 : Int))) + r16) * ((10 : Int) ^ Int.toNat (60 : Int))) + r23)])) hp30
      exact hk _ _  O31.g  _ _ z33 (O31.cf _ (List.mem_of_getElem? (i := 0) rfl)) (O31.at 0 rfl) hl32
abbrev s_law_take : Stmt := top 10
theorem sc_law_take : FnScope ["deck", "many", "taken"] ["deck", "many"] (defScope s_law_take) := ⟨rfl, rfl, rfl, by decide +kernel, rfl, by decide +kernel, by decide +kernel⟩
def m_law_take (x_deck : (List Int)) (x_many : Int) : M (Int × (List Int)) :=
opt (atI x_deck (0 : Int)) >>= fun y1 =>
chk (0 < x_many) >>= fun _ =>
opt (atI x_deck (0 : Int)) >>= fun y7 =>
chk (CDivW y7 x_many) >>= fun _ =>
setI x_deck (0 : Int) (y7 / x_many) >>= fun z15 =>
.ok ((y1 % x_many), z15)
def sp_law_take (mg : Str → Option Value) : Sp := fun vs H Q E => ∃ (F : Hp) (a_deck : Addr) (w_deck : (List V)) (x_deck : (List Int)) (x_many : Int), vs = [.ref a_deck, V.int x_many] ∧ Pre F [(a_deck, .lst w_deck)] H ∧ RL (a := Int) F w_deck x_deck ∧
  wp (m_law_take x_deck x_many) (fun r => ∀ (F' H' : Hp) (w0 : (List V)), Gr [a_deck] F H F' H' → H' a_deck = some (.lst w0) → RL (a := Int) F' w0 r.2 → Q (V.int r.1) H')
  (fun n => ∀ (C : Addr) (H' : Hp), mg (Str.ofString n) = some (.ref C) → Kp [a_deck] H H' → E (.ref C) none H')
set_option maxHeartbeats 2000000 in
theorem ok_law_take (nb : Nb mg) (D : Df K mg "_law_take" "_law_take" s_law_take ["deck", "many"]) : Ca P w K mg base "_law_take" 1 ["deck", "many"] (sp_law_take mg) := by
  refine Ca.mk' D sc_law_take (fun vs H Q E h => ?_) (fun q_ f_ cdv A outer s H vs Q E hr h => ?_)
  · obtain ⟨F, _, _, _, _, rfl, _⟩ := h
    rfl
  · obtain ⟨F, a_deck, w_deck, x_deck, x_many, rfl, P0, f_deck, hk⟩ := h
    have nd := sc_law_take.nd
    have hu64 := hr.units
    have hu128 := hu128_of hr
    have O := P0.start
    refine ⟨_, (pss_cons (ps_set (i := 2) nd rfl (Or.inl rfl) (pe_op op_mod (pe_ix (ixListK (K := K) rfl) (pv 0) pe_int (fun _ _ => rfl)) (pv 1)))
  (pss_cons (ps_asg (pe_op op_fdivW (pe_ix (ixListK (K := K) rfl) (pv 0) pe_int (fun _ _ => rfl)) (pv 1)) (pg_sub (pv 0) pe_int set_list))
  (pss_one (ps_ret (pv 2))))), ?_⟩
    obtain ⟨y1, e2, hk⟩ := wp_opt hk
    obtain ⟨w3, e4, r5⟩ := f_deck.atI e2
    obtain rfl := R.int_ r5
    obtain ⟨c6, hk⟩ := wp_chk hk
    obtain ⟨y7, e8, hk⟩ := wp_opt hk
    obtain ⟨w9, e10, r11⟩ := f_deck.atI e8
    obtain rfl := R.int_ r11
    obtain ⟨c12, hk⟩ := wp_chk hk
    obtain ⟨j13, e14, hk⟩ := wp_setI hk
    refine ⟨_, rfl, _, _, _, _, rfl, rfl, (SqL.of (O.at 0 rfl)), e4, _, rfl, _, _, rfl, rfl, c6, _, rfl, _, _, _, _, rfl, rfl, (SqL.of (O.at 0 rfl)), e10, _, rfl, _, _, rfl, rfl, c12, _, rfl, _, _, _, _, rfl, rfl, (O.at 0 rfl), (by rw [f_deck.len]; exact e14), ?_⟩
    have O16 := O.set 0 (.lst (w_deck.set j13 (V.int (y7 / x_many)))) rfl
    have hl17 : RL (a := Int) F (w_deck.set j13 (V.int (y7 / x_many))) (x_deck.set j13 (y7 / x_many)) := RL.set j13 f_deck R.int
    refine ⟨_, rfl, ?_⟩
    exact hk _ _ (w_deck.set j13 (V.int (y7 / x_many))) O16.g (O16.at 0 rfl) hl17
abbrev s_law_whole : Stmt := top 11
theorem sc_law_whole : FnScope ["found"] ["found"] (defScope s_law_whole) := ⟨rfl, rfl, rfl, by decide +kernel, rfl, by decide +kernel, by decide +kernel⟩
def m_law_whole (x_found : Int) : M (Bool) :=
.ok true
def sp_law_whole (mg : Str → Option Value) : Sp := fun vs H Q E => ∃ (F : Hp) (x_found : Int), vs = [V.int x_found] ∧ Pre F [] H ∧
  wp (m_law_whole x_found) (fun r => ∀ (F' H' : Hp), Gr [] F H F' H' → Q (V.bl r) H')
  (fun n => ∀ (C : Addr) (H' : Hp), mg (Str.ofString n) = some (.ref C) → Kp [] H H' → E (.ref C) none H')
set_option maxHeartbeats 2000000 in
theorem ok_law_whole (nb : Nb mg) (D : Df K mg "_law_whole" "_law_whole" s_law_whole ["found"]) : Ca P w K mg base "_law_whole" 1 ["found"] (sp_law_whole mg) := by
  refine Ca.mk' D sc_law_whole (fun vs H Q E h => ?_) (fun q_ f_ cdv A outer s H vs Q E hr h => ?_)
  · obtain ⟨F, _, rfl, _⟩ := h
    rfl
  · obtain ⟨F, x_found, rfl, P0, hk⟩ := h
    have nd := sc_law_whole.nd
    have hu64 := hr.units
    have hu128 := hu128_of hr
    have O := P0.start
    refine ⟨_, (pss_one (ps_ret (pe_and (pe_callB (isiK (K := K) rfl) (by rfl) nb.b_isinstance (by decide +kernel) (pa_cons (pv 0) (pa_cons (pe_bltn (v := .ty "int") (by rfl) nb.b_int (by decide +kernel) rfl) pa_nil))) (pe_one (pe_not (pe_callB (isiK (K := K) rfl) (by rfl) nb.b_isinstance (by decide +kernel) (pa_cons (pv 0) (pa_cons (pe_bltn (v := .ty "bool") (by rfl) nb.b_bool (by decide +kernel) rfl) pa_nil)))))))), ?_⟩
    refine ⟨_, rfl, _, _, _, _, true, rfl, .ty _, (.base (.int _)), kit_ty (by decide +kernel), _, rfl, ?_⟩
    refine iteT ?_
    refine ⟨_, rfl, _, _, _, _, false, rfl, .ty _, (.base (.int _)), kit_ty (by decide +kernel), _, rfl, ?_⟩
    exact hk _ _  O.g 
abbrev s_law_are_whole : Stmt := top 12
theorem sc_law_are_whole : FnScope ["found", "one"] ["found"] (defScope s_law_are_whole) := ⟨rfl, rfl, rfl, by decide +kernel, rfl, by decide +kernel, by decide +kernel⟩
def m_law_are_whole (x_found : (List Int)) : M (Bool) :=
compS (fun (y11 : Int) (st28 : Unit) =>
m_law_whole y11 >>= fun r34 =>
if r34 = true then (
.ok (none, ()))
else (
.ok (some y11, ()))) x_found () >>= fun q52 =>
.ok (decide (q52.1 = ([] : List Int)))
def sp_law_are_whole (mg : Str → Option Value) : Sp := fun vs H Q E => ∃ (F : Hp) (v_found : V) (x_found : (List Int)), vs = [v_found] ∧ Pre F [] H ∧ R (a := (List Int)) F v_found x_found ∧
  wp (m_law_are_whole x_found) (fun r => ∀ (F' H' : Hp), Gr [] F H F' H' → Q (V.bl r) H')
  (fun n => ∀ (C : Addr) (H' : Hp), mg (Str.ofString n) = some (.ref C) → Kp [] H H' → E (.ref C) none H')
set_option maxHeartbeats 2000000 in
theorem ok_law_are_whole (nb : Nb mg) (C_law_whole : Ca P w K mg base "_law_whole" 1 ["found"] (sp_law_whole mg)) (D : Df K mg "_law_are_whole" "_law_are_whole" s_law_are_whole ["found"]) : Ca P w K mg base "_law_are_whole" 2 ["found"] (sp_law_are_whole mg) := by
  obtain ⟨fa_law_whole, fd_law_whole, G_law_whole, M_law_whole, K_law_whole, B_law_whole⟩ := C_law_whole.ex
  refine Ca.mk' D sc_law_are_whole (fun vs H Q E h => ?_) (fun q_ f_ cdv A outer s H vs Q E hr h => ?_)
  · obtain ⟨F, _, _, rfl, _⟩ := h
    rfl
  · obtain ⟨F, v_found, x_found, rfl, P0, f_found, hk⟩ := h
    have nd := sc_law_are_whole.nd
    have hu64 := hr.units
    have hu128 := hu128_of hr
    have O := P0.start
    refine ⟨_, (pss_one (ps_ret (pe_and (pe_callB (isiK (K := K) rfl) (by rfl) nb.b_isinstance (by decide +kernel) (pa_cons (pv 0) (pa_cons (pe_bltn (v := .ty "list") (by rfl) nb.b_list (by decide +kernel) rfl) pa_nil))) (pe_one (pe_cmpR (op_eqT (List Int) hu64) (pe_lc (own := [("one", 1)]) (g := gName 1) (tt := _) rfl nd (pi_list (pv 0)) (blkOk_by (own := [("one", 1)]) (N := ["found", "one"]) (sc := defScope s_law_are_whole) (by decide +kernel)) (fun _ _ _ _ _ => (pg_name (i := 1) nd rfl (Or.inl rfl))) (fun _ _ _ _ _ => (pts_one (pt_not (pt_val (pe_call G_law_whole (hr.mono (by decide)) rfl M_law_whole K_law_whole B_law_whole .nil passL (pa_cons (pv 1) pa_nil)))))) (fun _ _ _ _ _ => (pv 1))) (pe_lst pa_nil) (nomark _)))))), ?_⟩
    obtain ⟨p1, w2, e3, h4, hl5⟩ := R.lst_ f_found
    cases e3
    refine ⟨_, rfl, _, _, _, _, true, rfl, .ty _, (.base (.lst (O.s _ _ h4))), kit_ty (by decide +kernel), _, rfl, ?_⟩
    refine iteT ?_
    obtain ⟨p6, w7, e8, h9, hl10⟩ := R.lst_ f_found
    cases e8
    obtain ⟨c16, L12, hL13, hLs14, hLd15⟩ := compS_L hk
    refine ⟨_, rfl, _, rfl, ⟨_, (SqLF O.s h9)⟩, fun p17 hp18 => ?_⟩
    have z41 := O.was hp18
    refine lc_list (K := K) (xs := w7) (fun i H => ∃ (F_ : Hp) (st : Unit) (acc : List Int) (wa : List V), Same F F_ ∧ Ow _ F_ [(p17, .lst wa)] H ∧ RL F_ wa acc ∧ wa.length ≤ i ∧ L12 (List.drop i x_found) acc st) ⟨F, (), [], [], Same.refl _, O.new hp18, RL.nil, Nat.zero_le _, hL13⟩ (fun i_ H_ _ hp_ => ?_) ?_ ?_
    · obtain ⟨_, _, _, _, hS_, hO_, _⟩ := hp_
      exact SqLF hO_.s (hS_ _ _ h9)
    · rintro i19 x20 H21 hi22 ⟨F27, st28, acc24, wa25, S29, O31, hl30, la26, hL13⟩
      have f_found := f_found.mono S29
      have h4 := S29 _ _ h4
      have hl5 := hl5.mono S29
      have h9 := S29 _ _ h9
      have hl10 := hl10.mono S29
      obtain ⟨y11, e32, r33⟩ := RL.got hl10 hi22
      rw [drop_at e32] at hL13
      have hk := hLs14 _ _ _ _ hL13
      obtain rfl := R.int_ r33
      refine ⟨rfl, _, rfl, _, _, rfl, O31.pre0, wp_call hk (fun r34 er35 hk F36 H37 g38 => ?_) (fun n hn => hn.elim)⟩
      have O39 := O31.call0 g38
      have S_ := g38.f
      have f_found := f_found.mono S_
      have h4 := S_ _ _ h4
      have hl5 := hl5.mono S_
      have h9 := S_ _ _ h9
      have hl10 := hl10.mono S_
      have S29 := S29.trans S_
      have hl30 := hl30.mono S_
      refine ⟨_, rfl, ?_⟩
      refine iteBN (fun q40 => ?_) (fun q40 => ?_)
      · have hk := wp_if hk q40
        exact ⟨F36, (), acc24, wa25, S29, O39, hl30, Nat.le_succ_of_le la26, hk⟩
      · have hk := wp_el hk q40
        refine ⟨_, rfl, _, (O39.at 0 rfl), (comp_len la26 hi22 hl10.len c16), ?_⟩
        exact ⟨F36, (), acc24 ++ [y11], wa25 ++ [V.int y11], S29, O39.set 0 (.lst (wa25 ++ [V.int y11])) rfl, RL.snoc hl30 R.int, by rw [List.length_append]; exact Nat.succ_le_succ la26, hk⟩
    rintro H42 ⟨F43, st44, acc45, wa46, S47, O48, hl49, la50, hL51⟩
    rw [drop_end hl10.len] at hL51
    have hk := hLd15 _ _ hL51
    have f_found := f_found.mono S47
    have h4 := S47 _ _ h4
    have hl5 := hl5.mono S47
    have h9 := S47 _ _ h9
    have hl10 := hl10.mono S47
    obtain ⟨F53, O54, S55, h56⟩ := O48.frzE 0 rfl z41
    have f_found := f_found.mono S55
    have h4 := S55 _ _ h4
    have hl5 := hl5.mono S55
    have h9 := S55 _ _ h9
    have hl10 := hl10.mono S55
    have hl49 := hl49.mono S55
    have h57 := R.lst (a := Int) h56 hl49
    refine ⟨(by show 0 ≤ sizeLine; decide), fun p58 hp59 => ?_⟩
    have hl65 : RL (a := Int) F53 ([]) ([] : List Int) := RL.nil
    obtain ⟨F60, O61, S62, h63⟩ := O54.putE hp59 (.lst ([]))
    have f_found := f_found.mono S62
    have h4 := S62 _ _ h4
    have hl5 := hl5.mono S62
    have h9 := S62 _ _ h9
    have hl10 := hl10.mono S62
    have h57 := h57.mono S62
    have hl65 := hl65.mono S62
    have h64 := R.lst (a := Int) h63 hl65
    refine ⟨_, _, (R.mono h57 O61.s), (R.mono h64 O61.s), ?_⟩
    exact hk _ _  O61.g 
abbrev s_law_far : Stmt := top 13
theorem sc_law_far : FnScope ["deck"] ["deck"] (defScope s_law_far) := ⟨rfl, rfl, rfl, by decide +kernel, rfl, by decide +kernel, by decide +kernel⟩
def m_law_far (x_deck : (List Int)) : M (Int × (List Int)) :=
m_law_take x_deck (3 : Int) >>= fun r9 =>
opt (atI ([(4 : Int), (1000 : Int), ((10 : Int) ^ Int.toNat (29 : Int))]) r9.1) >>= fun y23 =>
.ok (y23, r9.2)
def sp_law_far (mg : Str → Option Value) : Sp := fun vs H Q E => ∃ (F : Hp) (a_deck : Addr) (w_deck : (List V)) (x_deck : (List Int)), vs = [.ref a_deck] ∧ Pre F [(a_deck, .lst w_deck)] H ∧ RL (a := Int) F w_deck x_deck ∧
  wp (m_law_far x_deck) (fun r => ∀ (F' H' : Hp) (w0 : (List V)), Gr [a_deck] F H F' H' → H' a_deck = some (.lst w0) → RL (a := Int) F' w0 r.2 → Q (V.int r.1) H')
  (fun n => ∀ (C : Addr) (H' : Hp), mg (Str.ofString n) = some (.ref C) → Kp [a_deck] H H' → E (.ref C) none H')
set_option maxHeartbeats 2000000 in
theorem ok_law_far (nb : Nb mg) (C_law_take : Ca P w K mg base "_law_take" 1 ["deck", "many"] (sp_law_take mg)) (D : Df K mg "_law_far" "_law_far" s_law_far ["deck"]) : Ca P w K mg base "_law_far" 2 ["deck"] (sp_law_far mg) := by
  obtain ⟨fa_law_take, fd_law_take, G_law_take, M_law_take, K_law_take, B_law_take⟩ := C_law_take.ex
  refine Ca.mk' D sc_law_far (fun vs H Q E h => ?_) (fun q_ f_ cdv A outer s H vs Q E hr h => ?_)
  · obtain ⟨F, _, _, _, rfl, _⟩ := h
    rfl
  · obtain ⟨F, a_deck, w_deck, x_deck, rfl, P0, f_deck, hk⟩ := h
    have nd := sc_law_far.nd
    have hu64 := hr.units
    have hu128 := hu128_of hr
    have O := P0.start
    refine ⟨_, (pss_one (ps_ret (pe_ix (ixListK (K := K) rfl) (pe_lst (pa_cons pe_int (pa_cons pe_int (pa_cons (pe_op op_pow pe_int pe_int) pa_nil)))) (pe_call G_law_take (hr.mono (by decide)) rfl M_law_take K_law_take B_law_take .nil (passes_call (takes_of rfl rfl rfl rfl) fun _ _ _ _ h => h) (pa_cons (pv 0) (pa_cons pe_int pa_nil))) (fun _ _ => rfl)))), ?_⟩
    refine ⟨_, _, rfl, rfl, (by decide), (by show 3 ≤ sizeLine; decide), fun p1 hp2 => ?_⟩
    have hl8 : RL (a := Int) F ([V.int (4 : Int), V.int (1000 : Int), V.int ((10 : Int) ^ Int.toNat (29 : Int))]) ([(4 : Int), (1000 : Int), ((10 : Int) ^ Int.toNat (29 : Int))]) := RL.cons R.int (RL.cons R.int (RL.cons R.int RL.nil))
    obtain ⟨F3, O4, S5, h6⟩ := O.putE hp2 (.lst ([V.int (4 : Int), V.int (1000 : Int), V.int ((10 : Int) ^ Int.toNat (29 : Int))]))
    have f_deck := f_deck.mono S5
    have hl8 := hl8.mono S5
    have h7 := R.lst (a := Int) h6 hl8
    refine ⟨_, rfl, _, _, _, _, _, rfl, (O4.pre1 0 rfl), f_deck, wp_call hk (fun r9 er10 hk F11 H12 w14 g13 h15 hl16 => ?_) (fun n hn C H1 hC kp => hn C H1 hC (O4.kp1 kp 0 rfl))⟩
    have O17 := O4.call1 g13 0 rfl h15
    have S_ := g13.f
    have h7 := h7.mono S_
    obtain ⟨p18, w19, e20, h21, hl22⟩ := R.lst_ h7
    cases e20
    obtain ⟨y23, e24, hk⟩ := wp_opt hk
    obtain ⟨w25, e26, r27⟩ := hl22.atI e24
    obtain rfl := R.int_ r27
    refine ⟨_, _, _, _, rfl, rfl, (SqLF O17.s h21), e26, ?_⟩
    exact hk _ _ w14 O17.g (O17.at 0 rfl) hl16
abbrev s_law_number : Stmt := top 14
theorem sc_law_number : FnScope ["deck", "far"] ["deck", "far"] (defScope s_law_number) := ⟨rfl, rfl, rfl, by decide +kernel, rfl, by decide +kernel, by decide +kernel⟩
def m_law_number (x_deck : (List Int)) (x_far : Int) : M (Int × (List Int)) :=
chk (CMulW (2 : Int) x_far) >>= fun _ =>
m_law_take x_deck (((2 : Int) * x_far) + (1 : Int)) >>= fun r2 =>
.ok ((r2.1 - x_far), r2.2)
def sp_law_number (mg : Str → Option Value) : Sp := fun vs H Q E => ∃ (F : Hp) (a_deck : Addr) (w_deck : (List V)) (x_deck : (List Int)) (x_far : Int), vs = [.ref a_deck, V.int x_far] ∧ Pre F [(a_deck, .lst w_deck)] H ∧ RL (a := Int) F w_deck x_deck ∧
  wp (m_law_number x_deck x_far) (fun r => ∀ (F' H' : Hp) (w0 : (List V)), Gr [a_deck] F H F' H' → H' a_deck = some (.lst w0) → RL (a := Int) F' w0 r.2 → Q (V.int r.1) H')
  (fun n => ∀ (C : Addr) (H' : Hp), mg (Str.ofString n) = some (.ref C) → Kp [a_deck] H H' → E (.ref C) none H')
set_option maxHeartbeats 2000000 in
theorem ok_law_number (nb : Nb mg) (C_law_take : Ca P w K mg base "_law_take" 1 ["deck", "many"] (sp_law_take mg)) (D : Df K mg "_law_number" "_law_number" s_law_number ["deck", "far"]) : Ca P w K mg base "_law_number" 2 ["deck", "far"] (sp_law_number mg) := by
  obtain ⟨fa_law_take, fd_law_take, G_law_take, M_law_take, K_law_take, B_law_take⟩ := C_law_take.ex
  refine Ca.mk' D sc_law_number (fun vs H Q E h => ?_) (fun q_ f_ cdv A outer s H vs Q E hr h => ?_)
  · obtain ⟨F, _, _, _, _, rfl, _⟩ := h
    rfl
  · obtain ⟨F, a_deck, w_deck, x_deck, x_far, rfl, P0, f_deck, hk⟩ := h
    have nd := sc_law_number.nd
    have hu64 := hr.units
    have hu128 := hu128_of hr
    have O := P0.start
    refine ⟨_, (pss_one (ps_ret (pe_op op_sub (pe_call G_law_take (hr.mono (by decide)) rfl M_law_take K_law_take B_law_take .nil (passes_call (takes_of rfl rfl rfl rfl) fun _ _ _ _ h => h) (pa_cons (pv 0) (pa_cons (pe_op op_add (pe_op op_mulW pe_int (pv 1)) pe_int) pa_nil))) (pv 1)))), ?_⟩
    obtain ⟨c1, hk⟩ := wp_chk hk
    refine ⟨_, rfl, _, rfl, _, _, rfl, rfl, c1, _, _, rfl, rfl, _, _, _, _, _, rfl, (O.pre1 0 rfl), f_deck, wp_call hk (fun r2 er3 hk F4 H5 w7 g6 h8 hl9 => ?_) (fun n hn C H1 hC kp => hn C H1 hC (O.kp1 kp 0 rfl))⟩
    have O10 := O.call1 g6 0 rfl h8
    have S_ := g6.f
    refine ⟨_, rfl, _, _, rfl, rfl, ?_⟩
    exact hk _ _ w7 O10.g (O10.at 0 rfl) hl9
abbrev s_law_order : Stmt := top 15
theorem sc_law_order : FnScope ["deck", "many", "left", "found", "k"] ["deck", "many"] (defScope s_law_order) := ⟨rfl, rfl, rfl, by decide +kernel, rfl, by decide +kernel, by decide +kernel⟩
def m_law_order (x_deck : (List Int)) (x_many : Int) : M ((List Int) × (List Int)) :=
chk (okR x_many) >>= fun _ =>
chk (okR x_many) >>= fun _ =>
loopN (fun (y14 : Int) (st26 : (List Int) × (List Int) × (List Int)) =>
m_law_take st26.2.2 (st26.2.1.length : Int) >>= fun r36 =>
popI st26.2.1 r36.1 >>= fun t54 =>
appL st26.1 t54.1 >>= fun _ =>
.ok ((st26.1 ++ [t54.1]), t54.2, r36.2)) (rangeL 0 x_many) (([] : List Int), (rangeL 0 x_many), x_deck) >>= fun st64 =>
.ok (st64.1, st64.2.2)
def sp_law_order (mg : Str → Option Value) : Sp := fun vs H Q E => ∃ (F : Hp) (a_deck : Addr) (w_deck : (List V)) (x_deck : (List Int)) (x_many : Int), vs = [.ref a_deck, V.int x_many] ∧ Pre F [(a_deck, .lst w_deck)] H ∧ RL (a := Int) F w_deck x_deck ∧
  wp (m_law_order x_deck x_many) (fun r => ∀ (F' H' : Hp) (w0 : (List V)), Gr [a_deck] F H F' H' → H' a_deck = some (.lst w0) → RL (a := Int) F' w0 r.2 → ∀ (p : Addr) (w : (List V)), H p = none → F' p = none → H' p = some (.lst w) → RL (a := Int) F' w r.1 → Q (.ref p) H')
  (fun n => ∀ (C : Addr) (H' : Hp), mg (Str.ofString n) = some (.ref C) → Kp [a_deck] H H' → E (.ref C) none H')
set_option maxHeartbeats 2000000 in
theorem ok_law_order (nb : Nb mg) (C_law_take : Ca P w K mg base "_law_take" 1 ["deck", "many"] (sp_law_take mg)) (D : Df K mg "_law_order" "_law_order" s_law_order ["deck", "many"]) : Ca P w K mg base "_law_order" 2 ["deck", "many"] (sp_law_order mg) := by
  obtain ⟨fa_law_take, fd_law_take, G_law_take, M_law_take, K_law_take, B_law_take⟩ := C_law_take.ex
  refine Ca.mk' D sc_law_order (fun vs H Q E h => ?_) (fun q_ f_ cdv A outer s H vs Q E hr h => ?_)
  · obtain ⟨F, _, _, _, _, rfl, _⟩ := h
    rfl
  · obtain ⟨F, a_deck, w_deck, x_deck, x_many, rfl, P0, f_deck, hk⟩ := h
    have nd := sc_law_order.nd
    have hu64 := hr.units
    have hu128 := hu128_of hr
    have O := P0.start
    refine ⟨_, (pss_cons (ps_set (i := 2) nd rfl (Or.inl rfl) (pe_listRg rfl (by rfl) nb.b_list (prg_1 (by rfl) nb.b_range (pv 1))))
  (pss_cons (ps_set (i := 3) nd rfl (Or.inl rfl) (pe_lst pa_nil))
  (pss_cons (ps_for (passes_of rfl) rfl (pi_range1 rfl nb.b_range (pa_cons (pv 1) pa_nil)) (pg_name (i := 4) nd rfl (Or.inl rfl)) (pss_one (ps_expr (pe_bm PySem.F.plainAttrs_list PySem.F.slot_list_append PySem.F.type_list_append mt_append (pv 3) (pa_cons (pe_bm PySem.F.plainAttrs_list PySem.F.slot_list_pop PySem.F.type_list_pop mt_popAt (pv 2) (pa_cons (pe_call G_law_take (hr.mono (by decide)) rfl M_law_take K_law_take B_law_take .nil (passes_call (takes_of rfl rfl rfl rfl) fun _ _ _ _ h => h) (pa_cons (pv 0) (pa_cons (pe_callB call_lenT (by rfl) nb.b_len PySem.boot_len (pa_cons (pv 2) pa_nil)) pa_nil))) pa_nil)) pa_nil)))))
  (pss_one (ps_ret (pv 3)))))), ?_⟩
    obtain ⟨c2, hk⟩ := wp_chk hk
    refine ⟨_, rfl, _, rfl, c2.rg1, fun p3 hp4 => ?_⟩
    have hl6 : RL (a := Int) F (rgV 0 x_many) (rangeL 0 x_many) := RL.rg
    have z7 := O.was hp4
    have O5 := O.new (o := .lst (rgV 0 x_many)) hp4
    refine ⟨(by show 0 ≤ sizeLine; decide), fun p9 hp10 => ?_⟩
    have hl12 : RL (a := Int) F ([]) ([] : List Int) := RL.nil
    have z13 := O5.was hp10
    have O11 := O5.new (o := .lst ([])) hp10
    obtain ⟨c15, hk⟩ := wp_chk hk
    obtain ⟨L16, hL17, hLs18, hLd19⟩ := loopN_L hk
    refine ⟨_, rfl, _, rfl, c15.lo, c15.hi, ?_⟩
    refine for_range (lo := 0) (n := (x_many).toNat) (fun i σ H => ∃ (F_ : Hp) (st : (List Int) × (List Int) × (List Int)) (w_0 : (List V)) (w_1 : (List V)) (w_2 : (List V)) (t_0 : Option V), σ = [some (V.ref a_deck), some (V.int x_many), some (V.ref p3), some (V.ref p9), t_0] ∧ Same F F_ ∧ Ow _ F_ [(p9, .lst w_0), (p3, .lst w_1), (a_deck, .lst w_2)] H ∧ RL (a := Int) F_ w_0 st.1 ∧ RL (a := Int) F_ w_1 st.2.1 ∧ RL (a := Int) F_ w_2 st.2.2 ∧ L16 (List.drop i (rangeL 0 x_many)) st) ⟨F, (([] : List Int), (rangeL 0 x_many), x_deck), [], (rgV 0 x_many), w_deck, none, rfl, Same.refl _, O11, hl12, hl6, f_deck, hL17⟩ ?_ ?_
    · rintro i20 sg22 H23 hi24 ⟨F34, st26, w27, w28, w29, t33, rfl, S25, O35, hl30, hl31, hl32, hL17⟩
      rw [rangeL_get0 hi24] at hL17
      have hk := hLs18 _ _ _ hL17
      obtain ⟨y14, he_⟩ : ∃ z_, z_ = 0 + (i20 : Int) := ⟨_, rfl⟩
      try rw [← he_] at hk
      rw [← he_]
      refine ⟨_, rfl, (.inl ⟨rfl, _, SqL.of (O35.at 0 rfl)⟩), _, rfl, (.inl ⟨rfl, _, SqL.of (O35.at 1 rfl)⟩), _, rfl, _, rfl, _, _, _, rfl, (.inl (O35.at 1 rfl)), hl31.len, _, _, _, _, _, rfl, (O35.pre1 2 rfl), hl32, wp_call hk (fun r36 er37 hk F38 H39 w41 g40 h42 hl43 => ?_) (fun n hn C H1 hC kp => hn C H1 hC (O35.kp1 kp 2 rfl))⟩
      have O44 := O35.call1 g40 2 rfl h42
      have S_ := g40.f
      have hl30 := hl30.mono S_
      have hl31 := hl31.mono S_
      have S25 := S25.trans S_
      obtain ⟨j45, y46, e47, c48, c49, e50, hk⟩ := wp_popI hk
      obtain ⟨w51, e52, r53⟩ := hl31.get e50
      refine ⟨_, _, _, _, _, rfl, rfl, (O44.at 1 rfl), c48, c49, (by rw [hl31.len]; exact e47), e52, ?_⟩
      obtain rfl := R.int_ r53
      have O55 := O44.set 1 (.lst (w28.eraseIdx j45)) rfl
      have hl56 : RL (a := Int) F38 (w28.eraseIdx j45) (st26.2.1.eraseIdx j45) := RL.erase j45 hl31
      obtain ⟨c57, hk⟩ := wp_appL hk
      refine ⟨_, _, _, rfl, rfl, (O55.at 0 rfl), (by rw [hl30.len]; exact c57), ?_⟩
      have O59 := O55.set 0 (.lst (w27 ++ [V.int y46])) rfl
      have hl60 : RL (a := Int) F38 (w27 ++ [V.int y46]) (st26.1 ++ [y46]) := RL.snoc hl30 R.int
      exact ⟨F38, ((st26.1 ++ [y46]), st26.2.1.eraseIdx j45, r36.2), (w27 ++ [V.int y46]), (w28.eraseIdx j45), w41, some (V.int y14), rfl, S25, O59, hl60, hl56, hl43, hk⟩
    rintro sg61 H62 ⟨F73, st64, w66, w67, w68, t72, rfl, S63, O74, hl69, hl70, hl71, hL65⟩
    rw [rangeL_end0] at hL65
    have hk := hLd19 _ hL65
    refine ⟨_, rfl, ?_⟩
    exact hk _ _ w68 O74.g (O74.at 2 rfl) hl71 _ _ z13 (O74.cf _ (List.mem_of_getElem? (i := 0) rfl)) (O74.at 0 rfl) hl69
abbrev s_law_tree : Stmt := top 16
theorem sc_law_tree : FnScope ["deck", "most", "far", "many", "order", "kind", "ties", "k", "at", "pair"] ["deck", "most", "far"] (defScope s_law_tree) := ⟨rfl, rfl, rfl, by decide +kernel, rfl, by decide +kernel, by decide +kernel⟩
def m_law_tree (x_deck : (List Int)) (x_most : Int) (x_far : Int) : M (((List Int) × (List (T3 Int Int Int))) × (List Int)) :=
m_law_take x_deck x_most >>= fun r1 =>
m_law_order r1.2 ((1 : Int) + r1.1) >>= fun r10 =>
m_law_take r10.2 (5 : Int) >>= fun r32 =>
chk (okR (1 : Int)) >>= fun _ =>
chk (okR ((1 : Int) + r1.1)) >>= fun _ =>
loopN (fun (y47 : Int) (st60 : (List Int) × (List (T3 Int Int Int))) =>
m_law_take st60.1 y47 >>= fun r70 =>
m_law_take r70.2 (3 : Int) >>= fun r79 =>
m_law_take r79.2 y47 >>= fun r88 =>
opt (atI ([r70.1, (y47 - (1 : Int)), (0 : Int), (if ((y47 - (1 : Int)) - r79.1) > (0 : Int) then ((y47 - (1 : Int)) - r79.1) else (0 : Int)), r88.1]) r32.1) >>= fun y110 =>
opt (atI r10.1 y47) >>= fun y120 =>
opt (atI r10.1 y110) >>= fun y130 =>
opt (atI (sortT ([y120, y130])) (0 : Int)) >>= fun y161 =>
opt (atI (sortT ([y120, y130])) (1 : Int)) >>= fun y171 =>
m_law_number r88.2 x_far >>= fun r176 =>
appL st60.2 (T3.mk y161 y171 r176.1) >>= fun _ =>
.ok (r176.2, (st60.2 ++ [(T3.mk y161 y171 r176.1)]))) (rangeL (1 : Int) ((1 : Int) + r1.1)) (r32.2, ([] : List (T3 Int Int Int))) >>= fun st199 =>
chk (okR ((1 : Int) + r1.1)) >>= fun _ =>
compS (fun (y210 : Int) (st228 : (List Int)) =>
m_law_number st228 x_far >>= fun r234 =>
.ok (some r234.1, r234.2)) (rangeL 0 ((1 : Int) + r1.1)) st199.1 >>= fun q256 =>
.ok ((q256.1, (sortT st199.2)), q256.2)
def sp_law_tree (mg : Str → Option Value) : Sp := fun vs H Q E => ∃ (F : Hp) (a_deck : Addr) (w_deck : (List V)) (x_deck : (List Int)) (x_most : Int) (x_far : Int), vs = [.ref a_deck, V.int x_most, V.int x_far] ∧ Pre F [(a_deck, .lst w_deck)] H ∧ RL (a := Int) F w_deck x_deck ∧
  wp (m_law_tree x_deck x_most x_far) (fun r => ∀ (F' H' : Hp) (w0 : (List V)), Gr [a_deck] F H F' H' → H' a_deck = some (.lst w0) → RL (a := Int) F' w0 r.2 → ∀ v : V, R (a := ((List Int) × (List (T3 Int Int Int)))) F' v r.1 → Q v H')
  (fun n => ∀ (C : Addr) (H' : Hp), mg (Str.ofString n) = some (.ref C) → Kp [a_deck] H H' → E (.ref C) none H')
set_option maxHeartbeats 2000000 in
theorem ok_law_tree (nb : Nb mg) (C_law_number : Ca P w K mg base "_law_number" 2 ["deck", "far"] (sp_law_number mg)) (C_law_order : Ca P w K mg base "_law_order" 2 ["deck", "many"] (sp_law_order mg)) (C_law_take : Ca P w K mg base "_law_take" 1 ["deck", "many"] (sp_law_take mg)) (D : Df K mg "_law_tree" "_law_tree" s_law_tree ["deck", "most", "far"]) : Ca P w K mg base "_law_tree" 3 ["deck", "most", "far"] (sp_law_tree mg) := by
  obtain ⟨fa_law_number, fd_law_number, G_law_number, M_law_number, K_law_number, B_law_number⟩ := C_law_number.ex
  obtain ⟨fa_law_order, fd_law_order, G_law_order, M_law_order, K_law_order, B_law_order⟩ := C_law_order.ex
  obtain ⟨fa_law_take, fd_law_take, G_law_take, M_law_take, K_law_take, B_law_take⟩ := C_law_take.ex
  refine Ca.mk' D sc_law_tree (fun vs H Q E h => ?_) (fun q_ f_ cdv A outer s H vs Q E hr h => ?_)
  · obtain ⟨F, _, _, _, _, _, rfl, _⟩ := h
    rfl
  · obtain ⟨F, a_deck, w_deck, x_deck, x_most, x_far, rfl, P0, f_deck, hk⟩ := h
    have nd := sc_law_tree.nd
    have hu64 := hr.units
    have hu128 := hu128_of hr
    have O := P0.start
    refine ⟨_, (pss_cons (ps_set (i := 3) nd rfl (Or.inl rfl) (pe_op op_add pe_int (pe_call G_law_take (hr.mono (by decide)) rfl M_law_take K_law_take B_law_take .nil (passes_call (takes_of rfl rfl rfl rfl) fun _ _ _ _ h => h) (pa_cons (pv 0) (pa_cons (pv 1) pa_nil)))))
  (pss_cons (ps_set (i := 4) nd rfl (Or.inl rfl) (pe_call G_law_order (hr.mono (by decide)) rfl M_law_order K_law_order B_law_order .nil (passes_call (takes_of rfl rfl rfl rfl) fun _ _ _ _ h => h) (pa_cons (pv 0) (pa_cons (pv 3) pa_nil))))
  (pss_cons (ps_set (i := 5) nd rfl (Or.inl rfl) (pe_call G_law_take (hr.mono (by decide)) rfl M_law_take K_law_take B_law_take .nil (passes_call (takes_of rfl rfl rfl rfl) fun _ _ _ _ h => h) (pa_cons (pv 0) (pa_cons pe_int pa_nil))))
  (pss_cons (ps_set (i := 6) nd rfl (Or.inl rfl) (pe_lst pa_nil))
  (pss_cons (ps_for (passes_of rfl) rfl (pi_range2 rfl nb.b_range (pa_cons pe_int (pa_cons (pv 3) pa_nil))) (pg_name (i := 7) nd rfl (Or.inl rfl)) (pss_cons (ps_set (i := 8) nd rfl (Or.inl rfl) (pe_ix (ixListK (K := K) rfl) (pe_lst (pa_cons (pe_call G_law_take (hr.mono (by decide)) rfl M_law_take K_law_take B_law_take .nil (passes_call (takes_of rfl rfl rfl rfl) fun _ _ _ _ h => h) (pa_cons (pv 0) (pa_cons (pv 7) pa_nil))) (pa_cons (pe_op op_sub (pv 7) pe_int) (pa_cons pe_int (pa_cons (pe_callB (call_max2 rfl) (by rfl) nb.b_max (by decide +kernel) (pa_cons pe_int (pa_cons (pe_op op_sub (pe_op op_sub (pv 7) pe_int) (pe_call G_law_take (hr.mono (by decide)) rfl M_law_take K_law_take B_law_take .nil (passes_call (takes_of rfl rfl rfl rfl) fun _ _ _ _ h => h) (pa_cons (pv 0) (pa_cons pe_int pa_nil)))) pa_nil))) (pa_cons (pe_call G_law_take (hr.mono (by decide)) rfl M_law_take K_law_take B_law_take .nil (passes_call (takes_of rfl rfl rfl rfl) fun _ _ _ _ h => h) (pa_cons (pv 0) (pa_cons (pv 7) pa_nil))) pa_nil)))))) (pv 5) (fun _ _ => rfl)))
  (pss_cons (ps_set (i := 9) nd rfl (Or.inl rfl) (pe_callB (cr_sortedT Int hu128) (by rfl) nb.b_sorted (by decide +kernel) (pa_cons (pe_lst (pa_cons (pe_ix (ixListK (K := K) rfl) (pv 4) (pv 7) (fun _ _ => rfl)) (pa_cons (pe_ix (ixListK (K := K) rfl) (pv 4) (pv 8) (fun _ _ => rfl)) pa_nil))) pa_nil)))
  (pss_one (ps_expr (pe_bm PySem.F.plainAttrs_list PySem.F.slot_list_append PySem.F.type_list_append mt_append (pv 6) (pa_cons (pe_tup (pa_cons (pe_ix (ixListK (K := K) rfl) (pv 9) pe_int (fun _ _ => rfl)) (pa_cons (pe_ix (ixListK (K := K) rfl) (pv 9) pe_int (fun _ _ => rfl)) (pa_cons (pe_call G_law_number (hr.mono (by decide)) rfl M_law_number K_law_number B_law_number .nil (passes_call (takes_of rfl rfl rfl rfl) fun _ _ _ _ h => h) (pa_cons (pv 0) (pa_cons (pv 2) pa_nil))) pa_nil)))) pa_nil)))))))
  (pss_one (ps_ret (pe_tup (pa_cons (pe_lc (own := [("k", 7)]) (g := gName 7) (tt := _) rfl nd (pi_range1 rfl nb.b_range (pa_cons (pv 3) pa_nil)) (blkOk_by (own := [("k", 7)]) (N := ["deck", "most", "far", "many", "order", "kind", "ties", "k", "at", "pair"]) (sc := defScope s_law_tree) (by decide +kernel)) (fun _ _ _ _ _ => (pg_name (i := 7) nd rfl (Or.inl rfl))) (fun _ _ _ _ _ => pts_nil) (fun _ _ _ _ _ => (pe_call G_law_number (hr.mono (by decide)) rfl M_law_number K_law_number B_law_number .nil passL (pa_cons (pv 0) (pa_cons (pv 2) pa_nil))))) (pa_cons (pe_callB (cr_sortedT (T3 Int Int Int) hu128) (by rfl) nb.b_sorted (by decide +kernel) (pa_cons (pv 6) pa_nil)) pa_nil)))))))))), ?_⟩
    refine ⟨_, rfl, _, rfl, _, _, _, _, _, rfl, (O.pre1 0 rfl), f_deck, wp_call hk (fun r1 er2 hk F3 H4 w6 g5 h7 hl8 => ?_) (fun n hn C H1 hC kp => hn C H1 hC (O.kp1 kp 0 rfl))⟩
    have O9 := O.call1 g5 0 rfl h7
    have S_ := g5.f
    refine ⟨_, _, rfl, rfl, _, rfl, _, rfl, _, _, _, _, _, rfl, (O9.pre1 0 rfl), hl8, wp_call hk (fun r10 er11 hk F12 H13 w15 g14 h16 hl17 p18 w19 hn20 hf21 h22 hl23 => ?_) (fun n hn C H1 hC kp => hn C H1 hC (O9.kp1 kp 0 rfl))⟩
    have O24 := O9.call1 g14 0 rfl h16
    have S_ := g14.f
    have O25 := O9.got O24 rfl hn20 hf21 h22
    have z26 := O9.was hn20
    obtain ⟨F27, O28, S29, h30⟩ := O25.frzE 0 rfl z26
    have hl17 := hl17.mono S29
    have hl23 := hl23.mono S29
    have h31 := R.lst (a := Int) h30 hl23
    refine ⟨_, rfl, _, _, _, _, _, rfl, (O28.pre1 0 rfl), hl17, wp_call hk (fun r32 er33 hk F34 H35 w37 g36 h38 hl39 => ?_) (fun n hn C H1 hC kp => hn C H1 hC (O28.kp1 kp 0 rfl))⟩
    have O40 := O28.call1 g36 0 rfl h38
    have S_ := g36.f
    have h31 := h31.mono S_
    refine ⟨(by show 0 ≤ sizeLine; decide), fun p42 hp43 => ?_⟩
    have hl45 : RL (a := (T3 Int Int Int)) F34 ([]) ([] : List (T3 Int Int Int)) := RL.nil
    have z46 := O40.was hp43
    have O44 := O40.new (o := .lst ([])) hp43
    obtain ⟨c48, hk⟩ := wp_chk hk
    obtain ⟨c49, hk⟩ := wp_chk hk
    obtain ⟨L50, hL51, hLs52, hLd53⟩ := loopN_L hk
    refine ⟨_, rfl, _, _, rfl, ⟨c48.lo, c48.hi, c49.lo, c49.hi⟩, ?_⟩
    refine for_range (lo := (1 : Int)) (n := (((1 : Int) + r1.1) - (1 : Int)).toNat) (fun i σ H => ∃ (F_ : Hp) (st : (List Int) × (List (T3 Int Int Int))) (w_0 : (List V)) (w_1 : (List V)) (t_0 : Option V) (t_1 : Option V) (t_2 : Option V), σ = [some (V.ref a_deck), some (V.int x_most), some (V.int x_far), some (V.int ((1 : Int) + r1.1)), some (V.ref p18), some (V.int r32.1), some (V.ref p42), t_0, t_1, t_2] ∧ Same F34 F_ ∧ Ow _ F_ [(p42, .lst w_1), (a_deck, .lst w_0)] H ∧ RL (a := Int) F_ w_0 st.1 ∧ RL (a := (T3 Int Int Int)) F_ w_1 st.2 ∧ L50 (List.drop i (rangeL (1 : Int) ((1 : Int) + r1.1))) st) ⟨F34, (r32.2, ([] : List (T3 Int Int Int))), w37, [], none, none, none, rfl, Same.refl _, O44, hl39, hl45, hL51⟩ ?_ ?_
    · rintro i54 sg56 H57 hi58 ⟨F68, st60, w61, w62, t65, t66, t67, rfl, S59, O69, hl63, hl64, hL51⟩
      have h31 := h31.mono S59
      rw [rangeL_get hi58] at hL51
      have hk := hLs52 _ _ _ hL51
      obtain ⟨y47, he_⟩ : ∃ z_, z_ = (1 : Int) + (i54 : Int) := ⟨_, rfl⟩
      try rw [← he_] at hk
      rw [← he_]
      refine ⟨_, rfl, _, rfl, _, _, _, _, _, rfl, (O69.pre1 1 rfl), hl63, wp_call hk (fun r70 er71 hk F72 H73 w75 g74 h76 hl77 => ?_) (fun n hn C H1 hC kp => hn C H1 hC (O69.kp1 kp 1 rfl))⟩
      have O78 := O69.call1 g74 1 rfl h76
      have S_ := g74.f
      have h31 := h31.mono S_
      have hl64 := hl64.mono S_
      have S59 := S59.trans S_
      refine ⟨_, rfl, _, _, rfl, rfl, _, rfl, _, _, rfl, rfl, _, rfl, _, _, _, _, _, rfl, (O78.pre1 1 rfl), hl77, wp_call hk (fun r79 er80 hk F81 H82 w84 g83 h85 hl86 => ?_) (fun n hn C H1 hC kp => hn C H1 hC (O78.kp1 kp 1 rfl))⟩
      have O87 := O78.call1 g83 1 rfl h85
      have S_ := g83.f
      have h31 := h31.mono S_
      have hl64 := hl64.mono S_
      have S59 := S59.trans S_
      refine ⟨_, _, rfl, rfl, _, _, rfl, _, rfl, _, rfl, _, _, _, _, _, rfl, (O87.pre1 1 rfl), hl86, wp_call hk (fun r88 er89 hk F90 H91 w93 g92 h94 hl95 => ?_) (fun n hn C H1 hC kp => hn C H1 hC (O87.kp1 kp 1 rfl))⟩
      have O96 := O87.call1 g92 1 rfl h94
      have S_ := g92.f
      have h31 := h31.mono S_
      have hl64 := hl64.mono S_
      have S59 := S59.trans S_
      refine ⟨(by show 5 ≤ sizeLine; decide), fun p97 hp98 => ?_⟩
      have hl104 : RL (a := Int) F90 ([V.int r70.1, V.int (y47 - (1 : Int)), V.int (0 : Int), V.int (if ((y47 - (1 : Int)) - r79.1) > (0 : Int) then ((y47 - (1 : Int)) - r79.1) else (0 : Int)), V.int r88.1]) ([r70.1, (y47 - (1 : Int)), (0 : Int), (if ((y47 - (1 : Int)) - r79.1) > (0 : Int) then ((y47 - (1 : Int)) - r79.1) else (0 : Int)), r88.1]) := RL.cons R.int (RL.cons R.int (RL.cons R.int (RL.cons R.int (RL.cons R.int RL.nil))))
      obtain ⟨F99, O100, S101, h102⟩ := O96.putE hp98 (.lst ([V.int r70.1, V.int (y47 - (1 : Int)), V.int (0 : Int), V.int (if ((y47 - (1 : Int)) - r79.1) > (0 : Int) then ((y47 - (1 : Int)) - r79.1) else (0 : Int)), V.int r88.1]))
      have h31 := h31.mono S101
      have hl64 := hl64.mono S101
      have S59 := S59.trans S101
      have hl95 := hl95.mono S101
      have hl104 := hl104.mono S101
      have h103 := R.lst (a := Int) h102 hl104
      obtain ⟨p105, w106, e107, h108, hl109⟩ := R.lst_ h103
      cases e107
      obtain ⟨y110, e111, hk⟩ := wp_opt hk
      obtain ⟨w112, e113, r114⟩ := hl109.atI e111
      obtain rfl := R.int_ r114
      obtain ⟨p115, w116, e117, h118, hl119⟩ := R.lst_ h31
      cases e117
      obtain ⟨y120, e121, hk⟩ := wp_opt hk
      obtain ⟨w122, e123, r124⟩ := hl119.atI e121
      obtain rfl := R.int_ r124
      obtain ⟨p125, w126, e127, h128, hl129⟩ := R.lst_ h31
      cases e127
      obtain ⟨y130, e131, hk⟩ := wp_opt hk
      obtain ⟨w132, e133, r134⟩ := hl129.atI e131
      obtain rfl := R.int_ r134
      refine ⟨_, rfl, _, _, _, _, rfl, rfl, (SqLF O100.s h108), e113, _, rfl, _, rfl, _, _, _, _, rfl, rfl, (SqLF O100.s h118), e123, _, rfl, _, rfl, _, _, _, _, rfl, rfl, (SqLF O100.s h128), e133, (by show 2 ≤ sizeLine; decide), fun p135 hp136 => ?_⟩
      have hl142 : RL (a := Int) F99 ([V.int y120, V.int y130]) ([y120, y130]) := RL.cons R.int (RL.cons R.int RL.nil)
      obtain ⟨F137, O138, S139, h140⟩ := O100.putE hp136 (.lst ([V.int y120, V.int y130]))
      have h31 := h31.mono S139
      have hl64 := hl64.mono S139
      have S59 := S59.trans S139
      have hl95 := hl95.mono S139
      have h103 := h103.mono S139
      have h108 := S139 _ _ h108
      have hl109 := hl109.mono S139
      have h118 := S139 _ _ h118
      have hl119 := hl119.mono S139
      have h128 := S139 _ _ h128
      have hl129 := hl129.mono S139
      have hl142 := hl142.mono S139
      have h141 := R.lst (a := Int) h140 hl142
      obtain ⟨p143, w144, e145, h146, hl147⟩ := R.lst_ h141
      cases e145
      refine ⟨_, _, _, rfl, (O138.s _ _ h146), (RL.mono hl147 O138.s), fun p148 hp149 => ?_⟩
      have hl155 : RL (a := Int) F137 (sortV w144 ([y120, y130])) (sortT ([y120, y130])) := (RL.sorted hl147)
      obtain ⟨F150, O151, S152, h153⟩ := O138.putE hp149 (.lst (sortV w144 ([y120, y130])))
      have h31 := h31.mono S152
      have hl64 := hl64.mono S152
      have S59 := S59.trans S152
      have hl95 := hl95.mono S152
      have h103 := h103.mono S152
      have h108 := S152 _ _ h108
      have hl109 := hl109.mono S152
      have h118 := S152 _ _ h118
      have hl119 := hl119.mono S152
      have h128 := S152 _ _ h128
      have hl129 := hl129.mono S152
      have h141 := h141.mono S152
      have h146 := S152 _ _ h146
      have hl147 := hl147.mono S152
      have hl155 := hl155.mono S152
      have h154 := R.lst (a := Int) h153 hl155
      obtain ⟨p156, w157, e158, h159, hl160⟩ := R.lst_ h154
      cases e158
      obtain ⟨y161, e162, hk⟩ := wp_opt hk
      obtain ⟨w163, e164, r165⟩ := hl160.atI e162
      obtain rfl := R.int_ r165
      obtain ⟨p166, w167, e168, h169, hl170⟩ := R.lst_ h154
      cases e168
      obtain ⟨y171, e172, hk⟩ := wp_opt hk
      obtain ⟨w173, e174, r175⟩ := hl170.atI e172
      obtain rfl := R.int_ r175
      refine ⟨_, rfl, (.inl ⟨rfl, _, SqL.of (O151.at 0 rfl)⟩), _, rfl, _, _, _, _, rfl, rfl, (SqLF O151.s h159), e164, _, rfl, _, _, _, _, rfl, rfl, (SqLF O151.s h169), e174, _, rfl, _, rfl, _, _, _, _, _, rfl, (O151.pre1 1 rfl), hl95, wp_call hk (fun r176 er177 hk F178 H179 w181 g180 h182 hl183 => ?_) (fun n hn C H1 hC kp => hn C H1 hC (O151.kp1 kp 1 rfl))⟩
      have O184 := O151.call1 g180 1 rfl h182
      have S_ := g180.f
      have h31 := h31.mono S_
      have hl64 := hl64.mono S_
      have S59 := S59.trans S_
      have h103 := h103.mono S_
      have h108 := S_ _ _ h108
      have hl109 := hl109.mono S_
      have h118 := S_ _ _ h118
      have hl119 := hl119.mono S_
      have h128 := S_ _ _ h128
      have hl129 := hl129.mono S_
      have h141 := h141.mono S_
      have h146 := S_ _ _ h146
      have hl147 := hl147.mono S_
      have h154 := h154.mono S_
      have h159 := S_ _ _ h159
      have hl160 := hl160.mono S_
      have h169 := S_ _ _ h169
      have hl170 := hl170.mono S_
      refine ⟨(by show 3 ≤ sizeLine; decide), fun p185 hp186 => ?_⟩
      obtain ⟨F187, O188, S189, h190⟩ := O184.putE hp186 (.tup [V.int y161, V.int y171, V.int r176.1])
      have h31 := h31.mono S189
      have hl64 := hl64.mono S189
      have S59 := S59.trans S189
      have h103 := h103.mono S189
      have h108 := S189 _ _ h108
      have hl109 := hl109.mono S189
      have h118 := S189 _ _ h118
      have hl119 := hl119.mono S189
      have h128 := S189 _ _ h128
      have hl129 := hl129.mono S189
      have h141 := h141.mono S189
      have h146 := S189 _ _ h146
      have hl147 := hl147.mono S189
      have h154 := h154.mono S189
      have h159 := S189 _ _ h159
      have hl160 := hl160.mono S189
      have h169 := S189 _ _ h169
      have hl170 := hl170.mono S189
      have hl183 := hl183.mono S189
      have h191 : R (a := (T3 Int Int Int)) F187 (.ref p185) (T3.mk y161 y171 r176.1) := R.t3 h190 R.int R.int R.int
      obtain ⟨c192, hk⟩ := wp_appL hk
      refine ⟨_, _, _, rfl, rfl, (O188.at 0 rfl), (by rw [hl64.len]; exact c192), ?_⟩
      have O194 := O188.set 0 (.lst (w62 ++ [V.ref p185])) rfl
      have hl195 : RL (a := (T3 Int Int Int)) F187 (w62 ++ [V.ref p185]) (st60.2 ++ [(T3.mk y161 y171 r176.1)]) := RL.snoc hl64 h191
      exact ⟨F187, (r176.2, (st60.2 ++ [(T3.mk y161 y171 r176.1)])), w181, (w62 ++ [V.ref p185]), some (V.int y47), some (V.int y110), some (V.ref p148), rfl, S59, O194, hl183, hl195, hk⟩
    rintro sg196 H197 ⟨F208, st199, w201, w202, t205, t206, t207, rfl, S198, O209, hl203, hl204, hL200⟩
    rw [rangeL_end] at hL200
    have hk := hLd53 _ hL200
    have h31 := h31.mono S198
    obtain ⟨c211, hk⟩ := wp_chk hk
    obtain ⟨c216, L212, hL213, hLs214, hLd215⟩ := compS_L hk
    refine ⟨_, rfl, _, rfl, c211.lo, c211.hi, fun p217 hp218 => ?_⟩
    have z243 := O209.was hp218
    refine lc_range (lo := 0) (n := (((1 : Int) + r1.1)).toNat) (fun i H => ∃ (F_ : Hp) (st : (List Int)) (acc : List Int) (wa : List V) (w_0 : (List V)), Same F208 F_ ∧ Ow _ F_ [(p217, .lst wa), (p42, .lst w202), (a_deck, .lst w_0)] H ∧ RL F_ wa acc ∧ RL (a := Int) F_ w_0 st ∧ wa.length ≤ i ∧ L212 (List.drop i (rangeL 0 ((1 : Int) + r1.1))) acc st) ⟨F208, st199.1, [], [], w201, Same.refl _, O209.new hp218, RL.nil, hl203, Nat.zero_le _, hL213⟩ ?_ ?_
    · rintro i219 H221 hi222 ⟨F227, st228, acc224, wa225, w230, S229, O233, hl232, hl231, la226, hL213⟩
      have h31 := h31.mono S229
      have hl204 := hl204.mono S229
      rw [rangeL_get0 hi222] at hL213
      have hk := hLs214 _ _ _ _ hL213
      obtain ⟨y210, he_⟩ : ∃ z_, z_ = 0 + (i219 : Int) := ⟨_, rfl⟩
      try rw [← he_] at hk
      rw [← he_]
      refine ⟨rfl, ?_⟩
      refine ⟨_, rfl, _, rfl, _, _, _, _, _, rfl, (O233.pre1 2 rfl), hl231, wp_call hk (fun r234 er235 hk F236 H237 w239 g238 h240 hl241 => ?_) (fun n hn => hn.elim)⟩
      have O242 := O233.call1 g238 2 rfl h240
      have S_ := g238.f
      have h31 := h31.mono S_
      have hl204 := hl204.mono S_
      have S229 := S229.trans S_
      have hl232 := hl232.mono S_
      refine ⟨_, (O242.at 0 rfl), (comp_lenR la226 hi222 (by rw [Int.sub_zero]) c216), ?_⟩
      exact ⟨F236, r234.2, acc224 ++ [r234.1], wa225 ++ [V.int r234.1], w239, S229, O242.set 0 (.lst (wa225 ++ [V.int r234.1])) rfl, RL.snoc hl232 R.int, hl241, by rw [List.length_append]; exact Nat.succ_le_succ la226, hk⟩
    rintro H244 ⟨F245, st246, acc247, wa248, w254, S249, O250, hl251, hl255, la252, hL253⟩
    rw [rangeL_end0] at hL253
    have hk := hLd215 _ _ hL253
    have h31 := h31.mono S249
    have hl204 := hl204.mono S249
    obtain ⟨F257, O258, S259, h260⟩ := O250.frzE 0 rfl z243
    have h31 := h31.mono S259
    have hl204 := hl204.mono S259
    have hl255 := hl255.mono S259
    have hl251 := hl251.mono S259
    have h261 := R.lst (a := Int) h260 hl251
    refine ⟨_, rfl, _, _, _, rfl, (O258.at 0 rfl), (RL.mono hl204 O258.s), fun p262 hp263 => ?_⟩
    have hl269 : RL (a := (T3 Int Int Int)) F257 (sortV w202 st199.2) (sortT st199.2) := (RL.sorted hl204)
    obtain ⟨F264, O265, S266, h267⟩ := O258.putE hp263 (.lst (sortV w202 st199.2))
    have h31 := h31.mono S266
    have hl204 := hl204.mono S266
    have hl255 := hl255.mono S266
    have h261 := h261.mono S266
    have hl269 := hl269.mono S266
    have h268 := R.lst (a := (T3 Int Int Int)) h267 hl269
    refine ⟨(by show 2 ≤ sizeLine; decide), fun p270 hp271 => ?_⟩
    obtain ⟨F272, O273, S274, h275⟩ := O265.putE hp271 (.tup [V.ref p217, V.ref p262])
    have h31 := h31.mono S274
    have hl204 := hl204.mono S274
    have hl255 := hl255.mono S274
    have h261 := h261.mono S274
    have h268 := h268.mono S274
    have h276 : R (a := ((List Int) × (List (T3 Int Int Int)))) F272 (.ref p270) (acc247, (sortT st199.2)) := R.t2 h275 h261 h268
    exact hk _ _ w254 O273.g (O273.at 1 rfl) hl255 _ h276
abbrev s_law_copied : Stmt := top 17
theorem sc_law_copied : FnScope ["tree"] ["tree"] (defScope s_law_copied) := ⟨rfl, rfl, rfl, by decide +kernel, rfl, by decide +kernel, by decide +kernel⟩
def m_law_copied (x_tree : ((List Int) × (List (T3 Int Int Int)))) : M (((List Int) × (List (T3 Int Int Int)))) :=
.ok (x_tree.1, x_tree.2)
def sp_law_copied (mg : Str → Option Value) : Sp := fun vs H Q E => ∃ (F : Hp) (v_tree : V) (x_tree : ((List Int) × (List (T3 Int Int Int)))), vs = [v_tree] ∧ Pre F [] H ∧ R (a := ((List Int) × (List (T3 Int Int Int)))) F v_tree x_tree ∧
  wp (m_law_copied x_tree) (fun r => ∀ (F' H' : Hp), Gr [] F H F' H' → ∀ v : V, R (a := ((List Int) × (List (T3 Int Int Int)))) F' v r → Q v H')
  (fun n => ∀ (C : Addr) (H' : Hp), mg (Str.ofString n) = some (.ref C) → Kp [] H H' → E (.ref C) none H')
set_option maxHeartbeats 2000000 in
theorem ok_law_copied (nb : Nb mg) (D : Df K mg "_law_copied" "_law_copied" s_law_copied ["tree"]) : Ca P w K mg base "_law_copied" 1 ["tree"] (sp_law_copied mg) := by
  refine Ca.mk' D sc_law_copied (fun vs H Q E h => ?_) (fun q_ f_ cdv A outer s H vs Q E hr h => ?_)
  · obtain ⟨F, _, _, rfl, _⟩ := h
    rfl
  · obtain ⟨F, v_tree, x_tree, rfl, P0, f_tree, hk⟩ := h
    have nd := sc_law_copied.nd
    have hu64 := hr.units
    have hu128 := hu128_of hr
    have O := P0.start
    refine ⟨_, (pss_one (ps_ret (pe_tup (pa_cons (pe_callTy (listOfK (K := K) rfl) (by rfl) nb.b_list (by decide +kernel) (pa_cons (pe_ix (ixTupK (K := K) rfl) (pv 0) pe_int (fun _ _ => rfl)) pa_nil)) (pa_cons (pe_callTy (listOfK (K := K) rfl) (by rfl) nb.b_list (by decide +kernel) (pa_cons (pe_ix (ixTupK (K := K) rfl) (pv 0) pe_int (fun _ _ => rfl)) pa_nil)) pa_nil))))), ?_⟩
    obtain ⟨p1, v4, v5, e2, h3, r6, r7⟩ := R.t2_ f_tree
    cases e2
    obtain ⟨p8, w9, e10, h11, hl12⟩ := R.lst_ r6
    cases e10
    refine ⟨_, rfl, _, _, _, _, rfl, rfl, (SqTF O.s h3), rfl, _, _, rfl, (.inl (SqLF O.s h11)), fun p13 hp14 => ?_⟩
    have hl20 : RL (a := Int) F w9 x_tree.1 := hl12
    obtain ⟨F15, O16, S17, h18⟩ := O.putE hp14 (.lst w9)
    have f_tree := f_tree.mono S17
    have h3 := S17 _ _ h3
    have r6 := r6.mono S17
    have r7 := r7.mono S17
    have h11 := S17 _ _ h11
    have hl12 := hl12.mono S17
    have hl20 := hl20.mono S17
    have h19 := R.lst (a := Int) h18 hl20
    obtain ⟨p21, w22, e23, h24, hl25⟩ := R.lst_ r7
    cases e23
    refine ⟨_, rfl, _, _, _, _, rfl, rfl, (SqTF O16.s h3), rfl, _, _, rfl, (.inl (SqLF O16.s h24)), fun p26 hp27 => ?_⟩
    have hl33 : RL (a := (T3 Int Int Int)) F15 w22 x_tree.2 := hl25
    obtain ⟨F28, O29, S30, h31⟩ := O16.putE hp27 (.lst w22)
    have f_tree := f_tree.mono S30
    have h3 := S30 _ _ h3
    have r6 := r6.mono S30
    have r7 := r7.mono S30
    have h11 := S30 _ _ h11
    have hl12 := hl12.mono S30
    have h19 := h19.mono S30
    have h24 := S30 _ _ h24
    have hl25 := hl25.mono S30
    have hl33 := hl33.mono S30
    have h32 := R.lst (a := (T3 Int Int Int)) h31 hl33
    refine ⟨(by show 2 ≤ sizeLine; decide), fun p34 hp35 => ?_⟩
    obtain ⟨F36, O37, S38, h39⟩ := O29.putE hp35 (.tup [V.ref p13, V.ref p26])
    have f_tree := f_tree.mono S38
    have h3 := S38 _ _ h3
    have r6 := r6.mono S38
    have r7 := r7.mono S38
    have h11 := S38 _ _ h11
    have hl12 := hl12.mono S38
    have h19 := h19.mono S38
    have h24 := S38 _ _ h24
    have hl25 := hl25.mono S38
    have h32 := h32.mono S38
    have h40 : R (a := ((List Int) × (List (T3 Int Int Int)))) F36 (.ref p34) (x_tree.1, x_tree.2) := R.t2 h39 h19 h32
    exact hk _ _  O37.g  _ h40
abbrev s_law_told : Stmt := top 18
theorem sc_law_told : FnScope ["found", "tree", "tie"] ["found", "tree"] (defScope s_law_told) := ⟨rfl, rfl, rfl, by decide +kernel, rfl, by decide +kernel, by decide +kernel⟩
def m_law_told (x_found : ((List Int) × (List (T3 Int Int Int)))) (x_tree : ((List Int) × (List (T3 Int Int Int)))) : M (Bool) :=
if x_found ≠ x_tree then (
.ok false)
else (
m_law_are_whole x_found.1 >>= fun r9 =>
if r9 = true then (
loopM (fun (y26 : (T3 Int Int Int)) (st37 : Unit) =>
m_law_are_whole ([y26.a, y26.b, y26.c]) >>= fun r60 =>
if r60 = true then (
.ok (.nx ()))
else (
.ok (.rt false))) x_found.2 () >>= fun f75 => match f75 with
| .rt z_ => .ok z_
| .nx st70 =>
.ok true)
else (
.ok false))
def sp_law_told (mg : Str → Option Value) : Sp := fun vs H Q E => ∃ (F : Hp) (v_found : V) (x_found : ((List Int) × (List (T3 Int Int Int)))) (v_tree : V) (x_tree : ((List Int) × (List (T3 Int Int Int)))), vs = [v_found, v_tree] ∧ Pre F [] H ∧ R (a := ((List Int) × (List (T3 Int Int Int)))) F v_found x_found ∧ R (a := ((List Int) × (List (T3 Int Int Int)))) F v_tree x_tree ∧
  wp (m_law_told x_found x_tree) (fun r => ∀ (F' H' : Hp), Gr [] F H F' H' → Q (V.bl r) H')
  (fun n => ∀ (C : Addr) (H' : Hp), mg (Str.ofString n) = some (.ref C) → Kp [] H H' → E (.ref C) none H')
set_option maxHeartbeats 2000000 in
theorem ok_law_told (nb : Nb mg) (C_law_are_whole : Ca P w K mg base "_law_are_whole" 2 ["found"] (sp_law_are_whole mg)) (D : Df K mg "_law_told" "_law_told" s_law_told ["found", "tree"]) : Ca P w K mg base "_law_told" 3 ["found", "tree"] (sp_law_told mg) := by
  obtain ⟨fa_law_are_whole, fd_law_are_whole, G_law_are_whole, M_law_are_whole, K_law_are_whole, B_law_are_whole⟩ := C_law_are_whole.ex
  refine Ca.mk' D sc_law_told (fun vs H Q E h => ?_) (fun q_ f_ cdv A outer s H vs Q E hr h => ?_)
  · obtain ⟨F, _, _, _, _, rfl, _⟩ := h
    rfl
  · obtain ⟨F, v_found, x_found, v_tree, x_tree, rfl, P0, f_found, f_tree, hk⟩ := h
    have nd := sc_law_told.nd
    have hu64 := hr.units
    have hu128 := hu128_of hr
    have O := P0.start
    refine ⟨_, (pss_cons (ps_if (PW.pt (pw_or (pt_not (pt_val (pe_callB (isiK (K := K) rfl) (by rfl) nb.b_isinstance (by decide +kernel) (pa_cons (pv 0) (pa_cons (pe_bltn (v := .ty "tuple") (by rfl) nb.b_tuple (by decide +kernel) rfl) pa_nil))))) (pw_or (pt_cmpR (op_neT ((List Int) × (List (T3 Int Int Int))) hu64) (pv 0) (pv 1) (nomark _)) (pw_or (pt_not (pt_val (pe_call G_law_are_whole (hr.mono (by decide)) rfl M_law_are_whole K_law_are_whole B_law_are_whole .nil (passes_call (takes_of rfl rfl rfl rfl) fun _ _ _ _ h => h) (pa_cons (pe_ix (ixTupK (K := K) rfl) (pv 0) pe_int (fun _ _ => rfl)) pa_nil)))) (pw_or1 (pt_not (pt_val (pe_callB (isiK (K := K) rfl) (by rfl) nb.b_isinstance (by decide +kernel) (pa_cons (pe_ix (ixTupK (K := K) rfl) (pv 0) pe_int (fun _ _ => rfl)) (pa_cons (pe_bltn (v := .ty "list") (by rfl) nb.b_list (by decide +kernel) rfl) pa_nil)))))))))) (pss_one (ps_ret pe_bl)) pss_nil)
  (pss_cons (ps_for (passes_of rfl) rfl (pi_list (pe_ix (ixTupK (K := K) rfl) (pv 0) pe_int (fun _ _ => rfl))) (pg_name (i := 2) nd rfl (Or.inl rfl)) (pss_one (ps_if (PW.pt (pw_or (pt_not (pt_val (pe_callB (isiK (K := K) rfl) (by rfl) nb.b_isinstance (by decide +kernel) (pa_cons (pv 2) (pa_cons (pe_bltn (v := .ty "tuple") (by rfl) nb.b_tuple (by decide +kernel) rfl) pa_nil))))) (pw_or1 (pt_not (pt_val (pe_call G_law_are_whole (hr.mono (by decide)) rfl M_law_are_whole K_law_are_whole B_law_are_whole .nil (passes_call (takes_of rfl rfl rfl rfl) fun _ _ _ _ h => h) (pa_cons (pe_callTy (listOfK (K := K) rfl) (by rfl) nb.b_list (by decide +kernel) (pa_cons (pv 2) pa_nil)) pa_nil))))))) (pss_one (ps_ret pe_bl)) pss_nil)))
  (pss_one (ps_ret pe_bl)))), ?_⟩
    obtain ⟨p1, v4, v5, e2, h3, r6, r7⟩ := R.t2_ f_found
    cases e2
    refine ⟨_, rfl, _, _, _, _, true, rfl, .ty _, (.base (.tup (O.s _ _ h3))), kit_ty (by decide +kernel), _, rfl, ?_⟩
    refine iteNT ?_
    refine ⟨_, rfl, _, rfl, _, _, (R.mono f_found O.s), (R.mono f_tree O.s), _, rfl, ?_⟩
    refine iteD (fun q8 => ?_) (fun q8 => ?_)
    · have hk := wp_if hk q8
      refine iteT ?_
      exact hk _ _  O.g 
    · have hk := wp_el hk q8
      refine ⟨_, rfl, _, _, _, _, rfl, rfl, (SqTF O.s h3), rfl, _, _, _, rfl, O.pre0, r6, wp_call hk (fun r9 er10 hk F11 H12 g13 => ?_) (fun n hn C H1 hC kp => hn C H1 hC (O.kp0 kp))⟩
      have O14 := O.call0 g13
      have S_ := g13.f
      have f_found := f_found.mono S_
      have f_tree := f_tree.mono S_
      have h3 := S_ _ _ h3
      have r6 := r6.mono S_
      have r7 := r7.mono S_
      refine ⟨_, rfl, ?_⟩
      refine iteBN (fun q15 => ?_) (fun q15 => ?_)
      · have hk := wp_if hk q15
        obtain ⟨p16, w17, e18, h19, hl20⟩ := R.lst_ r7
        cases e18
        refine ⟨_, rfl, _, _, _, _, rfl, rfl, (SqTF O14.s h3), rfl, _, _, _, _, true, rfl, .ty _, (.base (.lst (O14.s _ _ h19))), kit_ty (by decide +kernel), _, rfl, ?_⟩
        refine iteNT ?_
        obtain ⟨p21, w22, e23, h24, hl25⟩ := R.lst_ r7
        cases e23
        obtain ⟨L27, hL28, hLs29, hLd30⟩ := loopM_L hk
        refine ⟨_, rfl, _, _, _, _, rfl, rfl, (SqTF O14.s h3), rfl, _, rfl, ⟨_, (SqLF O14.s h24)⟩, ?_⟩
        refine for_list (K := K) (xs := w22) (fun i σ H => ∃ (F_ : Hp) (st : Unit) (t_0 : Option V), σ = [some (V.ref p1), some v_tree, t_0] ∧ Same F11 F_ ∧ Ow _ F_ [] H ∧ L27 (List.drop i x_found.2) st) ⟨F11, (), none, rfl, Same.refl _, O14, hL28⟩ (fun i_ σ_ H_ _ hp_ => ?_) ?_ ?_
        · obtain ⟨_, _, _, _, hS_, hO_, _⟩ := hp_
          exact SqLF hO_.s (hS_ _ _ h24)
        · rintro i31 x32 sg33 H34 hi35 ⟨F39, st37, t38, rfl, S36, O40, hL28⟩
          have f_found := f_found.mono S36
          have f_tree := f_tree.mono S36
          have h3 := S36 _ _ h3
          have r6 := r6.mono S36
          have r7 := r7.mono S36
          have h19 := S36 _ _ h19
          have hl20 := hl20.mono S36
          have h24 := S36 _ _ h24
          have hl25 := hl25.mono S36
          obtain ⟨y26, e41, r42⟩ := RL.got hl25 hi35
          rw [drop_at e41] at hL28
          have hk := hLs29 _ _ _ hL28
          obtain ⟨p43, v46, v47, v48, e44, h45, r49, r50, r51⟩ := R.t3_ r42
          cases e44
          obtain rfl := R.int_ r49
          obtain rfl := R.int_ r50
          obtain rfl := R.int_ r51
          refine ⟨_, rfl, _, _, _, _, true, rfl, .ty _, (.base (.tup (O40.s _ _ h45))), kit_ty (by decide +kernel), _, rfl, ?_⟩
          refine iteNT ?_
          refine ⟨_, rfl, _, _, rfl, (.inr (SqTF O40.s h45)), fun p52 hp53 => ?_⟩
          have hl59 : RL (a := Int) F39 ([V.int y26.a, V.int y26.b, V.int y26.c]) ([y26.a, y26.b, y26.c]) := RL.cons R.int (RL.cons R.int (RL.cons R.int RL.nil))
          obtain ⟨F54, O55, S56, h57⟩ := O40.putE hp53 (.lst ([V.int y26.a, V.int y26.b, V.int y26.c]))
          have f_found := f_found.mono S56
          have f_tree := f_tree.mono S56
          have h3 := S56 _ _ h3
          have r6 := r6.mono S56
          have r7 := r7.mono S56
          have h19 := S56 _ _ h19
          have hl20 := hl20.mono S56
          have h24 := S56 _ _ h24
          have hl25 := hl25.mono S56
          have S36 := S36.trans S56
          have r42 := r42.mono S56
          have h45 := S56 _ _ h45
          have hl59 := hl59.mono S56
          have h58 := R.lst (a := Int) h57 hl59
          refine ⟨_, _, _, rfl, O55.pre0, h58, wp_call hk (fun r60 er61 hk F62 H63 g64 => ?_) (fun n hn C H1 hC kp => hn C H1 hC (O55.kp0 kp))⟩
          have O65 := O55.call0 g64
          have S_ := g64.f
          have f_found := f_found.mono S_
          have f_tree := f_tree.mono S_
          have h3 := S_ _ _ h3
          have r6 := r6.mono S_
          have r7 := r7.mono S_
          have h19 := S_ _ _ h19
          have hl20 := hl20.mono S_
          have h24 := S_ _ _ h24
          have hl25 := hl25.mono S_
          have S36 := S36.trans S_
          have r42 := r42.mono S_
          have h45 := S_ _ _ h45
          have h58 := h58.mono S_
          refine ⟨_, rfl, ?_⟩
          refine iteBN (fun q66 => ?_) (fun q66 => ?_)
          · have hk := wp_if hk q66
            exact ⟨F62, (), some (V.ref p43), rfl, S36, O65, hk⟩
          · have hk := wp_el hk q66
            exact hk _ _  O65.g 
        rintro sg67 H68 ⟨F73, st70, t72, rfl, S69, O74, hL71⟩
        rw [drop_end hl25.len] at hL71
        have hk := hLd30 _ hL71
        have f_found := f_found.mono S69
        have f_tree := f_tree.mono S69
        have h3 := S69 _ _ h3
        have r6 := r6.mono S69
        have r7 := r7.mono S69
        have h19 := S69 _ _ h19
        have hl20 := hl20.mono S69
        have h24 := S69 _ _ h24
        have hl25 := hl25.mono S69
        exact hk _ _  O74.g 
      · have hk := wp_el hk q15
        refine iteT ?_
        exact hk _ _  O14.g 
abbrev s_law : Stmt := top 19
theorem sc_law : FnScope ["script", "cell", "deck", "tree", "ties", "handed", "one", "other", "k"] ["script"] (defScope s_law) := ⟨rfl, rfl, rfl, by decide +kernel, rfl, by decide +kernel, by decide +kernel⟩
def m_law (x_script : (List Int)) : M (Bool) :=
chk (([((10 : Int) ^ Int.toNat (18 : Int))]).length + (cutL x_script none (some (10 : Int))).length < 16777216) >>= fun _ =>
loopM (fun (y41 : Int) (st52 : Unit) =>
m_law_deck y41 >>= fun r65 =>
m_law_take r65 (4 : Int) >>= fun r87 =>
opt (atI ([(10 : Int), (10 : Int), (10 : Int), (40 : Int)]) r87.1) >>= fun y101 =>
m_law_far r87.2 >>= fun r106 =>
m_law_tree r106.2 y101 r106.1 >>= fun r115 =>
m_law_order r115.2 (r115.1.2.length : Int) >>= fun r138 =>
compS (fun (y165 : Int) (st182 : Unit) =>
opt (atI r115.1.2 y165) >>= fun y193 =>
.ok (some y193, ())) r138.1 () >>= fun q209 =>
m_tree_of r115.1.1 q209.1 >>= fun r249 =>
m_tree_of r115.1.1 q209.1 >>= fun r285 =>
m_law_told (r249.1, r249.2) r115.1 >>= fun r320 =>
if r320 = true then (
m_law_told (r285.1, r285.2) r115.1 >>= fun r331 =>
if r331 = true then (
if (HL2.mk r115.1.1 q209.1) ≠ (HL2.mk r115.1.1 q209.1) then (
.ok (.rt false))
else (
appL r249.1 (1 : Int) >>= fun _ =>
appL r249.2 (T3.mk (0 : Int) (1 : Int) (1 : Int)) >>= fun _ =>
m_law_told (r285.1, r285.2) r115.1 >>= fun r369 =>
if r369 = true then (
m_tree_of r115.1.1 q209.1 >>= fun r402 =>
m_law_told (r402.1, r402.2) r115.1 >>= fun r433 =>
if r433 = true then (
.ok (.nx ()))
else (
.ok (.rt false)))
else (
.ok (.rt false))))
else (
.ok (.rt false)))
else (
.ok (.rt false))) (([((10 : Int) ^ Int.toNat (18 : Int))]) ++ (cutL x_script none (some (10 : Int)))) () >>= fun f463 => match f463 with
| .rt z_ => .ok z_
| .nx st452 =>
.ok true
def sp_law (K : PySem.W.Frag) : Sp := fun vs H Q E => ∃ (F : Hp) (a_script : Addr) (x_script : (List Int)), vs = [.ref a_script] ∧ Pre F [] H ∧ SqL K F a_script (x_script.map V.int) ∧
  wp (m_law x_script) (fun r => ∀ (F' H' : Hp), Gr [] F H F' H' → Q (V.bl r) H') (fun _ => False)
set_option maxHeartbeats 2000000 in
theorem ok_law (nb : Nb mg) (C_law_deck : Ca P w K mg base "_law_deck" 2 ["cell"] (sp_law_deck mg)) (C_law_far : Ca P w K mg base "_law_far" 2 ["deck"] (sp_law_far mg)) (C_law_order : Ca P w K mg base "_law_order" 2 ["deck", "many"] (sp_law_order mg)) (C_law_take : Ca P w K mg base "_law_take" 1 ["deck", "many"] (sp_law_take mg)) (C_law_told : Ca P w K mg base "_law_told" 3 ["found", "tree"] (sp_law_told mg)) (C_law_tree : Ca P w K mg base "_law_tree" 3 ["deck", "most", "far"] (sp_law_tree mg)) (C_tree_of : Ca P w K mg base "tree_of" 2 ["worths", "ties"] (sp_tree_of mg)) {f : Addr} {fd : FuncData} (F_ : Fun K "law" "law" s_law f fd) : FnOk P w K mg base (L2.CX P w) 4 f fd ["script"] (sp_law K) := by
  obtain ⟨fa_law_deck, fd_law_deck, G_law_deck, M_law_deck, K_law_deck, B_law_deck⟩ := C_law_deck.ex
  obtain ⟨fa_law_far, fd_law_far, G_law_far, M_law_far, K_law_far, B_law_far⟩ := C_law_far.ex
  obtain ⟨fa_law_order, fd_law_order, G_law_order, M_law_order, K_law_order, B_law_order⟩ := C_law_order.ex
  obtain ⟨fa_law_take, fd_law_take, G_law_take, M_law_take, K_law_take, B_law_take⟩ := C_law_take.ex
  obtain ⟨fa_law_told, fd_law_told, G_law_told, M_law_told, K_law_told, B_law_told⟩ := C_law_told.ex
  obtain ⟨fa_law_tree, fd_law_tree, G_law_tree, M_law_tree, K_law_tree, B_law_tree⟩ := C_law_tree.ex
  obtain ⟨fa_tree_of, fd_tree_of, G_tree_of, M_tree_of, K_tree_of, B_tree_of⟩ := C_tree_of.ex
  refine F_.okX sc_law (fun vs H Q E h => ?_) (fun cdv A outer s H vs Q E hr h => ?_)
  · obtain ⟨F, _, _, rfl, _⟩ := h
    rfl
  · obtain ⟨F, a_script, x_script, rfl, P0, f_script, hk⟩ := h
    have nd := sc_law.nd
    have hu64 := hr.units
    have hu128 := hu128_of hr
    have O := P0.start
    refine ⟨_, (pss_cons (ps_for (passes_of rfl) rfl (pi_list (pe_op op_cat (pe_lst (pa_cons (pe_op op_pow pe_int pe_int) pa_nil)) (pe_slice (slListK (K := K) rfl) (pv 0) po_none (po_some pe_int)))) (pg_name (i := 1) nd rfl (Or.inl rfl)) (pss_cons (ps_set (i := 2) nd rfl (Or.inl rfl) (pe_call G_law_deck (hr.mono (by decide)) rfl M_law_deck K_law_deck B_law_deck .nil (passes_call (takes_of rfl rfl rfl rfl) fun _ _ _ _ h => h) (pa_cons (pv 1) pa_nil)))
  (pss_cons (ps_set (i := 3) nd rfl (Or.inr rfl) (pe_call G_law_tree (hr.mono (by decide)) rfl M_law_tree K_law_tree B_law_tree .nil (passes_call (takes_of rfl rfl rfl rfl) fun _ _ _ _ h => h) (pa_cons (pv 2) (pa_cons (pe_ix (ixListK (K := K) rfl) (pe_lst (pa_cons pe_int (pa_cons pe_int (pa_cons pe_int (pa_cons pe_int pa_nil))))) (pe_call G_law_take (hr.mono (by decide)) rfl M_law_take K_law_take B_law_take .nil (passes_call (takes_of rfl rfl rfl rfl) fun _ _ _ _ h => h) (pa_cons (pv 2) (pa_cons pe_int pa_nil))) (fun _ _ => rfl)) (pa_cons (pe_call G_law_far (hr.mono (by decide)) rfl M_law_far K_law_far B_law_far .nil (passes_call (takes_of rfl rfl rfl rfl) fun _ _ _ _ h => h) (pa_cons (pv 2) pa_nil)) pa_nil)))))
  (pss_cons (ps_setLc (i := 4) (own := [("k", 8)]) (g := gName 8) (tt := _) rfl nd rfl rfl (sw_true rfl rfl rfl (by decide +kernel)) (pi_list (pe_call G_law_order (hr.mono (by decide)) rfl M_law_order K_law_order B_law_order .nil (passes_call (takes_of rfl rfl rfl rfl) fun _ _ _ _ h => h) (pa_cons (pv 2) (pa_cons (pe_callB call_lenT (by rfl) nb.b_len PySem.boot_len (pa_cons (pe_ix (ixTupK (K := K) rfl) (pv 3) pe_int (fun _ _ => rfl)) pa_nil)) pa_nil)))) (blkOk_by (own := [("k", 8)]) (N := ["script", "cell", "deck", "tree", "ties", "handed", "one", "other", "k"]) (sc := defScope s_law) (by decide +kernel)) (fun _ _ _ _ _ => (pg_name (i := 8) nd rfl (Or.inl rfl))) (fun _ _ _ _ _ => pts_nil) (fun _ _ _ _ _ => (pe_ix (ixListK (K := K) rfl) (pe_ix (ixTupK (K := K) rfl) (pv 3) pe_int (fun _ _ => rfl)) (pv 8) (fun _ _ => rfl))))
  (pss_cons (ps_set (i := 5) nd rfl (Or.inl rfl) (pe_lst (pa_cons (pe_callTy (listOfK (K := K) rfl) (by rfl) nb.b_list (by decide +kernel) (pa_cons (pe_ix (ixTupK (K := K) rfl) (pv 3) pe_int (fun _ _ => rfl)) pa_nil)) (pa_cons (pe_callTy (listOfK (K := K) rfl) (by rfl) nb.b_list (by decide +kernel) (pa_cons (pv 4) pa_nil)) pa_nil))))
  (pss_cons (ps_set (i := 6) nd rfl (Or.inl rfl) (pe_call G_tree_of (hr.mono (by decide)) rfl M_tree_of K_tree_of B_tree_of .nil (passes_call (takes_of rfl rfl rfl rfl) fun _ _ _ _ h => h) (pa_cons (pe_ix (ixListK (K := K) rfl) (pv 5) pe_int (fun _ _ => rfl)) (pa_cons (pe_ix (ixListK (K := K) rfl) (pv 5) pe_int (fun _ _ => rfl)) pa_nil))))
  (pss_cons (ps_set (i := 7) nd rfl (Or.inl rfl) (pe_call G_tree_of (hr.mono (by decide)) rfl M_tree_of K_tree_of B_tree_of .nil (passes_call (takes_of rfl rfl rfl rfl) fun _ _ _ _ h => h) (pa_cons (pe_ix (ixListK (K := K) rfl) (pv 5) pe_int (fun _ _ => rfl)) (pa_cons (pe_ix (ixListK (K := K) rfl) (pv 5) pe_int (fun _ _ => rfl)) pa_nil))))
  (pss_cons (ps_if (PW.pt (pw_or (pt_not (pt_val (pe_call G_law_told (hr.mono (by decide)) rfl M_law_told K_law_told B_law_told .nil (passes_call (takes_of rfl rfl rfl rfl) fun _ _ _ _ h => h) (pa_cons (pv 6) (pa_cons (pv 3) pa_nil))))) (pw_or (pt_not (pt_val (pe_call G_law_told (hr.mono (by decide)) rfl M_law_told K_law_told B_law_told .nil (passes_call (takes_of rfl rfl rfl rfl) fun _ _ _ _ h => h) (pa_cons (pv 7) (pa_cons (pv 3) pa_nil))))) (pw_or1 (pt_cmpR (op_neT (HL2 (List Int) (List (T3 Int Int Int))) hu64) (pv 5) (pe_lst (pa_cons (pe_ix (ixTupK (K := K) rfl) (pv 3) pe_int (fun _ _ => rfl)) (pa_cons (pv 4) pa_nil))) (nomark _)))))) (pss_one (ps_ret pe_bl)) pss_nil)
  (pss_cons (ps_expr (pe_bm PySem.F.plainAttrs_list PySem.F.slot_list_append PySem.F.type_list_append mt_append (pe_ix (ixTupK (K := K) rfl) (pv 6) pe_int (fun _ _ => rfl)) (pa_cons pe_int pa_nil)))
  (pss_cons (ps_expr (pe_bm PySem.F.plainAttrs_list PySem.F.slot_list_append PySem.F.type_list_append mt_append (pe_ix (ixTupK (K := K) rfl) (pv 6) pe_int (fun _ _ => rfl)) (pa_cons (pe_tup (pa_cons pe_int (pa_cons pe_int (pa_cons pe_int pa_nil)))) pa_nil)))
  (pss_cons (ps_expr (pe_bm0 PySem.F.plainAttrs_list PySem.F.slot_list_clear PySem.F.type_list_clear mt_clear (pe_ix (ixListK (K := K) rfl) (pv 5) pe_int (fun _ _ => rfl))))
  (pss_cons (ps_expr (pe_bm0 PySem.F.plainAttrs_list PySem.F.slot_list_clear PySem.F.type_list_clear mt_clear (pe_ix (ixListK (K := K) rfl) (pv 5) pe_int (fun _ _ => rfl))))
  (pss_one (ps_if (PW.pt (pw_or (pt_not (pt_val (pe_call G_law_told (hr.mono (by decide)) rfl M_law_told K_law_told B_law_told .nil (passes_call (takes_of rfl rfl rfl rfl) fun _ _ _ _ h => h) (pa_cons (pv 7) (pa_cons (pv 3) pa_nil))))) (pw_or1 (pt_not (pt_val (pe_call G_law_told (hr.mono (by decide)) rfl M_law_told K_law_told B_law_told .nil (passes_call (takes_of rfl rfl rfl rfl) fun _ _ _ _ h => h) (pa_cons (pe_call G_tree_of (hr.mono (by decide)) rfl M_tree_of K_tree_of B_tree_of .nil (passes_call (takes_of rfl rfl rfl rfl) fun _ _ _ _ h => h) (pa_cons (pe_callTy (listOfK (K := K) rfl) (by rfl) nb.b_list (by decide +kernel) (pa_cons (pe_ix (ixTupK (K := K) rfl) (pv 3) pe_int (fun _ _ => rfl)) pa_nil)) (pa_cons (pe_callTy (listOfK (K := K) rfl) (by rfl) nb.b_list (by decide +kernel) (pa_cons (pv 4) pa_nil)) pa_nil))) (pa_cons (pv 3) pa_nil)))))))) (pss_one (ps_ret pe_bl)) pss_nil))))))))))))))
  (pss_one (ps_ret pe_bl))), ?_⟩
    refine ⟨_, _, rfl, rfl, (by decide), (by show 1 ≤ sizeLine; decide), fun p1 hp2 => ?_⟩
    have hl8 : RL (a := Int) F ([V.int ((10 : Int) ^ Int.toNat (18 : Int))]) ([((10 : Int) ^ Int.toNat (18 : Int))]) := RL.cons R.int RL.nil
    obtain ⟨F3, O4, S5, h6⟩ := O.putE hp2 (.lst ([V.int ((10 : Int) ^ Int.toNat (18 : Int))]))
    have f_script := S5.seq f_script
    have hl8 := hl8.mono S5
    have h7 := R.lst (a := Int) h6 hl8
    refine ⟨_, rfl, _, rfl, _, _, rfl, (O4.s.seq f_script), fun p9 hp10 => ?_⟩
    have hl16 : RL (a := Int) F3 (cutV (List.map V.int x_script) none (some (10 : Int))) (cutL x_script none (some (10 : Int))) := RL.cutL RL.of_ints none (some (10 : Int))
    obtain ⟨F11, O12, S13, h14⟩ := O4.putE hp10 (.lst (cutV (List.map V.int x_script) none (some (10 : Int))))
    have f_script := S13.seq f_script
    have h7 := h7.mono S13
    have hl16 := hl16.mono S13
    have h15 := R.lst (a := Int) h14 hl16
    obtain ⟨p17, w18, e19, h20, hl21⟩ := R.lst_ h7
    cases e19
    obtain ⟨p22, w23, e24, h25, hl26⟩ := R.lst_ h15
    cases e24
    obtain ⟨c27, hk⟩ := wp_chk hk
    refine ⟨_, _, _, _, rfl, rfl, (O12.s _ _ h20), (O12.s _ _ h25), (by rw [hl21.len, hl26.len]; exact le_line c27), fun p28 hp29 => ?_⟩
    have hl35 : RL (a := Int) F11 (w18 ++ w23) (([((10 : Int) ^ Int.toNat (18 : Int))]) ++ (cutL x_script none (some (10 : Int)))) := RL.app hl21 hl26
    obtain ⟨F30, O31, S32, h33⟩ := O12.putE hp29 (.lst (w18 ++ w23))
    have f_script := S32.seq f_script
    have h7 := h7.mono S32
    have h15 := h15.mono S32
    have h20 := S32 _ _ h20
    have hl21 := hl21.mono S32
    have h25 := S32 _ _ h25
    have hl26 := hl26.mono S32
    have hl35 := hl35.mono S32
    have h34 := R.lst (a := Int) h33 hl35
    obtain ⟨p36, w37, e38, h39, hl40⟩ := R.lst_ h34
    cases e38
    obtain ⟨L42, hL43, hLs44, hLd45⟩ := loopM_L hk
    refine ⟨_, rfl, ⟨_, (SqLF O31.s h39)⟩, ?_⟩
    refine for_list (K := K) (xs := w37) (fun i σ H => ∃ (F_ : Hp) (st : Unit) (t_0 : Option V) (t_1 : Option V) (t_2 : Option V) (t_3 : Option V) (t_4 : Option V) (t_5 : Option V) (t_6 : Option V), σ = [some (V.ref a_script), t_0, t_1, t_2, t_3, t_4, t_5, t_6, none] ∧ Same F30 F_ ∧ Ow _ F_ [] H ∧ L42 (List.drop i (([((10 : Int) ^ Int.toNat (18 : Int))]) ++ (cutL x_script none (some (10 : Int))))) st) ⟨F30, (), none, none, none, none, none, none, none, rfl, Same.refl _, O31, hL43⟩ (fun i_ σ_ H_ _ hp_ => ?_) ?_ ?_
    · obtain ⟨_, _, _, _, _, _, _, _, _, _, hS_, hO_, _⟩ := hp_
      exact SqLF hO_.s (hS_ _ _ h39)
    · rintro i46 x47 sg48 H49 hi50 ⟨F60, st52, t53, t54, t55, t56, t57, t58, t59, rfl, S51, O61, hL43⟩
      have f_script := S51.seq f_script
      have h7 := h7.mono S51
      have h15 := h15.mono S51
      have h20 := S51 _ _ h20
      have hl21 := hl21.mono S51
      have h25 := S51 _ _ h25
      have hl26 := hl26.mono S51
      have h34 := h34.mono S51
      have h39 := S51 _ _ h39
      have hl40 := hl40.mono S51
      obtain ⟨y41, e62, r63⟩ := RL.got hl40 hi50
      rw [drop_at e62] at hL43
      have hk := hLs44 _ _ _ hL43
      obtain rfl := R.int_ r63
      refine ⟨_, rfl, _, _, rfl, O61.pre0, wp_call hk (fun r65 er66 hk F67 H68 g69 p70 w71 hn72 hf73 h74 hl75 => ?_) (fun n hn C H1 hC kp => hn.elim)⟩
      have O76 := O61.call0 g69
      have S_ := g69.f
      have f_script := S_.seq f_script
      have h7 := h7.mono S_
      have h15 := h15.mono S_
      have h20 := S_ _ _ h20
      have hl21 := hl21.mono S_
      have h25 := S_ _ _ h25
      have hl26 := hl26.mono S_
      have h34 := h34.mono S_
      have h39 := S_ _ _ h39
      have hl40 := hl40.mono S_
      have S51 := S51.trans S_
      have O77 := O61.got O76 rfl hn72 hf73 h74
      have z78 := O61.was hn72
      refine ⟨_, rfl, (by show 4 ≤ sizeLine; decide), fun p79 hp80 => ?_⟩
      have hl86 : RL (a := Int) F67 ([V.int (10 : Int), V.int (10 : Int), V.int (10 : Int), V.int (40 : Int)]) ([(10 : Int), (10 : Int), (10 : Int), (40 : Int)]) := RL.cons R.int (RL.cons R.int (RL.cons R.int (RL.cons R.int RL.nil)))
      obtain ⟨F81, O82, S83, h84⟩ := O77.putE hp80 (.lst ([V.int (10 : Int), V.int (10 : Int), V.int (10 : Int), V.int (40 : Int)]))
      have f_script := S83.seq f_script
      have h7 := h7.mono S83
      have h15 := h15.mono S83
      have h20 := S83 _ _ h20
      have hl21 := hl21.mono S83
      have h25 := S83 _ _ h25
      have hl26 := hl26.mono S83
      have h34 := h34.mono S83
      have h39 := S83 _ _ h39
      have hl40 := hl40.mono S83
      have S51 := S51.trans S83
      have hl75 := hl75.mono S83
      have hl86 := hl86.mono S83
      have h85 := R.lst (a := Int) h84 hl86
      refine ⟨_, rfl, _, _, _, _, _, rfl, (O82.pre1 0 rfl), hl75, wp_call hk (fun r87 er88 hk F89 H90 w92 g91 h93 hl94 => ?_) (fun n hn C H1 hC kp => hn.elim)⟩
      have O95 := O82.call1 g91 0 rfl h93
      have S_ := g91.f
      have f_script := S_.seq f_script
      have h7 := h7.mono S_
      have h15 := h15.mono S_
      have h20 := S_ _ _ h20
      have hl21 := hl21.mono S_
      have h25 := S_ _ _ h25
      have hl26 := hl26.mono S_
      have h34 := h34.mono S_
      have h39 := S_ _ _ h39
      have hl40 := hl40.mono S_
      have S51 := S51.trans S_
      have h85 := h85.mono S_
      obtain ⟨p96, w97, e98, h99, hl100⟩ := R.lst_ h85
      cases e98
      obtain ⟨y101, e102, hk⟩ := wp_opt hk
      obtain ⟨w103, e104, r105⟩ := hl100.atI e102
      obtain rfl := R.int_ r105
      refine ⟨_, _, _, _, rfl, rfl, (SqLF O95.s h99), e104, _, rfl, _, _, _, _, rfl, (O95.pre1 0 rfl), hl94, wp_call hk (fun r106 er107 hk F108 H109 w111 g110 h112 hl113 => ?_) (fun n hn C H1 hC kp => hn.elim)⟩
      have O114 := O95.call1 g110 0 rfl h112
      have S_ := g110.f
      have f_script := S_.seq f_script
      have h7 := h7.mono S_
      have h15 := h15.mono S_
      have h20 := S_ _ _ h20
      have hl21 := hl21.mono S_
      have h25 := S_ _ _ h25
      have hl26 := hl26.mono S_
      have h34 := h34.mono S_
      have h39 := S_ _ _ h39
      have hl40 := hl40.mono S_
      have S51 := S51.trans S_
      have h85 := h85.mono S_
      have h99 := S_ _ _ h99
      have hl100 := hl100.mono S_
      refine ⟨_, _, _, _, _, _, rfl, (O114.pre1 0 rfl), hl113, wp_call hk (fun r115 er116 hk F117 H118 w120 g119 h121 hl122 v123 r124 => ?_) (fun n hn C H1 hC kp => hn.elim)⟩
      have O125 := O114.call1 g119 0 rfl h121
      have S_ := g119.f
      have f_script := S_.seq f_script
      have h7 := h7.mono S_
      have h15 := h15.mono S_
      have h20 := S_ _ _ h20
      have hl21 := hl21.mono S_
      have h25 := S_ _ _ h25
      have hl26 := hl26.mono S_
      have h34 := h34.mono S_
      have h39 := S_ _ _ h39
      have hl40 := hl40.mono S_
      have S51 := S51.trans S_
      have h85 := h85.mono S_
      have h99 := S_ _ _ h99
      have hl100 := hl100.mono S_
      obtain ⟨p126, v129, v130, e127, h128, r131, r132⟩ := R.t2_ r124
      cases e127
      obtain ⟨p133, w134, e135, h136, hl137⟩ := R.lst_ r132
      cases e135
      refine ⟨_, rfl, _, rfl, _, _, _, _, rfl, rfl, (SqTF O125.s h128), rfl, _, _, _, rfl, (.inl (O125.s _ _ h136)), hl137.len, _, _, _, _, _, rfl, (O125.pre1 0 rfl), hl122, wp_call hk (fun r138 er139 hk F140 H141 w143 g142 h144 hl145 p146 w147 hn148 hf149 h150 hl151 => ?_) (fun n hn C H1 hC kp => hn.elim)⟩
      have O152 := O125.call1 g142 0 rfl h144
      have S_ := g142.f
      have f_script := S_.seq f_script
      have h7 := h7.mono S_
      have h15 := h15.mono S_
      have h20 := S_ _ _ h20
      have hl21 := hl21.mono S_
      have h25 := S_ _ _ h25
      have hl26 := hl26.mono S_
      have h34 := h34.mono S_
      have h39 := S_ _ _ h39
      have hl40 := hl40.mono S_
      have S51 := S51.trans S_
      have h85 := h85.mono S_
      have h99 := S_ _ _ h99
      have hl100 := hl100.mono S_
      have r124 := r124.mono S_
      have h128 := S_ _ _ h128
      have r131 := r131.mono S_
      have r132 := r132.mono S_
      have h136 := S_ _ _ h136
      have hl137 := hl137.mono S_
      have O153 := O125.got O152 rfl hn148 hf149 h150
      have z154 := O125.was hn148
      obtain ⟨F155, O156, S157, h158⟩ := O153.frzE 0 rfl z154
      have f_script := S157.seq f_script
      have h7 := h7.mono S157
      have h15 := h15.mono S157
      have h20 := S157 _ _ h20
      have hl21 := hl21.mono S157
      have h25 := S157 _ _ h25
      have hl26 := hl26.mono S157
      have h34 := h34.mono S157
      have h39 := S157 _ _ h39
      have hl40 := hl40.mono S157
      have S51 := S51.trans S157
      have h85 := h85.mono S157
      have h99 := S157 _ _ h99
      have hl100 := hl100.mono S157
      have r124 := r124.mono S157
      have h128 := S157 _ _ h128
      have r131 := r131.mono S157
      have r132 := r132.mono S157
      have h136 := S157 _ _ h136
      have hl137 := hl137.mono S157
      have hl145 := hl145.mono S157
      have hl151 := hl151.mono S157
      have h159 := R.lst (a := Int) h158 hl151
      obtain ⟨p160, w161, e162, h163, hl164⟩ := R.lst_ h159
      cases e162
      obtain ⟨c170, L166, hL167, hLs168, hLd169⟩ := compS_L hk
      refine ⟨_, rfl, ⟨_, (SqLF O156.s h163)⟩, fun p171 hp172 => ?_⟩
      have z198 := O156.was hp172
      refine lc_list (K := K) (xs := w161) (fun i H => ∃ (F_ : Hp) (st : Unit) (acc : List (T3 Int Int Int)) (wa : List V), Same F155 F_ ∧ Ow _ F_ [(p171, .lst wa), (p70, .lst w143)] H ∧ RL F_ wa acc ∧ wa.length ≤ i ∧ L166 (List.drop i r138.1) acc st) ⟨F155, (), [], [], Same.refl _, O156.new hp172, RL.nil, Nat.zero_le _, hL167⟩ (fun i_ H_ _ hp_ => ?_) ?_ ?_
      · obtain ⟨_, _, _, _, hS_, hO_, _⟩ := hp_
        exact SqLF hO_.s (hS_ _ _ h163)
      · rintro i173 x174 H175 hi176 ⟨F181, st182, acc178, wa179, S183, O185, hl184, la180, hL167⟩
        have f_script := S183.seq f_script
        have h7 := h7.mono S183
        have h15 := h15.mono S183
        have h20 := S183 _ _ h20
        have hl21 := hl21.mono S183
        have h25 := S183 _ _ h25
        have hl26 := hl26.mono S183
        have h34 := h34.mono S183
        have h39 := S183 _ _ h39
        have hl40 := hl40.mono S183
        have S51 := S51.trans S183
        have h85 := h85.mono S183
        have h99 := S183 _ _ h99
        have hl100 := hl100.mono S183
        have r124 := r124.mono S183
        have h128 := S183 _ _ h128
        have r131 := r131.mono S183
        have r132 := r132.mono S183
        have h136 := S183 _ _ h136
        have hl137 := hl137.mono S183
        have hl145 := hl145.mono S183
        have h159 := h159.mono S183
        have h163 := S183 _ _ h163
        have hl164 := hl164.mono S183
        obtain ⟨y165, e186, r187⟩ := RL.got hl164 hi176
        rw [drop_at e186] at hL167
        have hk := hLs168 _ _ _ _ hL167
        obtain rfl := R.int_ r187
        refine ⟨rfl, ?_⟩
        obtain ⟨p188, w189, e190, h191, hl192⟩ := R.lst_ r132
        cases e190
        obtain ⟨y193, e194, hk⟩ := wp_opt hk
        obtain ⟨w195, e196, r197⟩ := hl192.atI e194
        refine ⟨_, rfl, _, _, _, _, rfl, rfl, (SqTF O185.s h128), rfl, _, rfl, _, _, _, _, rfl, rfl, (SqLF O185.s h191), e196, _, (O185.at 0 rfl), (comp_len la180 hi176 hl164.len c170), ?_⟩
        exact ⟨F181, (), acc178 ++ [y193], wa179 ++ [w195], S183, O185.set 0 (.lst (wa179 ++ [w195])) rfl, RL.snoc hl184 r197, by rw [List.length_append]; exact Nat.succ_le_succ la180, hk⟩
      rintro H199 ⟨F200, st201, acc202, wa203, S204, O205, hl206, la207, hL208⟩
      rw [drop_end hl164.len] at hL208
      have hk := hLd169 _ _ hL208
      have f_script := S204.seq f_script
      have h7 := h7.mono S204
      have h15 := h15.mono S204
      have h20 := S204 _ _ h20
      have hl21 := hl21.mono S204
      have h25 := S204 _ _ h25
      have hl26 := hl26.mono S204
      have h34 := h34.mono S204
      have h39 := S204 _ _ h39
      have hl40 := hl40.mono S204
      have S51 := S51.trans S204
      have h85 := h85.mono S204
      have h99 := S204 _ _ h99
      have hl100 := hl100.mono S204
      have r124 := r124.mono S204
      have h128 := S204 _ _ h128
      have r131 := r131.mono S204
      have r132 := r132.mono S204
      have h136 := S204 _ _ h136
      have hl137 := hl137.mono S204
      have hl145 := hl145.mono S204
      have h159 := h159.mono S204
      have h163 := S204 _ _ h163
      have hl164 := hl164.mono S204
      obtain ⟨F210, O211, S212, h213⟩ := O205.frzE 0 rfl z198
      have f_script := S212.seq f_script
      have h7 := h7.mono S212
      have h15 := h15.mono S212
      have h20 := S212 _ _ h20
      have hl21 := hl21.mono S212
      have h25 := S212 _ _ h25
      have hl26 := hl26.mono S212
      have h34 := h34.mono S212
      have h39 := S212 _ _ h39
      have hl40 := hl40.mono S212
      have S51 := S51.trans S212
      have h85 := h85.mono S212
      have h99 := S212 _ _ h99
      have hl100 := hl100.mono S212
      have r124 := r124.mono S212
      have h128 := S212 _ _ h128
      have r131 := r131.mono S212
      have r132 := r132.mono S212
      have h136 := S212 _ _ h136
      have hl137 := hl137.mono S212
      have hl145 := hl145.mono S212
      have h159 := h159.mono S212
      have h163 := S212 _ _ h163
      have hl164 := hl164.mono S212
      have hl206 := hl206.mono S212
      have h214 := R.lst (a := (T3 Int Int Int)) h213 hl206
      obtain ⟨p218, w219, e220, h221, hl222⟩ := R.lst_ r131
      cases e220
      refine ⟨_, rfl, _, _, _, _, rfl, rfl, (SqTF O211.s h128), rfl, _, _, rfl, (.inl (SqLF O211.s h221)), fun p223 hp224 => ?_⟩
      have hl226 : RL (a := Int) F210 w219 r115.1.1 := hl222
      have z227 := O211.was hp224
      have O225 := O211.new (o := .lst w219) hp224
      obtain ⟨p228, w229, e230, h231, hl232⟩ := R.lst_ h214
      cases e230
      refine ⟨_, rfl, _, _, rfl, (.inl (SqLF O225.s h231)), fun p233 hp234 => ?_⟩
      have hl236 : RL (a := (T3 Int Int Int)) F210 w229 acc202 := hl232
      have z237 := O225.was hp234
      have O235 := O225.new (o := .lst w229) hp234
      refine ⟨(by show 2 ≤ sizeLine; decide), fun p238 hp239 => ?_⟩
      obtain ⟨F240, O241, S242, h243⟩ := O235.putE hp239 (.lst [V.ref p223, V.ref p233])
      have f_script := S242.seq f_script
      have h7 := h7.mono S242
      have h15 := h15.mono S242
      have h20 := S242 _ _ h20
      have hl21 := hl21.mono S242
      have h25 := S242 _ _ h25
      have hl26 := hl26.mono S242
      have h34 := h34.mono S242
      have h39 := S242 _ _ h39
      have hl40 := hl40.mono S242
      have S51 := S51.trans S242
      have h85 := h85.mono S242
      have h99 := S242 _ _ h99
      have hl100 := hl100.mono S242
      have r124 := r124.mono S242
      have h128 := S242 _ _ h128
      have r131 := r131.mono S242
      have r132 := r132.mono S242
      have h136 := S242 _ _ h136
      have hl137 := hl137.mono S242
      have hl145 := hl145.mono S242
      have h159 := h159.mono S242
      have h163 := S242 _ _ h163
      have hl164 := hl164.mono S242
      have h214 := h214.mono S242
      have h221 := S242 _ _ h221
      have hl222 := hl222.mono S242
      have hl226 := hl226.mono S242
      have h231 := S242 _ _ h231
      have hl232 := hl232.mono S242
      have hl236 := hl236.mono S242
      have hi245 : ∀ b ∈ ([p223, p233] : List Addr), ∃ o, (b, o) ∈ ([(p233, .lst w229), (p223, .lst w219), (p70, .lst w143)] : List (Addr × HO)) := (inA_cons 1 rfl (inA_cons 0 rfl inA_nil))
      have S246 := O241.lendS hi245
      have h247 := R.lst (a := Int) ((lendF_at (by simp)).trans (O241.at 1 rfl) : lendF [p223, p233] F240 _ p223 = some (.lst w219)) (hl226.mono S246)
      have h248 := R.lst (a := (T3 Int Int Int)) ((lendF_at (by simp)).trans (O241.at 0 rfl) : lendF [p223, p233] F240 _ p233 = some (.lst w229)) (hl236.mono S246)
      refine ⟨_, rfl, _, _, _, _, rfl, rfl, (SqLF O241.s h243), rfl, _, rfl, _, _, _, _, rfl, rfl, (SqLF O241.s h243), rfl, _, _, _, _, _, rfl, (O241.lendP hi245), h247, h248, wp_call hk (fun r249 er250 hk F251 H252 g253 p254 p255 w256 p261 w262 hn257 hf258 h259 hl260 hn263 hf264 h265 hl266 hne267 h268 => ?_) (fun n hn C H1 hC kp => hn.elim)⟩
      obtain ⟨O269, S271, hT272, hN273⟩ := O241.unlend hi245 g253
      obtain ⟨F270, hFb_⟩ : ∃ z_, z_ = backF [p223, p233] F251 := ⟨_, rfl⟩
      rw [← hFb_] at O269 S271 hT272 hN273
      have hf258 := hN273 _ hf258
      have hl260 := RL.mv hT272 hl260
      have hf264 := hN273 _ hf264
      have hl266 := RL.mv hT272 hl266
      have h268 := hT272 _ _ h268
      have f_script := S271.seq f_script
      have h7 := h7.mono S271
      have h15 := h15.mono S271
      have h20 := S271 _ _ h20
      have hl21 := hl21.mono S271
      have h25 := S271 _ _ h25
      have hl26 := hl26.mono S271
      have h34 := h34.mono S271
      have h39 := S271 _ _ h39
      have hl40 := hl40.mono S271
      have S51 := S51.trans S271
      have h85 := h85.mono S271
      have h99 := S271 _ _ h99
      have hl100 := hl100.mono S271
      have r124 := r124.mono S271
      have h128 := S271 _ _ h128
      have r131 := r131.mono S271
      have r132 := r132.mono S271
      have h136 := S271 _ _ h136
      have hl137 := hl137.mono S271
      have hl145 := hl145.mono S271
      have h159 := h159.mono S271
      have h163 := S271 _ _ h163
      have hl164 := hl164.mono S271
      have h214 := h214.mono S271
      have h221 := S271 _ _ h221
      have hl222 := hl222.mono S271
      have hl226 := hl226.mono S271
      have h231 := S271 _ _ h231
      have hl232 := hl232.mono S271
      have hl236 := hl236.mono S271
      have h243 := S271 _ _ h243
      have z275 := O241.was hn263
      have O274 := O269.add' (O241.fresh hn263) z275 hf264 h265
      have z278 := O241.was hn257
      have O277 := O274.add' (nmem2 hne267 (O241.fresh hn257)) z278 hf258 h259
      have hi281 : ∀ b ∈ ([p223, p233] : List Addr), ∃ o, (b, o) ∈ ([(p255, .lst w256), (p261, .lst w262), (p233, .lst w229), (p223, .lst w219), (p70, .lst w143)] : List (Addr × HO)) := (inA_cons 3 rfl (inA_cons 2 rfl inA_nil))
      have S282 := O277.lendS hi281
      have h283 := R.lst (a := Int) ((lendF_at (by simp)).trans (O277.at 3 rfl) : lendF [p223, p233] F270 _ p223 = some (.lst w219)) (hl226.mono S282)
      have h284 := R.lst (a := (T3 Int Int Int)) ((lendF_at (by simp)).trans (O277.at 2 rfl) : lendF [p223, p233] F270 _ p233 = some (.lst w229)) (hl236.mono S282)
      refine ⟨_, rfl, _, _, _, _, rfl, rfl, (SqLF O277.s h243), rfl, _, rfl, _, _, _, _, rfl, rfl, (SqLF O277.s h243), rfl, _, _, _, _, _, rfl, (O277.lendP hi281), h283, h284, wp_call hk (fun r285 er286 hk F287 H288 g289 p290 p291 w292 p297 w298 hn293 hf294 h295 hl296 hn299 hf300 h301 hl302 hne303 h304 => ?_) (fun n hn C H1 hC kp => hn.elim)⟩
      obtain ⟨O305, S307, hT308, hN309⟩ := O277.unlend hi281 g289
      obtain ⟨F306, hFb_⟩ : ∃ z_, z_ = backF [p223, p233] F287 := ⟨_, rfl⟩
      rw [← hFb_] at O305 S307 hT308 hN309
      have hf294 := hN309 _ hf294
      have hl296 := RL.mv hT308 hl296
      have hf300 := hN309 _ hf300
      have hl302 := RL.mv hT308 hl302
      have h304 := hT308 _ _ h304
      have f_script := S307.seq f_script
      have h7 := h7.mono S307
      have h15 := h15.mono S307
      have h20 := S307 _ _ h20
      have hl21 := hl21.mono S307
      have h25 := S307 _ _ h25
      have hl26 := hl26.mono S307
      have h34 := h34.mono S307
      have h39 := S307 _ _ h39
      have hl40 := hl40.mono S307
      have S51 := S51.trans S307
      have h85 := h85.mono S307
      have h99 := S307 _ _ h99
      have hl100 := hl100.mono S307
      have r124 := r124.mono S307
      have h128 := S307 _ _ h128
      have r131 := r131.mono S307
      have r132 := r132.mono S307
      have h136 := S307 _ _ h136
      have hl137 := hl137.mono S307
      have hl145 := hl145.mono S307
      have h159 := h159.mono S307
      have h163 := S307 _ _ h163
      have hl164 := hl164.mono S307
      have h214 := h214.mono S307
      have h221 := S307 _ _ h221
      have hl222 := hl222.mono S307
      have hl226 := hl226.mono S307
      have h231 := S307 _ _ h231
      have hl232 := hl232.mono S307
      have hl236 := hl236.mono S307
      have h243 := S307 _ _ h243
      have hl266 := hl266.mono S307
      have hl260 := hl260.mono S307
      have h268 := S307 _ _ h268
      have z311 := O277.was hn299
      have O310 := O305.add' (O277.fresh hn299) z311 hf300 h301
      have z314 := O277.was hn293
      have O313 := O310.add' (nmem2 hne303 (O277.fresh hn293)) z314 hf294 h295
      have hi316 : ∀ b ∈ ([p255, p261] : List Addr), ∃ o, (b, o) ∈ ([(p291, .lst w292), (p297, .lst w298), (p255, .lst w256), (p261, .lst w262), (p233, .lst w229), (p223, .lst w219), (p70, .lst w143)] : List (Addr × HO)) := (inA_cons 2 rfl (inA_cons 3 rfl inA_nil))
      have S317 := O313.lendS hi316
      have h318 := R.lst (a := Int) ((lendF_at (by simp)).trans (O313.at 2 rfl) : lendF [p255, p261] F306 _ p255 = some (.lst w256)) (hl260.mono S317)
      have h319 := R.lst (a := (T3 Int Int Int)) ((lendF_at (by simp)).trans (O313.at 3 rfl) : lendF [p255, p261] F306 _ p261 = some (.lst w262)) (hl266.mono S317)
      refine ⟨_, rfl, _, rfl, _, _, _, _, _, rfl, (O313.lendP hi316), (R.t2 (x := ((r249.1, r249.2) : ((List Int) × (List (T3 Int Int Int))))) (S317 _ _ h268) h318 h319), (r124.mono S317), wp_call hk (fun r320 er321 hk F322 H323 g324 => ?_) (fun n hn C H1 hC kp => hn.elim)⟩
      have O325 := O313.borrow S317 g324
      refine ⟨_, rfl, ?_⟩
      refine iteBN (fun q326 => ?_) (fun q326 => ?_)
      · have hk := wp_if hk q326
        have hi327 : ∀ b ∈ ([p291, p297] : List Addr), ∃ o, (b, o) ∈ ([(p291, .lst w292), (p297, .lst w298), (p255, .lst w256), (p261, .lst w262), (p233, .lst w229), (p223, .lst w219), (p70, .lst w143)] : List (Addr × HO)) := (inA_cons 0 rfl (inA_cons 1 rfl inA_nil))
        have S328 := O325.lendS hi327
        have h329 := R.lst (a := Int) ((lendF_at (by simp)).trans (O325.at 0 rfl) : lendF [p291, p297] F306 _ p291 = some (.lst w292)) (hl296.mono S328)
        have h330 := R.lst (a := (T3 Int Int Int)) ((lendF_at (by simp)).trans (O325.at 1 rfl) : lendF [p291, p297] F306 _ p297 = some (.lst w298)) (hl302.mono S328)
        refine ⟨_, rfl, _, rfl, _, _, _, _, _, rfl, (O325.lendP hi327), (R.t2 (x := ((r285.1, r285.2) : ((List Int) × (List (T3 Int Int Int))))) (S328 _ _ h304) h329 h330), (r124.mono S328), wp_call hk (fun r331 er332 hk F333 H334 g335 => ?_) (fun n hn C H1 hC kp => hn.elim)⟩
        have O336 := O325.borrow S328 g335
        refine ⟨_, rfl, ?_⟩
        refine iteBN (fun q337 => ?_) (fun q337 => ?_)
        · have hk := wp_if hk q337
          refine ⟨_, rfl, _, rfl, _, _, _, _, rfl, rfl, (SqTF O336.s h128), rfl, _, rfl, (by show 2 ≤ sizeLine; decide), fun p338 hp339 => ?_⟩
          obtain ⟨F340, O341, S342, h343⟩ := O336.putE hp339 (.lst [V.ref p218, V.ref p171])
          have f_script := S342.seq f_script
          have h7 := h7.mono S342
          have h15 := h15.mono S342
          have h20 := S342 _ _ h20
          have hl21 := hl21.mono S342
          have h25 := S342 _ _ h25
          have hl26 := hl26.mono S342
          have h34 := h34.mono S342
          have h39 := S342 _ _ h39
          have hl40 := hl40.mono S342
          have S51 := S51.trans S342
          have h85 := h85.mono S342
          have h99 := S342 _ _ h99
          have hl100 := hl100.mono S342
          have r124 := r124.mono S342
          have h128 := S342 _ _ h128
          have r131 := r131.mono S342
          have r132 := r132.mono S342
          have h136 := S342 _ _ h136
          have hl137 := hl137.mono S342
          have hl145 := hl145.mono S342
          have h159 := h159.mono S342
          have h163 := S342 _ _ h163
          have hl164 := hl164.mono S342
          have h214 := h214.mono S342
          have h221 := S342 _ _ h221
          have hl222 := hl222.mono S342
          have hl226 := hl226.mono S342
          have h231 := S342 _ _ h231
          have hl232 := hl232.mono S342
          have hl236 := hl236.mono S342
          have h243 := S342 _ _ h243
          have hl266 := hl266.mono S342
          have hl260 := hl260.mono S342
          have h268 := S342 _ _ h268
          have hl302 := hl302.mono S342
          have hl296 := hl296.mono S342
          have h304 := S342 _ _ h304
          have h344 := (R.hl2 (x := ((HL2.mk r115.1.1 acc202) : (HL2 (List Int) (List (T3 Int Int Int))))) h343 r131 h214)
          refine ⟨_, _, (R.hl2 (x := ((HL2.mk r115.1.1 acc202) : (HL2 (List Int) (List (T3 Int Int Int))))) (O341.s _ _ h243) (R.lst (a := Int) (O341.at 5 rfl) (hl226.mono O341.s)) (R.lst (a := (T3 Int Int Int)) (O341.at 4 rfl) (hl236.mono O341.s))), (R.mono h344 O341.s), _, rfl, ?_⟩
          refine iteD (fun q345 => ?_) (fun q345 => ?_)
          · have hk := wp_if hk q345
            exact hk _ _  O341.g 
          · have hk := wp_el hk q345
            obtain ⟨c346, hk⟩ := wp_appL hk
            refine ⟨_, rfl, _, _, _, _, rfl, rfl, (SqTF O341.s h268), rfl, (.inl ⟨rfl, _, SqL.of (O341.at 2 rfl)⟩), _, _, _, rfl, rfl, (O341.at 2 rfl), (by rw [hl260.len]; exact c346), ?_⟩
            have O348 := O341.set 2 (.lst (w256 ++ [V.int (1 : Int)])) rfl
            have hl349 : RL (a := Int) F340 (w256 ++ [V.int (1 : Int)]) (r249.1 ++ [(1 : Int)]) := RL.snoc hl260 R.int
            refine ⟨_, rfl, _, _, _, _, rfl, rfl, (SqTF O348.s h268), rfl, (.inl ⟨rfl, _, SqL.of (O348.at 3 rfl)⟩), (by show 3 ≤ sizeLine; decide), fun p350 hp351 => ?_⟩
            obtain ⟨F352, O353, S354, h355⟩ := O348.putE hp351 (.tup [V.int (0 : Int), V.int (1 : Int), V.int (1 : Int)])
            have f_script := S354.seq f_script
            have h7 := h7.mono S354
            have h15 := h15.mono S354
            have h20 := S354 _ _ h20
            have hl21 := hl21.mono S354
            have h25 := S354 _ _ h25
            have hl26 := hl26.mono S354
            have h34 := h34.mono S354
            have h39 := S354 _ _ h39
            have hl40 := hl40.mono S354
            have S51 := S51.trans S354
            have h85 := h85.mono S354
            have h99 := S354 _ _ h99
            have hl100 := hl100.mono S354
            have r124 := r124.mono S354
            have h128 := S354 _ _ h128
            have r131 := r131.mono S354
            have r132 := r132.mono S354
            have h136 := S354 _ _ h136
            have hl137 := hl137.mono S354
            have hl145 := hl145.mono S354
            have h159 := h159.mono S354
            have h163 := S354 _ _ h163
            have hl164 := hl164.mono S354
            have h214 := h214.mono S354
            have h221 := S354 _ _ h221
            have hl222 := hl222.mono S354
            have hl226 := hl226.mono S354
            have h231 := S354 _ _ h231
            have hl232 := hl232.mono S354
            have hl236 := hl236.mono S354
            have h243 := S354 _ _ h243
            have hl266 := hl266.mono S354
            have h268 := S354 _ _ h268
            have hl302 := hl302.mono S354
            have hl296 := hl296.mono S354
            have h304 := S354 _ _ h304
            have h343 := S354 _ _ h343
            have h344 := h344.mono S354
            have hl349 := hl349.mono S354
            have h356 : R (a := (T3 Int Int Int)) F352 (.ref p350) (T3.mk (0 : Int) (1 : Int) (1 : Int)) := R.t3 h355 R.int R.int R.int
            obtain ⟨c357, hk⟩ := wp_appL hk
            refine ⟨_, _, _, rfl, rfl, (O353.at 3 rfl), (by rw [hl266.len]; exact c357), ?_⟩
            have O359 := O353.set 3 (.lst (w262 ++ [V.ref p350])) rfl
            have hl360 : RL (a := (T3 Int Int Int)) F352 (w262 ++ [V.ref p350]) (r249.2 ++ [(T3.mk (0 : Int) (1 : Int) (1 : Int))]) := RL.snoc hl266 h356
            refine ⟨_, rfl, _, _, _, _, rfl, rfl, (SqLF O359.s h243), rfl, (.inl ⟨rfl, _, SqL.of (O359.at 5 rfl)⟩), _, _, rfl, rfl, (O359.at 5 rfl), ?_⟩
            have O361 := O359.set 5 (.lst ([])) rfl
            have hl362 : RL (a := Int) F352 ([]) ([] : (List Int)) := RL.nil
            refine ⟨_, rfl, _, _, _, _, rfl, rfl, (SqLF O361.s h243), rfl, (.inl ⟨rfl, _, SqL.of (O361.at 4 rfl)⟩), _, _, rfl, rfl, (O361.at 4 rfl), ?_⟩
            have O363 := O361.set 4 (.lst ([])) rfl
            have hl364 : RL (a := (T3 Int Int Int)) F352 ([]) ([] : (List (T3 Int Int Int))) := RL.nil
            have hi365 : ∀ b ∈ ([p291, p297] : List Addr), ∃ o, (b, o) ∈ ([(p291, .lst w292), (p297, .lst w298), (p255, .lst (w256 ++ [V.int (1 : Int)])), (p261, .lst (w262 ++ [V.ref p350])), (p233, .lst ([])), (p223, .lst ([])), (p70, .lst w143)] : List (Addr × HO)) := (inA_cons 0 rfl (inA_cons 1 rfl inA_nil))
            have S366 := O363.lendS hi365
            have h367 := R.lst (a := Int) ((lendF_at (by simp)).trans (O363.at 0 rfl) : lendF [p291, p297] F352 _ p291 = some (.lst w292)) (hl296.mono S366)
            have h368 := R.lst (a := (T3 Int Int Int)) ((lendF_at (by simp)).trans (O363.at 1 rfl) : lendF [p291, p297] F352 _ p297 = some (.lst w298)) (hl302.mono S366)
            refine ⟨_, rfl, _, rfl, _, _, _, _, _, rfl, (O363.lendP hi365), (R.t2 (x := ((r285.1, r285.2) : ((List Int) × (List (T3 Int Int Int))))) (S366 _ _ h304) h367 h368), (r124.mono S366), wp_call hk (fun r369 er370 hk F371 H372 g373 => ?_) (fun n hn C H1 hC kp => hn.elim)⟩
            have O374 := O363.borrow S366 g373
            refine ⟨_, rfl, ?_⟩
            refine iteBN (fun q375 => ?_) (fun q375 => ?_)
            · have hk := wp_if hk q375
              obtain ⟨p376, w377, e378, h379, hl380⟩ := R.lst_ r131
              cases e378
              refine ⟨_, rfl, _, _, _, _, rfl, rfl, (SqTF O374.s h128), rfl, _, _, rfl, (.inl (SqLF O374.s h379)), fun p381 hp382 => ?_⟩
              have hl388 : RL (a := Int) F352 w377 r115.1.1 := hl380
              obtain ⟨F383, O384, S385, h386⟩ := O374.putE hp382 (.lst w377)
              have f_script := S385.seq f_script
              have h7 := h7.mono S385
              have h15 := h15.mono S385
              have h20 := S385 _ _ h20
              have hl21 := hl21.mono S385
              have h25 := S385 _ _ h25
              have hl26 := hl26.mono S385
              have h34 := h34.mono S385
              have h39 := S385 _ _ h39
              have hl40 := hl40.mono S385
              have S51 := S51.trans S385
              have h85 := h85.mono S385
              have h99 := S385 _ _ h99
              have hl100 := hl100.mono S385
              have r124 := r124.mono S385
              have h128 := S385 _ _ h128
              have r131 := r131.mono S385
              have r132 := r132.mono S385
              have h136 := S385 _ _ h136
              have hl137 := hl137.mono S385
              have hl145 := hl145.mono S385
              have h159 := h159.mono S385
              have h163 := S385 _ _ h163
              have hl164 := hl164.mono S385
              have h214 := h214.mono S385
              have h221 := S385 _ _ h221
              have hl222 := hl222.mono S385
              have h231 := S385 _ _ h231
              have hl232 := hl232.mono S385
              have h243 := S385 _ _ h243
              have h268 := S385 _ _ h268
              have hl302 := hl302.mono S385
              have hl296 := hl296.mono S385
              have h304 := S385 _ _ h304
              have h343 := S385 _ _ h343
              have h344 := h344.mono S385
              have hl349 := hl349.mono S385
              have h356 := h356.mono S385
              have hl360 := hl360.mono S385
              have hl362 := hl362.mono S385
              have hl364 := hl364.mono S385
              have h379 := S385 _ _ h379
              have hl380 := hl380.mono S385
              have hl388 := hl388.mono S385
              have h387 := R.lst (a := Int) h386 hl388
              obtain ⟨p389, w390, e391, h392, hl393⟩ := R.lst_ h214
              cases e391
              refine ⟨_, rfl, _, _, rfl, (.inl (SqLF O384.s h392)), fun p394 hp395 => ?_⟩
              have hl401 : RL (a := (T3 Int Int Int)) F383 w390 acc202 := hl393
              obtain ⟨F396, O397, S398, h399⟩ := O384.putE hp395 (.lst w390)
              have f_script := S398.seq f_script
              have h7 := h7.mono S398
              have h15 := h15.mono S398
              have h20 := S398 _ _ h20
              have hl21 := hl21.mono S398
              have h25 := S398 _ _ h25
              have hl26 := hl26.mono S398
              have h34 := h34.mono S398
              have h39 := S398 _ _ h39
              have hl40 := hl40.mono S398
              have S51 := S51.trans S398
              have h85 := h85.mono S398
              have h99 := S398 _ _ h99
              have hl100 := hl100.mono S398
              have r124 := r124.mono S398
              have h128 := S398 _ _ h128
              have r131 := r131.mono S398
              have r132 := r132.mono S398
              have h136 := S398 _ _ h136
              have hl137 := hl137.mono S398
              have hl145 := hl145.mono S398
              have h159 := h159.mono S398
              have h163 := S398 _ _ h163
              have hl164 := hl164.mono S398
              have h214 := h214.mono S398
              have h221 := S398 _ _ h221
              have hl222 := hl222.mono S398
              have h231 := S398 _ _ h231
              have hl232 := hl232.mono S398
              have h243 := S398 _ _ h243
              have h268 := S398 _ _ h268
              have hl302 := hl302.mono S398
              have hl296 := hl296.mono S398
              have h304 := S398 _ _ h304
              have h343 := S398 _ _ h343
              have h344 := h344.mono S398
              have hl349 := hl349.mono S398
              have h356 := h356.mono S398
              have hl360 := hl360.mono S398
              have hl362 := hl362.mono S398
              have hl364 := hl364.mono S398
              have h379 := S398 _ _ h379
              have hl380 := hl380.mono S398
              have h387 := h387.mono S398
              have h392 := S398 _ _ h392
              have hl393 := hl393.mono S398
              have hl401 := hl401.mono S398
              have h400 := R.lst (a := (T3 Int Int Int)) h399 hl401
              refine ⟨_, _, _, _, _, rfl, O397.pre0, h387, h400, wp_call hk (fun r402 er403 hk F404 H405 g406 p407 p408 w409 p414 w415 hn410 hf411 h412 hl413 hn416 hf417 h418 hl419 hne420 h421 => ?_) (fun n hn C H1 hC kp => hn.elim)⟩
              have O422 := O397.call0 g406
              have S_ := g406.f
              have f_script := S_.seq f_script
              have h7 := h7.mono S_
              have h15 := h15.mono S_
              have h20 := S_ _ _ h20
              have hl21 := hl21.mono S_
              have h25 := S_ _ _ h25
              have hl26 := hl26.mono S_
              have h34 := h34.mono S_
              have h39 := S_ _ _ h39
              have hl40 := hl40.mono S_
              have S51 := S51.trans S_
              have h85 := h85.mono S_
              have h99 := S_ _ _ h99
              have hl100 := hl100.mono S_
              have r124 := r124.mono S_
              have h128 := S_ _ _ h128
              have r131 := r131.mono S_
              have r132 := r132.mono S_
              have h136 := S_ _ _ h136
              have hl137 := hl137.mono S_
              have hl145 := hl145.mono S_
              have h159 := h159.mono S_
              have h163 := S_ _ _ h163
              have hl164 := hl164.mono S_
              have h214 := h214.mono S_
              have h221 := S_ _ _ h221
              have hl222 := hl222.mono S_
              have h231 := S_ _ _ h231
              have hl232 := hl232.mono S_
              have h243 := S_ _ _ h243
              have h268 := S_ _ _ h268
              have hl302 := hl302.mono S_
              have hl296 := hl296.mono S_
              have h304 := S_ _ _ h304
              have h343 := S_ _ _ h343
              have h344 := h344.mono S_
              have hl349 := hl349.mono S_
              have h356 := h356.mono S_
              have hl360 := hl360.mono S_
              have hl362 := hl362.mono S_
              have hl364 := hl364.mono S_
              have h379 := S_ _ _ h379
              have hl380 := hl380.mono S_
              have h387 := h387.mono S_
              have h392 := S_ _ _ h392
              have hl393 := hl393.mono S_
              have h400 := h400.mono S_
              have z424 := O397.was hn416
              have O423 := O422.add' (O397.fresh hn416) z424 hf417 h418
              have z427 := O397.was hn410
              have O426 := O423.add' (nmem2 hne420 (O397.fresh hn410)) z427 hf411 h412
              have hi429 : ∀ b ∈ ([p408, p414] : List Addr), ∃ o, (b, o) ∈ ([(p408, .lst w409), (p414, .lst w415), (p291, .lst w292), (p297, .lst w298), (p255, .lst (w256 ++ [V.int (1 : Int)])), (p261, .lst (w262 ++ [V.ref p350])), (p233, .lst ([])), (p223, .lst ([])), (p70, .lst w143)] : List (Addr × HO)) := (inA_cons 0 rfl (inA_cons 1 rfl inA_nil))
              have S430 := O426.lendS hi429
              have h431 := R.lst (a := Int) ((lendF_at (by simp)).trans (O426.at 0 rfl) : lendF [p408, p414] F404 _ p408 = some (.lst w409)) (hl413.mono S430)
              have h432 := R.lst (a := (T3 Int Int Int)) ((lendF_at (by simp)).trans (O426.at 1 rfl) : lendF [p408, p414] F404 _ p414 = some (.lst w415)) (hl419.mono S430)
              refine ⟨_, rfl, _, _, _, _, _, rfl, (O426.lendP hi429), (R.t2 (x := ((r402.1, r402.2) : ((List Int) × (List (T3 Int Int Int))))) (S430 _ _ h421) h431 h432), (r124.mono S430), wp_call hk (fun r433 er434 hk F435 H436 g437 => ?_) (fun n hn C H1 hC kp => hn.elim)⟩
              have O438 := O426.borrow S430 g437
              refine ⟨_, rfl, ?_⟩
              refine iteBN (fun q439 => ?_) (fun q439 => ?_)
              · have hk := wp_if hk q439
                have O440 := O438.drop 0
                have O441 := O440.drop 0
                have O442 := O441.drop 0
                have O443 := O442.drop 0
                have O444 := O443.drop 0
                have O445 := O444.drop 0
                have O446 := O445.drop 0
                have O447 := O446.drop 0
                have O448 := O447.drop 0
                exact ⟨F404, (), some (V.int y41), some (V.ref p70), some (V.ref p126), some (V.ref p171), some (V.ref p238), some (V.ref p254), some (V.ref p290), rfl, S51, O448, hk⟩
              · have hk := wp_el hk q439
                exact hk _ _  O438.g 
            · have hk := wp_el hk q375
              refine iteT ?_
              exact hk _ _  O374.g 
        · have hk := wp_el hk q337
          refine iteT ?_
          exact hk _ _  O336.g 
      · have hk := wp_el hk q326
        refine iteT ?_
        exact hk _ _  O325.g 
    rintro sg449 H450 ⟨F461, st452, t454, t455, t456, t457, t458, t459, t460, rfl, S451, O462, hL453⟩
    rw [drop_end hl40.len] at hL453
    have hk := hLd45 _ hL453
    have f_script := S451.seq f_script
    have h7 := h7.mono S451
    have h15 := h15.mono S451
    have h20 := S451 _ _ h20
    have hl21 := hl21.mono S451
    have h25 := S451 _ _ h25
    have hl26 := hl26.mono S451
    have h34 := h34.mono S451
    have h39 := S451 _ _ h39
    have hl40 := hl40.mono S451
    exact hk _ _  O462.g 
end
set_option maxHeartbeats 2000000
/-! ### the law's own helpers -/
theorem take_ok (d m : Int) (h : 0 < m) (h2 : m ≤ 10 ^ 40) : m_law_take [d] m = .ok (d % m, [d / m]) := by
  unfold m_law_take
  rw [opt_b (show L2.atI [d] (0 : Int) = some d from rfl), chk_b h, opt_b (show L2.atI [d] (0 : Int) = some d from rfl), chk_b (cdivW h h2)]
  rfl
theorem pow10 (n : Nat) : (10 : Int) ^ n = ((10 ^ n : Nat) : Int) := by rw [Int.natCast_pow]; rfl
theorem stir_ok (c k : Int) (h : 1 ≤ k ∧ k ≤ 3) : ∃ s, m_law_stir c k = .ok s ∧ 0 ≤ s ∧ s < 10 ^ 62 := by
  unfold m_law_stir
  have e40 : (10 : Int) ^ Int.toNat (40 : Int) = 10000000000000000000000000000000000000000 := by decide
  have e60 : (3 : Int) ^ Int.toNat (60 : Int) = 42391158275216203514294433201 := by decide
  have e61 : (10 : Int) ^ Int.toNat (61 : Int) = 10000000000000000000000000000000000000000000000000000000000000 := by decide
  rw [e40, e60, e61]
  obtain ⟨r, hr⟩ : ∃ r, r = c % 10000000000000000000000000000000000000000 := ⟨_, rfl⟩
  have r0 : 0 ≤ r := by omega
  have r1 : r < 10000000000000000000000000000000000000000 := by omega
  rw [← hr]
  rw [chk_b (by decide)]
  rw [chk_b (cmulW (Nat.lt_of_lt_of_le (m := 10 ^ 40) (by omega) (by decide +kernel)) (by decide +kernel))]
  rw [chk_b (cmulW (by decide +kernel) (Nat.lt_of_lt_of_le (m := 5) (by omega) (by decide +kernel)))]
  obtain ⟨q, hq⟩ : ∃ q, q = 42391158275216203514294433201 * (k + 1) := ⟨_, rfl⟩
  have q0 : 0 ≤ q ∧ q ≤ 42391158275216203514294433201 * 4 := by omega
  rw [← hq]
  rw [chk_b (cmulW (Nat.lt_of_lt_of_le (m := 10 ^ 40) (by omega) (by decide +kernel)) (Nat.lt_of_lt_of_le (m := 5) (by omega) (by decide +kernel)))]
  have q2 : 0 ≤ q * (k + 1) ∧ q * (k + 1) ≤ 42391158275216203514294433201 * 16 := by
    have : k = 1 ∨ k = 2 ∨ k = 3 := by omega
    rcases this with rfl | rfl | rfl <;> omega
  rw [ret_b]
  obtain ⟨n, hn⟩ : ∃ n, n = r * 48271 + q * (k + 1) + k := ⟨_, rfl⟩
  rw [← hn]
  have n0 : 0 ≤ n := by omega
  have n1 : n.natAbs < 2 ^ 160 := Nat.lt_of_lt_of_le (m := 10 ^ 46) (by omega) (by decide)
  rw [chk_b (cmulW (Nat.lt_of_lt_of_le n1 (Nat.pow_le_pow_right (by decide) (by decide))) (Nat.lt_of_lt_of_le n1 (Nat.pow_le_pow_right (by decide) (by decide))))]
  rw [chk_b (cmulW (by decide +kernel) (Nat.lt_of_lt_of_le n1 (Nat.pow_le_pow_right (by decide) (by decide))))]
  rw [ret_b]
  have m1 : (n * n).natAbs < 2 ^ (160 + 160) := wide_lt n1 n1
  have m2 : ((69621 : Int) * n).natAbs < 2 ^ (17 + 160) := wide_lt (by decide) n1
  have m3 : (n * n + 69621 * n).natAbs < 2 ^ 321 := by
    have a1 := Int.natAbs_add_le (n * n) (69621 * n)
    have a2 : (2 : Nat) ^ (17 + 160) ≤ 2 ^ 320 := Nat.pow_le_pow_right (by decide) (by decide)
    have a3 : (2 : Nat) ^ 321 = 2 ^ 320 + 2 ^ 320 := by decide
    omega
  rw [chk_b (cmulW (Nat.lt_of_lt_of_le m3 (Nat.pow_le_pow_right (by decide) (by decide))) (Nat.lt_of_lt_of_le m3 (Nat.pow_le_pow_right (by decide) (by decide))))]
  rw [chk_b (by decide), chk_b (cdivW (by decide) (by decide))]
  refine ⟨_, rfl, ?_⟩
  have : (10 : Int) ^ 62 = 100000000000000000000000000000000000000000000000000000000000000 := by decide
  rw [this]
  omega
theorem deck_ok (c : Int) : ∃ d, m_law_deck c = .ok [d] := by
  unfold m_law_deck
  have e60 : (10 : Int) ^ Int.toNat (60 : Int) = 10 ^ 60 := rfl
  by_cases h : (10 : Int) ^ Int.toNat (18 : Int) ≤ c
  · rw [if_pos h]
    exact ⟨_, rfl⟩
  · rw [if_neg h]
    obtain ⟨s1, e1, a1, b1⟩ := stir_ok c 1 (by decide)
    obtain ⟨s2, e2, a2, b2⟩ := stir_ok c 2 (by decide)
    obtain ⟨s3, e3, _, _⟩ := stir_ok c 3 (by decide)
    have k62 : ((10 : Int) ^ 62).natAbs < 2 ^ 210 := by decide
    have w1 : s1.natAbs < 2 ^ 210 := wide_le a1 (Int.le_of_lt b1) k62
    have w2 : s2.natAbs < 2 ^ 210 := wide_le a2 (Int.le_of_lt b2) k62
    have k60 : ((10 : Int) ^ 60).natAbs < 2 ^ 200 := by decide
    rw [bind_ok e1, e60, chk_b (cmulW (Nat.lt_of_lt_of_le w1 (Nat.pow_le_pow_right (by decide) (by decide))) (Nat.lt_of_lt_of_le k60 (Nat.pow_le_pow_right (by decide) (by decide)))), bind_ok e2]
    have m1 : (s1 * 10 ^ 60).natAbs < 2 ^ (210 + 200) := wide_lt w1 k60
    have m2 : (s1 * 10 ^ 60 + s2).natAbs < 2 ^ 411 := by
      have x1 := Int.natAbs_add_le (s1 * 10 ^ 60) s2
      have x2 : (2 : Nat) ^ 210 ≤ 2 ^ 410 := Nat.pow_le_pow_right (by decide) (by decide)
      have x3 : (2 : Nat) ^ 411 = 2 ^ 410 + 2 ^ 410 := by decide
      omega
    rw [chk_b (cmulW (Nat.lt_of_lt_of_le m2 (Nat.pow_le_pow_right (by decide) (by decide))) (Nat.lt_of_lt_of_le k60 (Nat.pow_le_pow_right (by decide) (by decide)))), bind_ok e3]
    exact ⟨_, rfl⟩
/-- how far numbers go -/
def farB : Int := 100000000000000000000000000000
theorem number_ok (d far : Int) (h : 0 ≤ far) (h2 : far ≤ farB) : ∃ x d', m_law_number [d] far = .ok (x, [d']) ∧ -far ≤ x ∧ x ≤ far := by
  unfold m_law_number
  have hb : far ≤ 100000000000000000000000000000 := h2
  rw [chk_b (cmulW (by decide +kernel) (Nat.lt_of_lt_of_le (m := 10 ^ 40) (by omega) (by decide +kernel)))]
  rw [bind_ok (take_ok d (2 * far + 1) (by omega) (by have : (10 : Int) ^ 40 = 10000000000000000000000000000000000000000 := by decide
                                                      omega))]
  refine ⟨_, _, rfl, ?_, ?_⟩
  · show -far ≤ d % (2 * far + 1) - far
    have := Int.emod_nonneg d (show (2 * far + 1) ≠ 0 by omega)
    omega
  · show d % (2 * far + 1) - far ≤ far
    have := Int.emod_lt_of_pos d (show 0 < (2 * far + 1) by omega)
    omega
theorem take_small (d m : Int) (h : 0 < m) (h2 : m ≤ 1000000) : ∃ x d', m_law_take [d] m = .ok (x, [d']) ∧ 0 ≤ x ∧ x < m := by
  have k : (10 : Int) ^ 40 = 10000000000000000000000000000000000000000 := by decide
  exact ⟨_, _, take_ok d m h (by omega), Int.emod_nonneg _ (by omega), Int.emod_lt_of_pos _ h⟩
theorem nums_ok (far : Int) (h : 0 ≤ far) (h2 : far ≤ farB) {items : List Int} (hl : items.length < 16777216) (d : Int) :
    ∃ xs d', compS (fun (_ : Int) (st : List Int) => m_law_number st far >>= fun r => .ok (some r.1, r.2)) items [d] = .ok (xs, [d']) ∧ xs.length = items.length ∧ ∀ x ∈ xs, -far ≤ x ∧ x ≤ far := by
  obtain ⟨acc, st, e, ⟨d', rfl⟩, h3, h4⟩ := compS_run (f := fun (_ : Int) (st : List Int) => m_law_number st far >>= fun r => .ok (some r.1, r.2)) hl
    (fun pre acc st => (∃ d', st = [d']) ∧ acc.length = pre.length ∧ ∀ x ∈ acc, -far ≤ x ∧ x ≤ far) (x := [d]) ⟨⟨d, rfl⟩, rfl, fun _ h => nomatch h⟩ fun pre y post acc st _ ⟨⟨d', hd⟩, h3, h4⟩ => by
      subst hd
      obtain ⟨x, d2, e, hx⟩ := number_ok d' far h h2
      refine ⟨some x, [d2], by rw [bind_ok e], ⟨d2, rfl⟩, by simp [h3], fun z hz => ?_⟩
      rcases List.mem_append.mp hz with hz | hz
      · exact h4 z hz
      · rw [List.mem_singleton.mp hz]; exact hx
  exact ⟨acc, d', e, h3, h4⟩
theorem rangeL_mem {lo hi x : Int} : x ∈ rangeL lo hi ↔ lo ≤ x ∧ x < hi := by
  unfold rangeL
  rw [List.mem_map]
  constructor
  · rintro ⟨j, hj, rfl⟩
    have := List.mem_range.mp hj
    omega
  · rintro ⟨h1, h2⟩
    exact ⟨(x - lo).toNat, List.mem_range.mpr (by omega), by omega⟩
theorem rangeL_nodup (lo hi : Int) : (rangeL lo hi).Nodup := by
  unfold rangeL
  rw [List.nodup_iff_pairwise_ne, List.pairwise_map]
  exact List.nodup_range.imp fun h e => h (by omega)
/-- an order of all places -/
theorem order_ok (d n : Int) (h0 : 0 ≤ n) (h1 : n ≤ 1000000) : ∃ o d', m_law_order [d] n = .ok (o, [d']) ∧ o.Perm (rangeL 0 n) := by
  unfold m_law_order
  have hr : okR n := ⟨by omega, h1⟩
  rw [chk_b hr, chk_b hr]
  have hlen : (rangeL 0 n).length = n.toNat := by rw [rangeL_length]; omega
  obtain ⟨st, e, h2⟩ := loopN_run (f := fun (_ : Int) (st26 : (List Int) × (List Int) × (List Int)) =>
      m_law_take st26.2.2 (st26.2.1.length : Int) >>= fun r36 => popI st26.2.1 r36.1 >>= fun t54 => appL st26.1 t54.1 >>= fun _ => (.ok ((st26.1 ++ [t54.1]), t54.2, r36.2) : M _))
    (all := rangeL 0 n) (fun pre st => (∃ d', st.2.2 = [d']) ∧ (st.1 ++ st.2.1).Perm (rangeL 0 n) ∧ st.1.length = pre.length) (x := ([], rangeL 0 n, [d])) ⟨⟨d, rfl⟩, List.Perm.refl _, rfl⟩ fun pre y post st ea ⟨⟨d', hd⟩, hp, hl⟩ => by
      obtain ⟨fs, ls, ds⟩ := st
      have hd : ds = [d'] := hd
      subst hd
      have hp : (fs ++ ls).Perm (rangeL 0 n) := hp
      have hl : fs.length = pre.length := hl
      have hpl := hp.length_eq
      rw [List.length_append, hlen] at hpl
      have hal := congrArg List.length ea
      rw [List.length_append, List.length_cons, hlen] at hal
      obtain ⟨x, d2, ex, x0, x1⟩ := take_small d' (ls.length : Int) (by omega) (by omega)
      have hx : x.toNat < ls.length := by omega
      have eg : ls[x.toNat]? = some ls[x.toNat] := List.getElem?_eq_getElem hx
      refine ⟨(fs ++ [ls[x.toNat]], ls.eraseIdx x.toNat, [d2]), ?_, ⟨d2, rfl⟩, ?_, by simp [hl]⟩
      · show (m_law_take [d'] (ls.length : Int) >>= fun r36 => popI ls r36.1 >>= fun t54 => appL fs t54.1 >>= fun _ => (.ok ((fs ++ [t54.1]), t54.2, r36.2) : M _)) = _
        rw [bind_ok ex, bind_ok (popI_ok x0 eg (by omega)), bind_ok (appL_ok (by omega))]
      · show ((fs ++ [ls[x.toNat]]) ++ ls.eraseIdx x.toNat).Perm (rangeL 0 n)
        refine List.Perm.trans ?_ hp
        rw [List.append_assoc]
        refine List.Perm.append_left fs ?_
        show (ls[x.toNat] :: ls.eraseIdx x.toNat).Perm ls
        exact erase_perm hx
  obtain ⟨fs, ls, ds⟩ := st
  obtain ⟨⟨d', hd⟩, hp, hl⟩ := h2
  have hd : ds = [d'] := hd
  subst hd
  have hp : (fs ++ ls).Perm (rangeL 0 n) := hp
  have hl : fs.length = (rangeL 0 n).length := hl
  have hpl := hp.length_eq
  rw [List.length_append] at hpl
  have : ls = [] := List.length_eq_zero_iff.mp (by omega)
  subst this
  rw [List.append_nil] at hp
  rw [bind_ok e]
  exact ⟨fs, d', rfl, hp⟩

theorem at5 (a b c d e k : Int) (h : 0 ≤ k) (h5 : k < 5) (P : Int → Prop) (pa : P a) (pb : P b) (pc : P c) (pd : P d) (pe : P e) : ∃ x, L2.atI [a, b, c, d, e] k = some x ∧ P x := by
  obtain ⟨x, e1, e2⟩ := atI_some (xs := [a, b, c, d, e]) h (by simpa using h5)
  refine ⟨x, e1, ?_⟩
  have hm := List.mem_of_getElem? e2
  simp only [List.mem_cons, List.not_mem_nil, or_false] at hm
  rcases hm with rfl | rfl | rfl | rfl | rfl <;> assumption
theorem tree_ok (d most far : Int) (m1 : 1 ≤ most) (m2 : most ≤ 1000) (f0 : 0 ≤ far) (f1 : far ≤ farB) :
    ∃ t d', m_law_tree [d] most far = .ok (t, [d']) ∧ TreeOk t ∧ (t.1.length : Int) ≤ most ∧ (∀ x ∈ t.1, -far ≤ x ∧ x ≤ far) ∧ ∀ x ∈ t.2, -far ≤ x.c ∧ x.c ≤ far := by
  unfold m_law_tree
  obtain ⟨r, d1, e1, r0, r1⟩ := take_small d most (by omega) (by omega)
  rw [bind_ok e1]
  show ∃ t d', (m_law_order [d1] ((1 : Int) + r) >>= _) = _ ∧ _
  obtain ⟨o, d2, e2, po⟩ := order_ok d1 (1 + r) (by omega) (by omega)
  rw [bind_ok e2]
  obtain ⟨kd, d3, e3, k0, k5⟩ := take_small d2 5 (by decide) (by decide)
  show ∃ t d', (m_law_take [d2] 5 >>= _) = _ ∧ _
  rw [bind_ok e3, chk_b (show okR 1 by decide), chk_b (show okR (1 + r) from ⟨by omega, by omega⟩)]
  have olen : o.length = (1 + r).toNat := by
    have := po.length_eq
    rw [rangeL_length] at this
    omega
  have ond : o.Nodup := po.nodup_iff.mpr (rangeL_nodup _ _)
  obtain ⟨st, e4, h4⟩ := loopN_run (f := fun (y47 : Int) (st60 : (List Int) × (List (T3 Int Int Int))) =>
      m_law_take st60.1 y47 >>= fun r70 =>
      m_law_take r70.2 (3 : Int) >>= fun r79 =>
      m_law_take r79.2 y47 >>= fun r88 =>
      opt (atI ([r70.1, (y47 - (1 : Int)), (0 : Int), (if ((y47 - (1 : Int)) - r79.1) > (0 : Int) then ((y47 - (1 : Int)) - r79.1) else (0 : Int)), r88.1]) kd) >>= fun y110 =>
      opt (atI o y47) >>= fun y120 =>
      opt (atI o y110) >>= fun y130 =>
      opt (atI (sortT ([y120, y130])) (0 : Int)) >>= fun y161 =>
      opt (atI (sortT ([y120, y130])) (1 : Int)) >>= fun y171 =>
      m_law_number r88.2 far >>= fun r176 =>
      appL st60.2 (T3.mk y161 y171 r176.1) >>= fun _ =>
      (.ok (r176.2, (st60.2 ++ [(T3.mk y161 y171 r176.1)])) : M _)) (all := rangeL (1 : Int) ((1 : Int) + r)) (x := ([d3], []))
    (fun pre st => (∃ d', st.1 = [d']) ∧ Grown (o.take (pre.length + 1)) st.2 ∧ ∀ x ∈ st.2, -far ≤ x.c ∧ x.c ≤ far)
    ⟨⟨d3, rfl⟩, by
      cases o with
      | nil => simp at olen; omega
      | cons p o => exact Grown.one p, fun _ h => nomatch h⟩
    fun pre y post st ea ⟨⟨d', hd⟩, hg, hc⟩ => by
      obtain ⟨ds, ts⟩ := st
      have hd : ds = [d'] := hd
      subst hd
      have hg : Grown (o.take (pre.length + 1)) ts := hg
      have hc : ∀ x ∈ ts, -far ≤ x.c ∧ x.c ≤ far := hc
      -- the turn's number
      have hy : y = 1 + (pre.length : Int) ∧ pre.length < r.toNat := by
        have hl := congrArg List.length ea
        rw [rangeL_length, List.length_append, List.length_cons] at hl
        have hg2 : (rangeL 1 (1 + r))[pre.length]? = some y := by rw [ea]; simp
        unfold rangeL at hg2
        rw [List.getElem?_map, List.getElem?_range (by omega)] at hg2
        exact ⟨(Option.some.inj hg2).symm, by omega⟩
      obtain ⟨hy, hpl⟩ := hy
      obtain ⟨q1, d4, a1, b1, c1⟩ := take_small d' y (by omega) (by omega)
      obtain ⟨q2, d5, a2, b2, c2⟩ := take_small d4 3 (by decide) (by decide)
      obtain ⟨q3, d6, a3, b3, c3⟩ := take_small d5 y (by omega) (by omega)
      obtain ⟨at_, a4, b4, c4⟩ := at5 q1 (y - 1) 0 (if (y - 1) - q2 > 0 then (y - 1) - q2 else 0) q3 kd k0 k5 (fun x => 0 ≤ x ∧ x < y) ⟨b1, c1⟩ (by omega) (by omega) (by split <;> omega) ⟨b3, c3⟩
      obtain ⟨p, a5, b5⟩ := atI_some (xs := o) (j := y) (by omega) (by omega)
      obtain ⟨q, a6, b6⟩ := atI_some (xs := o) (j := at_) b4 (by omega)
      obtain ⟨c, d7, a7, b7⟩ := number_ok d6 far f0 f1
      have hq : q ∈ o.take (pre.length + 1) := by
        refine List.mem_iff_getElem?.mpr ⟨at_.toNat, ?_⟩
        rw [List.getElem?_take_of_lt (by omega)]
        exact b6
      have hp : p ∉ o.take (pre.length + 1) := fun hm => by
        obtain ⟨j, hj⟩ := List.mem_iff_getElem?.mp hm
        rw [List.getElem?_take] at hj
        split at hj
        · have := nd_ix ond hj b5
          omega
        · cases hj
      have hpq : p ≠ q := fun e => hp (e ▸ hq)
      have hs : sortT [p, q] = [(tieOf p q c).a, (tieOf p q c).b] := by
        rw [sort2]
        unfold tieOf
        by_cases hh : p ≤ q
        · rw [if_pos hh, if_pos hh]
        · rw [if_neg hh, if_neg hh]
      have hcc : (tieOf p q c).c = c := (tieOf_lt hpq).2.2
      have et : T3.mk (tieOf p q c).a (tieOf p q c).b c = tieOf p q c := PySem.W.T3.same rfl rfl hcc.symm
      have hlt : ts.length < 16777216 := by
        have := hg.len
        rw [List.length_take] at this
        omega
      refine ⟨([d7], ts ++ [tieOf p q c]), ?_, ⟨d7, rfl⟩, ?_, fun x hx => ?_⟩
      · show (m_law_take [d'] y >>= _) = _
        rw [bind_ok a1]
        show (m_law_take [d4] 3 >>= _) = _
        rw [bind_ok a2]
        show (m_law_take [d5] y >>= _) = _
        rw [bind_ok a3]
        show (opt (atI [q1, y - 1, 0, (if (y - 1) - q2 > 0 then (y - 1) - q2 else 0), q3] kd) >>= _) = _
        rw [opt_b a4, opt_b a5, opt_b a6, hs]
        rw [opt_b (show L2.atI [(tieOf p q c).a, (tieOf p q c).b] (0 : Int) = some (tieOf p q c).a from rfl), opt_b (show L2.atI [(tieOf p q c).a, (tieOf p q c).b] (1 : Int) = some (tieOf p q c).b from rfl)]
        show (m_law_number [d6] far >>= _) = _
        rw [bind_ok a7]
        show (appL ts (T3.mk (tieOf p q c).a (tieOf p q c).b c) >>= _) = _
        rw [bind_ok (appL_ok hlt)]
        show (Except.ok ([d7], ts ++ [T3.mk (tieOf p q c).a (tieOf p q c).b c]) : M _) = _
        rw [et]
      · have e5 : o.take ((pre ++ [y]).length + 1) = o.take (pre.length + 1) ++ [p] := by
          rw [List.length_append]
          show o.take (pre.length + 1 + 1) = _
          rw [List.take_succ]
          have e6 : y.toNat = pre.length + 1 := by omega
          rw [e6] at b5
          rw [b5]
          rfl
        rw [e5]
        exact Grown.more q p c hg hq hp
      · rcases List.mem_append.mp hx with hx | hx
        · exact hc x hx
        · rw [List.mem_singleton.mp hx, hcc]
          exact b7
  obtain ⟨ds, ts⟩ := st
  obtain ⟨⟨d8, hd⟩, hg, hc⟩ := h4
  have hd : ds = [d8] := hd
  subst hd
  have hg : Grown (o.take ((rangeL 1 (1 + r)).length + 1)) ts := hg
  have hc : ∀ x ∈ ts, -far ≤ x.c ∧ x.c ≤ far := hc
  rw [rangeL_length] at hg
  have e5 : o.take ((1 + r - 1).toNat + 1) = o := List.take_of_length_le (by omega)
  rw [e5] at hg
  show ∃ t d', (loopN _ (rangeL 1 (1 + r)) ([d3], []) >>= _) = _ ∧ _
  rw [bind_ok e4, chk_b (show okR (1 + r) from ⟨by omega, by omega⟩)]
  obtain ⟨ws, d9, e6, w1, w2⟩ := nums_ok far f0 f1 (items := rangeL 0 (1 + r)) (by rw [rangeL_length]; omega) d8
  show ∃ t d', (compS _ (rangeL 0 (1 + r)) [d8] >>= _) = _ ∧ _
  rw [bind_ok e6]
  rw [rangeL_length] at w1
  have hlen : ((1 + r).toNat : Int) = 1 + r := by omega
  refine ⟨(ws, sortT ts), d9, rfl, ⟨⟨o, ts, hg, ?_, rfl⟩⟩, ?_, w2, fun x hx => hc x (sortT_mem.mp hx)⟩
  · show o.Perm (rangeL 0 (ws.length : Int))
    have : (ws.length : Int) = 1 + r := by omega
    rw [this]
    exact po
  · show (ws.length : Int) ≤ most
    omega

theorem are_whole_ok (xs : List Int) (h : xs.length < 16777216) : m_law_are_whole xs = .ok true := by
  unfold m_law_are_whole
  rw [bind_ok (compS_pure (fun _ => none) h fun y _ => by
    show (m_law_whole y >>= _) = _
    unfold m_law_whole
    rw [ok_b, if_pos rfl])]
  have : xs.filterMap (fun _ => (none : Option Int)) = [] := by
    induction xs with
    | nil => rfl
    | cons x xs ih => rw [List.filterMap_cons]; exact ih (by simp at h; omega)
  rw [this]
  rfl
theorem cut10 (ns : List Int) (k : Nat) : (cutL ns none (some (k : Int))).length ≤ ns.length := by
  unfold cutL
  rw [List.length_take, List.length_drop]
  omega
theorem at4 (k : Int) (h : 0 ≤ k) (h4 : k < 4) : ∃ x, L2.atI [(10 : Int), 10, 10, 40] k = some x ∧ (x = 10 ∨ x = 40) := by
  obtain ⟨x, e1, e2⟩ := atI_some (xs := [(10 : Int), 10, 10, 40]) h (by simpa using h4)
  refine ⟨x, e1, ?_⟩
  have hm := List.mem_of_getElem? e2
  simp only [List.mem_cons, List.not_mem_nil, or_false] at hm
  omega

/-! ### neighbours -/
def other (p : Int) (t : Tie) : Option Int := if t.a = p then some t.b else if t.b = p then some t.a else none
/-- the neighbours of a place, rising -/
def nearOf (ties : List Tie) (p : Int) : List Int := sortT (ties.filterMap (other p))
def nearAll (n : Nat) (ties : List Tie) : List (List Int) := (List.range n).map fun (i : Nat) => nearOf ties (i : Int)
theorem addAt_ok {fs : List (List Int)} {x y : Int} {l : List Int} (h0 : 0 ≤ x) (h : fs[x.toNat]? = some l) (hl : l.length < 16777216) : addAt fs x y = .ok (fs.set x.toNat (l ++ [y])) := by
  have h1 := (List.getElem?_eq_some_iff.mp h).1
  unfold addAt
  rw [ixN_nat h0 (by omega)]
  show (match fs[x.toNat]? with
    | some x_1 => appL x_1 y >>= fun y => .ok (fs.set x.toNat y)
    | none => bad) = _
  rw [h]
  show (appL l y >>= fun y => (.ok (fs.set x.toNat y) : M _)) = _
  rw [bind_ok (appL_ok hl)]
theorem tied_places_ok (n : Int) (ties : List Tie) (h0 : 0 ≤ n) (h1 : n ≤ 1000000) (hl : ties.length < 16777216) (hv : ∀ t ∈ ties, 0 ≤ t.a ∧ t.a < t.b ∧ t.b < n) : m_tied_places n ties = .ok (nearAll n.toNat ties) := by
  unfold m_tied_places
  rw [chk_b (show okR n from ⟨by omega, h1⟩)]
  obtain ⟨fs, e, h⟩ := loopN_run (f := fun (t : T3 Int Int Int) (fs : List (List Int)) => addAt fs t.a t.b >>= fun f1 => addAt f1 t.b t.a) (all := sortT ties) (x := List.replicate n.toNat [])
    (fun pre fs => fs = (List.range n.toNat).map fun (i : Nat) => pre.filterMap (other (i : Int))) (by
      refine List.ext_getElem? fun i => ?_
      rw [List.getElem?_replicate, List.getElem?_map]
      by_cases hi : i < n.toNat
      · rw [if_pos hi, List.getElem?_range hi]; rfl
      · rw [if_neg hi, List.getElem?_eq_none (by simpa using hi)]; rfl) fun pre t post fs ea hf => by
      subst hf
      have mt : t ∈ ties := sortT_mem.mp (by rw [ea]; simp)
      obtain ⟨a0, ab, bn⟩ := hv t mt
      have plen : pre.length < 16777216 := by
        have := congrArg List.length ea
        rw [sortT_len, List.length_append, List.length_cons] at this
        omega
      have g1 : ((List.range n.toNat).map fun (i : Nat) => pre.filterMap (other (i : Int)))[t.a.toNat]? = some (pre.filterMap (other t.a)) := by
        rw [List.getElem?_map, List.getElem?_range (by omega)]
        show some (pre.filterMap (other ((t.a.toNat : Nat) : Int))) = _
        rw [Int.toNat_of_nonneg a0]
      have l1 : (pre.filterMap (other t.a)).length < 16777216 := Nat.lt_of_le_of_lt (List.length_filterMap_le _ _) plen
      have g2 : (((List.range n.toNat).map fun (i : Nat) => pre.filterMap (other (i : Int))).set t.a.toNat (pre.filterMap (other t.a) ++ [t.b]))[t.b.toNat]? = some (pre.filterMap (other t.b)) := by
        rw [List.getElem?_set_ne (by omega), List.getElem?_map, List.getElem?_range (by omega)]
        show some (pre.filterMap (other ((t.b.toNat : Nat) : Int))) = _
        rw [Int.toNat_of_nonneg (by omega)]
      have l2 : (pre.filterMap (other t.b)).length < 16777216 := Nat.lt_of_le_of_lt (List.length_filterMap_le _ _) plen
      refine ⟨_, by rw [bind_ok (addAt_ok a0 g1 l1)]; exact addAt_ok (by omega) g2 l2, ?_⟩
      refine List.ext_getElem? fun i => ?_
      rw [List.getElem?_map]
      by_cases hi : i < n.toNat
      · rw [List.getElem?_range hi]
        show _ = some ((pre ++ [t]).filterMap (other (i : Int)))
        rw [List.filterMap_append]
        by_cases hb : t.b.toNat = i
        · subst hb
          rw [List.getElem?_set_self (by simpa using hi)]
          have e1 : other ((t.b.toNat : Nat) : Int) t = some t.a := by
            unfold other
            rw [if_neg (by omega), if_pos (by omega)]
          have e2 : ((t.b.toNat : Nat) : Int) = t.b := Int.toNat_of_nonneg (by omega)
          rw [List.filterMap_cons, e1, List.filterMap_nil, e2]
        · rw [List.getElem?_set_ne hb]
          by_cases ha : t.a.toNat = i
          · subst ha
            rw [List.getElem?_set_self (by simpa using hi)]
            have e1 : other ((t.a.toNat : Nat) : Int) t = some t.b := by
              unfold other
              rw [if_pos (by omega)]
            have e2 : ((t.a.toNat : Nat) : Int) = t.a := Int.toNat_of_nonneg a0
            rw [List.filterMap_cons, e1, List.filterMap_nil, e2]
          · rw [List.getElem?_set_ne ha, List.getElem?_map, List.getElem?_range hi]
            have e1 : other (i : Int) t = none := by
              unfold other
              rw [if_neg (by omega), if_neg (by omega)]
            rw [List.filterMap_cons, e1, List.filterMap_nil, List.append_nil]
            rfl
      · have z : (List.range n.toNat)[i]? = none := List.getElem?_eq_none (by simpa using hi)
        rw [z]
        show _ = none
        refine List.getElem?_eq_none ?_
        rw [List.length_set, List.length_set, List.length_map, List.length_range]
        omega
  rw [bind_ok e, h]
  refine congrArg Except.ok ?_
  unfold nearAll
  rw [List.map_map]
  refine List.map_congr_left fun i _ => ?_
  show sortT ((sortT ties).filterMap (other (i : Int))) = nearOf ties (i : Int)
  exact sortT_eq ((sortT_perm ties).filterMap _)
theorem nearAll_at {n : Nat} {ties : List Tie} {p : Int} (h0 : 0 ≤ p) (h : p < n) : L2.atI (nearAll n ties) p = some (nearOf ties p) := by
  refine atI_of h0 ?_
  unfold nearAll
  rw [List.getElem?_map, List.getElem?_range (by omega)]
  show some (nearOf ties ((p.toNat : Nat) : Int)) = _
  rw [Int.toNat_of_nonneg h0]

theorem whL_run {s r : Type} {b : s → M (Ws s r)} (P : s → Prop) (μ : s → Nat) (Qf : s → Prop) (step : ∀ x, P x → (∃ x', b x = .ok (.go x') ∧ P x' ∧ μ x' < μ x) ∨ (∃ x', b x = .ok (.stop x') ∧ Qf x')) : ∀ (n : Nat) (x : s), P x → μ x < n → ∃ x', whL b n x = .ok (.nx x') ∧ Qf x'
  | 0, x, _, h => absurd h (Nat.not_lt_zero _)
  | n + 1, x, p, h => by
    rcases step x p with ⟨x', e, p', l⟩ | ⟨x', e, q⟩
    · obtain ⟨x2, e2, q2⟩ := whL_run P μ Qf step n x' p' (by omega)
      refine ⟨x2, ?_, q2⟩
      show (b x >>= _) = _
      rw [bind_ok e]
      exact e2
    · refine ⟨x', ?_, q⟩
      show (b x >>= _) = _
      rw [bind_ok e]
theorem nd_sub_len {a : Type} [DecidableEq a] : ∀ {l m : List a}, l.Nodup → (∀ x ∈ l, x ∈ m) → l.length ≤ m.length
  | [], _, _, _ => Nat.zero_le _
  | x :: l, m, nd, h => by
    have hx := h x List.mem_cons_self
    obtain ⟨n1, n2⟩ := List.nodup_cons.mp nd
    have := nd_sub_len (l := l) (m := m.erase x) n2 fun y hy => (List.mem_erase_of_ne fun e => n1 (by rw [← e]; exact hy)).mpr (h y (List.mem_cons_of_mem _ hy))
    rw [List.length_erase_of_mem hx] at this
    have hp := List.length_pos_of_mem hx
    rw [List.length_cons]
    omega
theorem rangeL_len0 (n : Nat) : (rangeL 0 (n : Int)).length = n := by rw [rangeL_length]; omega
theorem come_to_ok (near : List (List Int)) (hn : near.length ≤ 100000) (hv : ∀ l ∈ near, ∀ y ∈ l, 0 ≤ y ∧ y < near.length) (hl : ∀ l ∈ near, l.length < 16777216) (p : Int) (p0 : 0 ≤ p) (p1 : p < near.length) :
    ∃ f, m_come_to near p = .ok f ∧ f.Nodup ∧ p ∈ f ∧ (∀ x ∈ f, 0 ≤ x ∧ x < near.length) ∧ ∀ x ∈ f, ∀ l, near[x.toNat]? = some l → ∀ y ∈ l, y ∈ f := by
  have small : ∀ f : List Int, f.Nodup → (∀ x ∈ f, 0 ≤ x ∧ x < near.length) → f.length ≤ near.length := fun f nd hf => by
    have := nd_sub_len (m := rangeL 0 (near.length : Int)) nd fun x hx => rangeL_mem.mpr (hf x hx)
    rw [rangeL_len0] at this
    exact this
  obtain ⟨st, e, q1, q2, q3, q4⟩ := whL_run (r := Unit) (b := fun (st17 : Int × (List Int)) =>
    if st17.1 < (st17.2.length : Int) then (
    opt (atI st17.2 st17.1) >>= fun y25 =>
    opt (atI near y25) >>= fun y35 =>
    loopN (fun (y45 : Int) (st56 : (List Int)) =>
    if y45 ∉ st56 then (
    appL st56 y45 >>= fun _ =>
    .ok (st56 ++ [y45]))
    else (
    .ok st56)) y35 st17.2 >>= fun st72 =>
    .ok (.go ((st17.1 + (1 : Int)), st72)))
    else (
    .ok (.stop (st17.1, st17.2))))
    (fun st => st.2.Nodup ∧ p ∈ st.2 ∧ (∀ x ∈ st.2, 0 ≤ x ∧ x < near.length) ∧ 0 ≤ st.1 ∧ st.1 ≤ st.2.length ∧ ∀ (i : Nat) x, (i : Int) < st.1 → st.2[i]? = some x → ∀ l, near[x.toNat]? = some l → ∀ y ∈ l, y ∈ st.2)
    (fun st => near.length + 1 - st.1.toNat)
    (fun st => st.2.Nodup ∧ p ∈ st.2 ∧ (∀ x ∈ st.2, 0 ≤ x ∧ x < near.length) ∧ ∀ x ∈ st.2, ∀ l, near[x.toNat]? = some l → ∀ y ∈ l, y ∈ st.2)
    (fun ⟨at_, fs⟩ ⟨h1, h2, h3, h4, h5, h6⟩ => by
      have h1 : fs.Nodup := h1
      have h2 : p ∈ fs := h2
      have h3 : ∀ x ∈ fs, 0 ≤ x ∧ x < near.length := h3
      have h4 : 0 ≤ at_ := h4
      have h5 : at_ ≤ fs.length := h5
      have h6 : ∀ (i : Nat) x, (i : Int) < at_ → fs[i]? = some x → ∀ l, near[x.toNat]? = some l → ∀ y ∈ l, y ∈ fs := h6
      show (∃ x', (if at_ < (fs.length : Int) then _ else _) = _ ∧ _) ∨ (∃ x', (if at_ < (fs.length : Int) then _ else _) = _ ∧ _)
      by_cases hlt : at_ < (fs.length : Int)
      · refine .inl ?_
        rw [if_pos hlt]
        obtain ⟨x, a1, b1⟩ := atI_some (xs := fs) (j := at_) h4 hlt
        have hx := h3 x (List.mem_of_getElem? b1)
        obtain ⟨l, a2, b2⟩ := atI_some (xs := near) (j := x) hx.1 hx.2
        have hlm := List.mem_of_getElem? b2
        obtain ⟨f2, e2, c1, c2, c3, c4⟩ := loopN_run (f := fun (y45 : Int) (st56 : (List Int)) =>
          if y45 ∉ st56 then (
          appL st56 y45 >>= fun _ =>
          (.ok (st56 ++ [y45]) : M _))
          else (
          .ok st56)) (all := l) (x := fs) (fun pre st => st.Nodup ∧ (∀ x ∈ st, 0 ≤ x ∧ x < near.length) ∧ (∃ ex, st = fs ++ ex) ∧ ∀ y ∈ pre, y ∈ st) ⟨h1, h3, ⟨[], by simp⟩, fun _ h => nomatch h⟩
          (fun pre y post st ea ⟨g1, g2, ⟨ex, g3⟩, g4⟩ => by
            have hy := hv l hlm y (by rw [ea]; simp)
            by_cases hm : y ∉ st
            · refine ⟨st ++ [y], ?_, ?_, fun z hz => ?_, ⟨ex ++ [y], by rw [g3]; simp⟩, fun z hz => ?_⟩
              · rw [if_pos hm, bind_ok (appL_ok (by have := small st g1 g2; omega))]
              · exact List.nodup_append.mpr ⟨g1, by simp, fun a ha b hb e => by rw [List.mem_singleton.mp hb] at e; exact hm (e ▸ ha)⟩
              · rcases List.mem_append.mp hz with hz | hz
                · exact g2 z hz
                · rw [List.mem_singleton.mp hz]; exact hy
              · rcases List.mem_append.mp hz with hz | hz
                · exact List.mem_append_left _ (g4 z hz)
                · exact List.mem_append_right _ hz
            · refine ⟨st, by rw [if_neg hm], g1, g2, ⟨ex, g3⟩, fun z hz => ?_⟩
              rcases List.mem_append.mp hz with hz | hz
              · exact g4 z hz
              · rw [List.mem_singleton.mp hz]
                exact Classical.not_not.mp hm)
        obtain ⟨ex, c3⟩ := c3
        refine ⟨(at_ + 1, f2), ?_, ⟨c1, ?_, c2, ?_, ?_, fun i y hi hy l' hl' z hz => ?_⟩, ?_⟩
        · rw [opt_b a1, opt_b a2, bind_ok e2]
        · show p ∈ f2
          rw [c3]; exact List.mem_append_left _ h2
        · show 0 ≤ at_ + 1
          omega
        · show at_ + 1 ≤ (f2.length : Int)
          rw [c3, List.length_append]
          omega
        · have hi : (i : Int) < at_ + 1 := hi
          have hy : f2[i]? = some y := hy
          show z ∈ f2
          have hil : i < fs.length := by omega
          have hy' : fs[i]? = some y := by
            rw [c3, List.getElem?_append_left hil] at hy
            exact hy
          by_cases hia : (i : Int) < at_
          · rw [c3]; exact List.mem_append_left _ (h6 i y hia hy' l' hl' z hz)
          · have hie : i = at_.toNat := by omega
            rw [hie, b1] at hy'
            rw [← Option.some.inj hy', b2] at hl'
            rw [← Option.some.inj hl'] at hz
            exact c4 z hz
        · show near.length + 1 - (at_ + 1).toNat < near.length + 1 - at_.toNat
          have := small fs h1 h3
          omega
      · refine .inr ?_
        rw [if_neg hlt]
        refine ⟨(at_, fs), rfl, h1, h2, h3, fun x hx l hl' y hy => ?_⟩
        have hx : x ∈ fs := hx
        obtain ⟨i, hi⟩ := List.mem_iff_getElem?.mp hx
        have hil := (List.getElem?_eq_some_iff.mp hi).1
        exact h6 i x (by omega) hi l hl' y hy)
    1000000 (0, [p]) ⟨by simp, by simp, fun x hx => by
      have hx : x ∈ [p] := hx
      rw [List.mem_singleton.mp hx]; exact ⟨p0, p1⟩, by simp, by simp, fun i x hi => by
      have hi : (i : Int) < 0 := hi
      omega⟩ (by show near.length + 1 - 0 < 1000000; omega)
  refine ⟨st.2, ?_, q1, q2, q3, q4⟩
  unfold m_come_to
  rw [bind_ok e]
theorem nearOf_mem {ts : List Tie} {x y : Int} (h : ∀ t ∈ ts, t.a < t.b) : y ∈ nearOf ts x ↔ ∃ t ∈ ts, (t.a = x ∧ t.b = y) ∨ (t.b = x ∧ t.a = y) := by
  unfold nearOf
  rw [sortT_mem, List.mem_filterMap]
  constructor
  · rintro ⟨t, ht, e⟩
    unfold other at e
    by_cases ha : t.a = x
    · rw [if_pos ha] at e
      exact ⟨t, ht, .inl ⟨ha, Option.some.inj e⟩⟩
    · rw [if_neg ha] at e
      by_cases hb : t.b = x
      · rw [if_pos hb] at e
        exact ⟨t, ht, .inr ⟨hb, Option.some.inj e⟩⟩
      · rw [if_neg hb] at e; cases e
  · rintro ⟨t, ht, ⟨ha, hb⟩ | ⟨hb, ha⟩⟩
    · refine ⟨t, ht, ?_⟩
      unfold other
      rw [if_pos ha, hb]
    · refine ⟨t, ht, ?_⟩
      have := h t ht
      unfold other
      rw [if_neg (by omega), if_pos hb, ha]
/-- what holds of one place and goes over ties holds of all -/
theorem grown_all {ps : List Int} {ts : List Tie} (g : Grown ps ts) (S : Int → Prop) (hS : ∀ t ∈ ts, S t.a ↔ S t.b) : (∃ x ∈ ps, S x) → ∀ x ∈ ps, S x := by
  induction g with
  | one p =>
    rintro ⟨x, hx, h⟩ y hy
    rw [List.mem_singleton.mp hx] at h
    rw [List.mem_singleton.mp hy]
    exact h
  | @more ps ts q p c g hq hp ih =>
    have ih := ih fun t ht => hS t (List.mem_append_left _ ht)
    have hpq : p ≠ q := fun z => hp (z ▸ hq)
    have hl := hS (tieOf p q c) (by simp)
    obtain ⟨_, h2, _⟩ := tieOf_lt (c := c) hpq
    have hpq2 : S p ↔ S q := by
      rcases h2 with ⟨a, b⟩ | ⟨a, b⟩
      · rw [a, b] at hl; exact hl
      · rw [a, b] at hl; exact hl.symm
    rintro ⟨x, hx, h⟩
    have hall : ∀ y ∈ ps, S y := by
      rcases List.mem_append.mp hx with hx | hx
      · exact ih ⟨x, hx, h⟩
      · rw [List.mem_singleton.mp hx] at h
        exact ih ⟨q, hq, hpq2.mp h⟩
    intro y hy
    rcases List.mem_append.mp hy with hy | hy
    · exact hall y hy
    · rw [List.mem_singleton.mp hy]
      exact hpq2.mpr (hall q hq)
theorem tree_all {t : Tr} (ht : TreeOk t) (S : Int → Prop) (hS : ∀ x ∈ t.2, S x.a ↔ S x.b) (x : Int) (x0 : 0 ≤ x) (x1 : x < (t.1.length : Int)) (h : S x) : ∀ y, 0 ≤ y → y < (t.1.length : Int) → S y := by
  obtain ⟨ps, ts, g, p, e⟩ := ht.ex
  rw [e] at hS
  intro y y0 y1
  exact grown_all g S (fun t ht => hS t (sortT_mem.mpr ht)) ⟨x, p.mem_iff.mpr (rangeL_mem.mpr ⟨x0, x1⟩), h⟩ y (p.mem_iff.mpr (rangeL_mem.mpr ⟨y0, y1⟩))
theorem nearAll_len (n : Nat) (ts : List Tie) : (nearAll n ts).length = n := by unfold nearAll; simp
theorem tree_of_ok (t : Tr) (ht : TreeOk t) (hn : t.1.length ≤ 100000) (ties : List Tie) (hp : ties.Perm t.2) : m_tree_of t.1 ties = .ok (t.1, t.2) := by
  have hlen := ht.len
  have hpos := ht.pos
  have htl : ties.length = t.2.length := hp.length_eq
  have hv : ∀ x ∈ ties, 0 ≤ x.a ∧ x.a < x.b ∧ x.b < (t.1.length : Int) := fun x hx => ht.tie x (hp.mem_iff.mp hx)
  unfold m_tree_of
  rw [bind_ok (compS_pure (fun y => some (y.a, y.b)) (by omega) fun y _ => rfl)]
  rw [List.filterMap_eq_map']
  rw [if_neg (by
    show ¬ ((((ties.map fun y => (y.a, y.b)).length : Nat) : Int) ≠ _)
    rw [List.length_map]; omega)]
  show (compS _ (ties.map fun y => (y.a, y.b)) () >>= _) = _
  rw [bind_ok (compS_pure (fun _ => none) (by rw [List.length_map]; omega) fun y hy => by
    obtain ⟨x, hx, rfl⟩ := List.mem_map.mp hy
    obtain ⟨h0, h1, h2⟩ := hv x hx
    rw [if_pos h0, if_pos h1, if_pos h2])]
  rw [if_neg (by
    intro z
    refine z ?_
    show List.filterMap _ _ = []
    rw [List.filterMap_eq_nil_iff]
    exact fun _ _ => rfl)]
  have hlen2 : ∀ l ∈ nearAll t.1.length ties, l.length ≤ ties.length := fun l hl => by
    unfold nearAll at hl
    obtain ⟨i, _, rfl⟩ := List.mem_map.mp hl
    unfold nearOf
    rw [sortT_len]
    exact List.length_filterMap_le _ _
  rw [bind_ok (tied_places_ok (t.1.length : Int) ties (by omega) (by omega) (by omega) hv)]
  rw [show ((t.1.length : Int)).toNat = t.1.length from rfl]
  obtain ⟨f, e, q1, q2, q3, q4⟩ := come_to_ok (nearAll t.1.length ties) (by rw [nearAll_len]; exact hn) (fun l hl y hy => by
    unfold nearAll at hl
    obtain ⟨i, _, rfl⟩ := List.mem_map.mp hl
    rw [nearAll_len]
    obtain ⟨x, hx, h⟩ := (nearOf_mem fun x hx => (hv x hx).2.1).mp hy
    obtain ⟨h0, h1, h2⟩ := hv x hx
    rcases h with ⟨a, b⟩ | ⟨a, b⟩ <;> omega) (fun l hl => by have := hlen2 l hl; omega) 0 (by omega) (by rw [nearAll_len]; omega)
  rw [nearAll_len] at q3
  rw [bind_ok e]
  have near_at : ∀ x : Int, 0 ≤ x → x < (t.1.length : Int) → (nearAll t.1.length ties)[x.toNat]? = some (nearOf ties x) := fun x x0 x1 => by
    unfold nearAll
    rw [List.getElem?_map, List.getElem?_range (by omega)]
    show some (nearOf ties ((x.toNat : Nat) : Int)) = _
    rw [Int.toNat_of_nonneg x0]
  have hclosed : ∀ x ∈ t.2, (x.a ∈ f ↔ x.b ∈ f) := fun x hx => by
    have hx' := hp.mem_iff.mpr hx
    obtain ⟨h0, h1, h2⟩ := hv x hx'
    constructor
    · intro hm
      exact q4 _ hm _ (near_at x.a h0 (by omega)) _ ((nearOf_mem fun x hx => (hv x hx).2.1).mpr ⟨x, hx', .inl ⟨rfl, rfl⟩⟩)
    · intro hm
      exact q4 _ hm _ (near_at x.b (by omega) h2) _ ((nearOf_mem fun x hx => (hv x hx).2.1).mpr ⟨x, hx', .inr ⟨rfl, rfl⟩⟩)
  have hall := tree_all ht (fun x => x ∈ f) hclosed 0 (by omega) (by omega) q2
  have hfl := nd_sub_len (l := rangeL 0 (t.1.length : Int)) (m := f) (rangeL_nodup _ _) fun x hx => hall x (rangeL_mem.mp hx).1 (rangeL_mem.mp hx).2
  rw [rangeL_len0] at hfl
  rw [if_neg (by omega)]
  rw [sortT_eq hp, ht.sorted]

theorem filterMap_range {a : Type} (l : List a) : (List.range l.length).filterMap (fun i => l[i]?) = l := by
  have h : (List.range l.length).map (fun i => l[i]?) = l.map some := by
    refine List.ext_getElem? fun i => ?_
    rw [List.getElem?_map, List.getElem?_map]
    by_cases hi : i < l.length
    · rw [List.getElem?_range hi, List.getElem?_eq_getElem hi]
      show some (l[i]?) = _
      rw [List.getElem?_eq_getElem hi]
      rfl
    · rw [List.getElem?_eq_none (by simpa using hi), List.getElem?_eq_none (by omega)]
      rfl
  have h2 : (List.range l.length).filterMap (fun i => l[i]?) = ((List.range l.length).map (fun i => l[i]?)).filterMap id := by rw [List.filterMap_map]; rfl
  rw [h2, h, List.filterMap_map]
  show l.filterMap some = l
  exact List.filterMap_some
theorem at_perm {a : Type} (l : List a) {o : List Int} (h : o.Perm (rangeL 0 (l.length : Int))) : (o.filterMap fun k => l[k.toNat]?).Perm l := by
  refine (h.filterMap _).trans ?_
  have e : (rangeL 0 (l.length : Int)).filterMap (fun k => l[k.toNat]?) = l := by
    unfold rangeL
    rw [List.filterMap_map]
    have : ((l.length : Int) - 0).toNat = l.length := by omega
    rw [this]
    have h2 := filterMap_range l
    rw [← h2]
    rw [h2]
    refine (fm_congr fun i _ => ?_).trans h2
    show l[(0 + (i : Int)).toNat]? = l[i]?
    rw [show (0 + (i : Int)).toNat = i by omega]
  rw [e]
theorem far_ok (d : Int) : ∃ f d', m_law_far [d] = .ok (f, [d']) ∧ 0 ≤ f ∧ f ≤ farB := by
  obtain ⟨k, d', e, k0, k3⟩ := take_small d 3 (by decide) (by decide)
  obtain ⟨x, e1, e2⟩ := atI_some (xs := [(4 : Int), 1000, farB]) (j := k) k0 (by simpa using k3)
  refine ⟨x, d', ?_, ?_⟩
  · unfold m_law_far
    rw [bind_ok e]
    show (opt (atI [(4 : Int), 1000, (10 : Int) ^ Int.toNat 29] k) >>= _) = _
    rw [show (10 : Int) ^ Int.toNat 29 = farB by decide, opt_b e1]
  · have hm := List.mem_of_getElem? e2
    simp only [List.mem_cons, List.not_mem_nil, or_false] at hm
    unfold farB at *
    omega
theorem told_ok (t : Tr) (h1 : t.1.length < 16777216) : m_law_told (t.1, t.2) t = .ok true := by
  unfold m_law_told
  rw [if_neg (by
    show ¬ (t ≠ t)
    exact fun z => z rfl)]
  show (m_law_are_whole t.1 >>= _) = _
  rw [bind_ok (are_whole_ok _ h1), if_pos rfl]
  show (loopM _ t.2 () >>= _) = _
  rw [bind_ok (loopM_all fun y _ => by rw [bind_ok (are_whole_ok _ (by show 3 < 16777216; decide)), if_pos rfl])]
theorem law_true (ns : List Int) (h : ns.length ≤ 63) : m_law ns = .ok true := by
  unfold m_law
  have hc := cut10 ns 10
  have hc : (cutL ns none (some (10 : Int))).length ≤ ns.length := hc
  rw [chk_b (show ([((10 : Int) ^ Int.toNat (18 : Int))]).length + (cutL ns none (some (10 : Int))).length < 16777216 by simp only [List.length_singleton]; omega)]
  rw [bind_ok (loopM_all fun c _ => ?_)]
  obtain ⟨d, e1⟩ := deck_ok c
  rw [bind_ok e1]
  obtain ⟨k, d1, e2, k0, k4⟩ := take_small d 4 (by decide) (by decide)
  rw [bind_ok e2]
  obtain ⟨m, e3, hm⟩ := at4 k k0 k4
  show (opt (atI [(10 : Int), 10, 10, 40] k) >>= _) = _
  rw [opt_b e3]
  obtain ⟨far, d2, e4, f0, f1⟩ := far_ok d1
  show (m_law_far [d1] >>= _) = _
  rw [bind_ok e4]
  obtain ⟨t, d3, e5, ht, hl, _, _⟩ := tree_ok d2 m far (by omega) (by omega) f0 f1
  show (m_law_tree [d2] m far >>= _) = _
  rw [bind_ok e5]
  have hlen := ht.len
  obtain ⟨o, d4, e6, ho⟩ := order_ok d3 (t.2.length : Int) (by omega) (by omega)
  show (m_law_order [d3] (t.2.length : Int) >>= _) = _
  rw [bind_ok e6]
  have hol := ho.length_eq
  rw [rangeL_len0] at hol
  show (compS _ o () >>= _) = _
  rw [bind_ok (compS_pure (fun k => t.2[k.toNat]?) (by omega) fun y hy => by
    have hy := rangeL_mem.mp (ho.mem_iff.mp hy)
    obtain ⟨x, a1, a2⟩ := atI_some (xs := t.2) hy.1 hy.2
    show (opt (atI t.2 y) >>= _) = _
    rw [opt_b a1, a2])]
  have hpm := at_perm t.2 ho
  have e7 := tree_of_ok t ht (by omega) _ hpm
  have e8 := told_ok t (by omega)
  show (m_tree_of t.1 _ >>= _) = _
  rw [bind_ok e7]
  show (m_tree_of t.1 _ >>= _) = _
  rw [bind_ok e7]
  rw [bind_ok e8, if_pos rfl, bind_ok e8, if_pos rfl]
  rw [if_neg (fun z => z rfl)]
  rw [bind_ok (appL_ok (by show t.1.length < _; omega)), bind_ok (appL_ok (by show t.2.length < _; omega))]
  rw [bind_ok e8, if_pos rfl]
  show (m_tree_of t.1 _ >>= _) = _
  rw [bind_ok e7, bind_ok e8, if_pos rfl]

theorem all_mk {P : Program} {w : World} {K : PySem.W.Frag} {h : Heap} {mg : Str → Option Value} {fa f1 f2 f3 f4 f5 f6 f7 f8 f9 f10 f11 f12 f13 f14 f15 C_NoTree : Addr} {od1 an1 od2 an2 od3 an3 od4 an4 od5 an5 od6 an6 od7 an7 od8 an8 od9 an9 od10 an10 od11 an11 od12 an12 od13 an13 od14 an14 od15 an15 : Option Addr} {sl1 sl2 sl3 sl4 sl5 sl6 sl7 sl8 sl9 sl10 sl11 sl12 sl13 sl14 sl15 : Array (Option Value)} {oc1 kV1 dc1 pm1 cd1 ct1 oc2 kV2 dc2 pm2 cd2 ct2 oc3 kV3 dc3 pm3 cd3 ct3 oc4 kV4 dc4 pm4 cd4 ct4 oc5 kV5 dc5 pm5 cd5 ct5 oc6 kV6 dc6 pm6 cd6 ct6 oc7 kV7 dc7 pm7 cd7 ct7 oc8 kV8 dc8 pm8 cd8 ct8 oc9 kV9 dc9 pm9 cd9 ct9 oc10 kV10 dc10 pm10 cd10 ct10 oc11 kV11 dc11 pm11 cd11 ct11 oc12 kV12 dc12 pm12 cd12 ct12 oc13 kV13 dc13 pm13 cd13 ct13 oc14 kV14 dc14 pm14 cd14 ct14 oc15 kV15 dc15 pm15 cd15 ct15 : Value} (X : K.In h) (G : h.Ns mainGlobals mg) (hfa : mg "law" = some (.ref fa))
    (a1 : PySem.W.nsIn K mainGlobals "tied_places" = some (some (.ref f1))) (l1 : K.lookup f1 = some ⟨oc1, od1, .func (PySem.W.fnOf "tied_places" "tied_places" (defArgs s_tied_places) (defBody s_tied_places) (defScope s_tied_places) .none kV1 dc1 pm1 an1 cd1 ct1), sl1⟩) (c1 : PySem.W.codeIn K cd1 "tied_places" = true) (k1 : PySem.W.keepIn K (.ref f1) = true)
    (a2 : PySem.W.nsIn K mainGlobals "come_to" = some (some (.ref f2))) (l2 : K.lookup f2 = some ⟨oc2, od2, .func (PySem.W.fnOf "come_to" "come_to" (defArgs s_come_to) (defBody s_come_to) (defScope s_come_to) .none kV2 dc2 pm2 an2 cd2 ct2), sl2⟩) (c2 : PySem.W.codeIn K cd2 "come_to" = true) (k2 : PySem.W.keepIn K (.ref f2) = true)
    (a3 : PySem.W.nsIn K mainGlobals "tree_of" = some (some (.ref f3))) (l3 : K.lookup f3 = some ⟨oc3, od3, .func (PySem.W.fnOf "tree_of" "tree_of" (defArgs s_tree_of) (defBody s_tree_of) (defScope s_tree_of) .none kV3 dc3 pm3 an3 cd3 ct3), sl3⟩) (c3 : PySem.W.codeIn K cd3 "tree_of" = true) (k3 : PySem.W.keepIn K (.ref f3) = true)
    (a4 : PySem.W.nsIn K mainGlobals "_law_stir" = some (some (.ref f4))) (l4 : K.lookup f4 = some ⟨oc4, od4, .func (PySem.W.fnOf "_law_stir" "_law_stir" (defArgs s_law_stir) (defBody s_law_stir) (defScope s_law_stir) .none kV4 dc4 pm4 an4 cd4 ct4), sl4⟩) (c4 : PySem.W.codeIn K cd4 "_law_stir" = true) (k4 : PySem.W.keepIn K (.ref f4) = true)
    (a5 : PySem.W.nsIn K mainGlobals "_law_deck" = some (some (.ref f5))) (l5 : K.lookup f5 = some ⟨oc5, od5, .func (PySem.W.fnOf "_law_deck" "_law_deck" (defArgs s_law_deck) (defBody s_law_deck) (defScope s_law_deck) .none kV5 dc5 pm5 an5 cd5 ct5), sl5⟩) (c5 : PySem.W.codeIn K cd5 "_law_deck" = true) (k5 : PySem.W.keepIn K (.ref f5) = true)
    (a6 : PySem.W.nsIn K mainGlobals "_law_take" = some (some (.ref f6))) (l6 : K.lookup f6 = some ⟨oc6, od6, .func (PySem.W.fnOf "_law_take" "_law_take" (defArgs s_law_take) (defBody s_law_take) (defScope s_law_take) .none kV6 dc6 pm6 an6 cd6 ct6), sl6⟩) (c6 : PySem.W.codeIn K cd6 "_law_take" = true) (k6 : PySem.W.keepIn K (.ref f6) = true)
    (a7 : PySem.W.nsIn K mainGlobals "_law_whole" = some (some (.ref f7))) (l7 : K.lookup f7 = some ⟨oc7, od7, .func (PySem.W.fnOf "_law_whole" "_law_whole" (defArgs s_law_whole) (defBody s_law_whole) (defScope s_law_whole) .none kV7 dc7 pm7 an7 cd7 ct7), sl7⟩) (c7 : PySem.W.codeIn K cd7 "_law_whole" = true) (k7 : PySem.W.keepIn K (.ref f7) = true)
    (a8 : PySem.W.nsIn K mainGlobals "_law_are_whole" = some (some (.ref f8))) (l8 : K.lookup f8 = some ⟨oc8, od8, .func (PySem.W.fnOf "_law_are_whole" "_law_are_whole" (defArgs s_law_are_whole) (defBody s_law_are_whole) (defScope s_law_are_whole) .none kV8 dc8 pm8 an8 cd8 ct8), sl8⟩) (c8 : PySem.W.codeIn K cd8 "_law_are_whole" = true) (k8 : PySem.W.keepIn K (.ref f8) = true)
    (a9 : PySem.W.nsIn K mainGlobals "_law_far" = some (some (.ref f9))) (l9 : K.lookup f9 = some ⟨oc9, od9, .func (PySem.W.fnOf "_law_far" "_law_far" (defArgs s_law_far) (defBody s_law_far) (defScope s_law_far) .none kV9 dc9 pm9 an9 cd9 ct9), sl9⟩) (c9 : PySem.W.codeIn K cd9 "_law_far" = true) (k9 : PySem.W.keepIn K (.ref f9) = true)
    (a10 : PySem.W.nsIn K mainGlobals "_law_number" = some (some (.ref f10))) (l10 : K.lookup f10 = some ⟨oc10, od10, .func (PySem.W.fnOf "_law_number" "_law_number" (defArgs s_law_number) (defBody s_law_number) (defScope s_law_number) .none kV10 dc10 pm10 an10 cd10 ct10), sl10⟩) (c10 : PySem.W.codeIn K cd10 "_law_number" = true) (k10 : PySem.W.keepIn K (.ref f10) = true)
    (a11 : PySem.W.nsIn K mainGlobals "_law_order" = some (some (.ref f11))) (l11 : K.lookup f11 = some ⟨oc11, od11, .func (PySem.W.fnOf "_law_order" "_law_order" (defArgs s_law_order) (defBody s_law_order) (defScope s_law_order) .none kV11 dc11 pm11 an11 cd11 ct11), sl11⟩) (c11 : PySem.W.codeIn K cd11 "_law_order" = true) (k11 : PySem.W.keepIn K (.ref f11) = true)
    (a12 : PySem.W.nsIn K mainGlobals "_law_tree" = some (some (.ref f12))) (l12 : K.lookup f12 = some ⟨oc12, od12, .func (PySem.W.fnOf "_law_tree" "_law_tree" (defArgs s_law_tree) (defBody s_law_tree) (defScope s_law_tree) .none kV12 dc12 pm12 an12 cd12 ct12), sl12⟩) (c12 : PySem.W.codeIn K cd12 "_law_tree" = true) (k12 : PySem.W.keepIn K (.ref f12) = true)
    (a13 : PySem.W.nsIn K mainGlobals "_law_copied" = some (some (.ref f13))) (l13 : K.lookup f13 = some ⟨oc13, od13, .func (PySem.W.fnOf "_law_copied" "_law_copied" (defArgs s_law_copied) (defBody s_law_copied) (defScope s_law_copied) .none kV13 dc13 pm13 an13 cd13 ct13), sl13⟩) (c13 : PySem.W.codeIn K cd13 "_law_copied" = true) (k13 : PySem.W.keepIn K (.ref f13) = true)
    (a14 : PySem.W.nsIn K mainGlobals "_law_told" = some (some (.ref f14))) (l14 : K.lookup f14 = some ⟨oc14, od14, .func (PySem.W.fnOf "_law_told" "_law_told" (defArgs s_law_told) (defBody s_law_told) (defScope s_law_told) .none kV14 dc14 pm14 an14 cd14 ct14), sl14⟩) (c14 : PySem.W.codeIn K cd14 "_law_told" = true) (k14 : PySem.W.keepIn K (.ref f14) = true)
    (a15 : PySem.W.nsIn K mainGlobals "law" = some (some (.ref f15))) (l15 : K.lookup f15 = some ⟨oc15, od15, .func (PySem.W.fnOf "law" "law" (defArgs s_law) (defBody s_law) (defScope s_law) .none kV15 dc15 pm15 an15 cd15 ct15), sl15⟩) (c15 : PySem.W.codeIn K cd15 "law" = true) (k15 : PySem.W.keepIn K (.ref f15) = true)
    (ga_NoTree : PySem.W.nsIn K mainGlobals "NoTree" = some (some (.ref C_NoTree))) (gx_NoTree : PySem.W.excIn K C_NoTree [.type "ValueError", .type "Exception", .type "BaseException", .type "object"] "ValueError.__new__" = true) (gk_NoTree : PySem.W.keepIn K (.ref C_NoTree) = true) (gb_NoTree : PySem.W.subIn K (.ref C_NoTree) (.type "BaseException") = some true) (gt_NoTree : PySem.W.typeIn K (.ref C_NoTree) = some (.type "type"))
    (z_bool : PySem.W.nsIn K mainGlobals "bool" = some none)
    (z_int : PySem.W.nsIn K mainGlobals "int" = some none)
    (z_isinstance : PySem.W.nsIn K mainGlobals "isinstance" = some none)
    (z_len : PySem.W.nsIn K mainGlobals "len" = some none)
    (z_list : PySem.W.nsIn K mainGlobals "list" = some none)
    (z_max : PySem.W.nsIn K mainGlobals "max" = some none)
    (z_range : PySem.W.nsIn K mainGlobals "range" = some none)
    (z_sorted : PySem.W.nsIn K mainGlobals "sorted" = some none)
    (z_tuple : PySem.W.nsIn K mainGlobals "tuple" = some none) :
    ∃ fd : FuncData, (∀ (s : Shared) (v : Value), BindsTo s fd ⟨[v], []⟩ [("script", v)]) ∧ ∀ base : Heap, K.In base → base.Ns mainGlobals mg → FnOk P w K mg base (L2.CX P w) 4 fa fd ["script"] (sp_law K) := by
  have e := hfa.symm.trans (PySem.W.mg_of X G a15)
  cases e
  have nb : Nb mg := ⟨PySem.W.mg_none_of X G z_bool, PySem.W.mg_none_of X G z_int, PySem.W.mg_none_of X G z_isinstance, PySem.W.mg_none_of X G z_len, PySem.W.mg_none_of X G z_list, PySem.W.mg_none_of X G z_max, PySem.W.mg_none_of X G z_range, PySem.W.mg_none_of X G z_sorted, PySem.W.mg_none_of X G z_tuple⟩
  have E_NoTree : ∃ C, Xc K mg "NoTree" C := ⟨C_NoTree, PySem.W.mg_of X G ga_NoTree, gx_NoTree, gk_NoTree, gb_NoTree, gt_NoTree⟩
  have F1 := fun_mk (x := "tied_places") (st := s_tied_places) l1 c1 k1
  have D_tied_places : Df K mg "tied_places" "tied_places" s_tied_places ["many", "ties"] := ⟨_, _, F1, PySem.W.mg_of X G a1, F1.binds (ps := ["many", "ties"]) fun _ _ _ _ _ _ us hl => match us, hl with | [_, _], _ => rfl⟩
  have F2 := fun_mk (x := "come_to") (st := s_come_to) l2 c2 k2
  have D_come_to : Df K mg "come_to" "come_to" s_come_to ["near", "place"] := ⟨_, _, F2, PySem.W.mg_of X G a2, F2.binds (ps := ["near", "place"]) fun _ _ _ _ _ _ us hl => match us, hl with | [_, _], _ => rfl⟩
  have F3 := fun_mk (x := "tree_of") (st := s_tree_of) l3 c3 k3
  have D_tree_of : Df K mg "tree_of" "tree_of" s_tree_of ["worths", "ties"] := ⟨_, _, F3, PySem.W.mg_of X G a3, F3.binds (ps := ["worths", "ties"]) fun _ _ _ _ _ _ us hl => match us, hl with | [_, _], _ => rfl⟩
  have F4 := fun_mk (x := "_law_stir") (st := s_law_stir) l4 c4 k4
  have D_law_stir : Df K mg "_law_stir" "_law_stir" s_law_stir ["cell", "k"] := ⟨_, _, F4, PySem.W.mg_of X G a4, F4.binds (ps := ["cell", "k"]) fun _ _ _ _ _ _ us hl => match us, hl with | [_, _], _ => rfl⟩
  have F5 := fun_mk (x := "_law_deck") (st := s_law_deck) l5 c5 k5
  have D_law_deck : Df K mg "_law_deck" "_law_deck" s_law_deck ["cell"] := ⟨_, _, F5, PySem.W.mg_of X G a5, F5.binds (ps := ["cell"]) fun _ _ _ _ _ _ us hl => match us, hl with | [_], _ => rfl⟩
  have F6 := fun_mk (x := "_law_take") (st := s_law_take) l6 c6 k6
  have D_law_take : Df K mg "_law_take" "_law_take" s_law_take ["deck", "many"] := ⟨_, _, F6, PySem.W.mg_of X G a6, F6.binds (ps := ["deck", "many"]) fun _ _ _ _ _ _ us hl => match us, hl with | [_, _], _ => rfl⟩
  have F7 := fun_mk (x := "_law_whole") (st := s_law_whole) l7 c7 k7
  have D_law_whole : Df K mg "_law_whole" "_law_whole" s_law_whole ["found"] := ⟨_, _, F7, PySem.W.mg_of X G a7, F7.binds (ps := ["found"]) fun _ _ _ _ _ _ us hl => match us, hl with | [_], _ => rfl⟩
  have F8 := fun_mk (x := "_law_are_whole") (st := s_law_are_whole) l8 c8 k8
  have D_law_are_whole : Df K mg "_law_are_whole" "_law_are_whole" s_law_are_whole ["found"] := ⟨_, _, F8, PySem.W.mg_of X G a8, F8.binds (ps := ["found"]) fun _ _ _ _ _ _ us hl => match us, hl with | [_], _ => rfl⟩
  have F9 := fun_mk (x := "_law_far") (st := s_law_far) l9 c9 k9
  have D_law_far : Df K mg "_law_far" "_law_far" s_law_far ["deck"] := ⟨_, _, F9, PySem.W.mg_of X G a9, F9.binds (ps := ["deck"]) fun _ _ _ _ _ _ us hl => match us, hl with | [_], _ => rfl⟩
  have F10 := fun_mk (x := "_law_number") (st := s_law_number) l10 c10 k10
  have D_law_number : Df K mg "_law_number" "_law_number" s_law_number ["deck", "far"] := ⟨_, _, F10, PySem.W.mg_of X G a10, F10.binds (ps := ["deck", "far"]) fun _ _ _ _ _ _ us hl => match us, hl with | [_, _], _ => rfl⟩
  have F11 := fun_mk (x := "_law_order") (st := s_law_order) l11 c11 k11
  have D_law_order : Df K mg "_law_order" "_law_order" s_law_order ["deck", "many"] := ⟨_, _, F11, PySem.W.mg_of X G a11, F11.binds (ps := ["deck", "many"]) fun _ _ _ _ _ _ us hl => match us, hl with | [_, _], _ => rfl⟩
  have F12 := fun_mk (x := "_law_tree") (st := s_law_tree) l12 c12 k12
  have D_law_tree : Df K mg "_law_tree" "_law_tree" s_law_tree ["deck", "most", "far"] := ⟨_, _, F12, PySem.W.mg_of X G a12, F12.binds (ps := ["deck", "most", "far"]) fun _ _ _ _ _ _ us hl => match us, hl with | [_, _, _], _ => rfl⟩
  have F13 := fun_mk (x := "_law_copied") (st := s_law_copied) l13 c13 k13
  have D_law_copied : Df K mg "_law_copied" "_law_copied" s_law_copied ["tree"] := ⟨_, _, F13, PySem.W.mg_of X G a13, F13.binds (ps := ["tree"]) fun _ _ _ _ _ _ us hl => match us, hl with | [_], _ => rfl⟩
  have F14 := fun_mk (x := "_law_told") (st := s_law_told) l14 c14 k14
  have D_law_told : Df K mg "_law_told" "_law_told" s_law_told ["found", "tree"] := ⟨_, _, F14, PySem.W.mg_of X G a14, F14.binds (ps := ["found", "tree"]) fun _ _ _ _ _ _ us hl => match us, hl with | [_, _], _ => rfl⟩
  have F15 := fun_mk (x := "law") (st := s_law) l15 c15 k15
  refine ⟨PySem.W.fnOf "law" "law" (defArgs s_law) (defBody s_law) (defScope s_law) .none kV15 dc15 pm15 an15 cd15 ct15, fun s v => .of_eq rfl, fun base _ _ => ?_⟩
  have C_tied_places := ok_tied_places (P := P) (w := w) (base := base) nb D_tied_places
  have CO_tied_places := ok_tied_places_own (P := P) (w := w) (base := base) nb D_tied_places
  have C_come_to : Ca P w K mg base "come_to" 1 ["near", "place"] (sp_come_to mg) := ok_come_to nb  D_come_to
  have C_tree_of : Ca P w K mg base "tree_of" 2 ["worths", "ties"] (sp_tree_of mg) := ok_tree_of nb C_come_to C_tied_places E_NoTree  D_tree_of
  have C_law_stir : Ca P w K mg base "_law_stir" 1 ["cell", "k"] (sp_law_stir mg) := ok_law_stir nb  D_law_stir
  have C_law_deck : Ca P w K mg base "_law_deck" 2 ["cell"] (sp_law_deck mg) := ok_law_deck nb C_law_stir  D_law_deck
  have C_law_take : Ca P w K mg base "_law_take" 1 ["deck", "many"] (sp_law_take mg) := ok_law_take nb  D_law_take
  have C_law_whole : Ca P w K mg base "_law_whole" 1 ["found"] (sp_law_whole mg) := ok_law_whole nb  D_law_whole
  have C_law_are_whole : Ca P w K mg base "_law_are_whole" 2 ["found"] (sp_law_are_whole mg) := ok_law_are_whole nb C_law_whole  D_law_are_whole
  have C_law_far : Ca P w K mg base "_law_far" 2 ["deck"] (sp_law_far mg) := ok_law_far nb C_law_take  D_law_far
  have C_law_number : Ca P w K mg base "_law_number" 2 ["deck", "far"] (sp_law_number mg) := ok_law_number nb C_law_take  D_law_number
  have C_law_order : Ca P w K mg base "_law_order" 2 ["deck", "many"] (sp_law_order mg) := ok_law_order nb C_law_take  D_law_order
  have C_law_tree : Ca P w K mg base "_law_tree" 3 ["deck", "most", "far"] (sp_law_tree mg) := ok_law_tree nb C_law_number C_law_order C_law_take  D_law_tree
  have C_law_copied : Ca P w K mg base "_law_copied" 1 ["tree"] (sp_law_copied mg) := ok_law_copied nb  D_law_copied
  have C_law_told : Ca P w K mg base "_law_told" 3 ["found", "tree"] (sp_law_told mg) := ok_law_told nb C_law_are_whole  D_law_told
  exact ok_law nb C_law_deck C_law_far C_law_order C_law_take C_law_told C_law_tree C_tree_of F15
theorem walk {l : PySem.W.OpenLaw} {q : Program} {loose : List Str} {XP : (Str → Option Value) → Heap → Prop} {YP : World → Heap → Prop} {d : DefRec} {K : Params → PySem.W.Frag} (hn : l.most = some 63) (hdf : d.params.defaults = [])
    (hY : ∀ (w : World) (h : Heap), YP w h → (K w.params).In h)
    (F : ∀ (w : World) (mg : Str → Option Value) (fa : Addr) (h : Heap), (K w.params).In h → h.Ns mainGlobals mg → mg d.name = some (.ref fa) →
      ∃ fd : FuncData, (∀ (s : Shared) (u : Value), BindsTo s fd ⟨[u], []⟩ [("script", u)]) ∧ ∀ base : Heap, (K w.params).In base → base.Ns mainGlobals mg → FnOk l.prog w (K w.params) mg base (L2.CX l.prog w) 4 fa fd ["script"] (sp_law (K w.params))) :
    PySem.W.WalkO q loose XP YP l.row.toRowW d [] (fun f vs => PySem.call f vs) :=
  L2.walk_of (n := 63) (k := 4) (x := "script") (CX := fun w => L2.CX l.prog w) (sp := fun w => sp_law (K w.params)) hn (by decide) hdf ⟨rfl, by decide, by decide⟩ hY F
    (fun _ H a ns hl _ hS => ⟨H, a, ns, rfl, ⟨Same.refl _, (fun _ h => nomatch h), (fun _ h => nomatch h), List.nodup_nil, (fun _ h => nomatch h)⟩, hS, by rw [law_true ns hl]; exact fun _ _ _ => rfl⟩)
    fun _ _ _ _ _ z => by
      obtain ⟨_, _, _, _, _, _, _, _, _, _, _, _, z⟩ := z
      exact z.elim
end G
open PySem PySem.W PyProof.Rows
set_option maxRecDepth 100000 in
set_option maxHeartbeats 0 in
theorem PySem.Challenge.cw_everyseat_k01_trees_made_holds : PySem.Challenge.rw_everyseat_k01_trees_made.Holds := by
  w_on; o_law; k_head; (case hw => w_witness2)
  k_fill
  refine G.walk (l := PySem.Challenge.rw_everyseat_k01_trees_made) rfl rfl (fun w h Y => PySem.W.kIn_of Y) ?F
  case F =>
    intro w mg fa h KX GG hmg
    refine' G.all_mk KX GG hmg ?a1 ?l1 ?c1 ?k1 ?a2 ?l2 ?c2 ?k2 ?a3 ?l3 ?c3 ?k3 ?a4 ?l4 ?c4 ?k4 ?a5 ?l5 ?c5 ?k5 ?a6 ?l6 ?c6 ?k6 ?a7 ?l7 ?c7 ?k7 ?a8 ?l8 ?c8 ?k8 ?a9 ?l9 ?c9 ?k9 ?a10 ?l10 ?c10 ?k10 ?a11 ?l11 ?c11 ?k11 ?a12 ?l12 ?c12 ?k12 ?a13 ?l13 ?c13 ?k13 ?a14 ?l14 ?c14 ?k14 ?a15 ?l15 ?c15 ?k15 ?ga_NoTree ?gx_NoTree ?gk_NoTree ?gb_NoTree ?gt_NoTree ?z_bool ?z_int ?z_isinstance ?z_len ?z_list ?z_max ?z_range ?z_sorted ?z_tuple
    (case a1 => k_is)
    (case l1 => k_is)
    (case c1 => k_is)
    (case k1 => k_is)
    (case a2 => k_is)
    (case l2 => k_is)
    (case c2 => k_is)
    (case k2 => k_is)
    (case a3 => k_is)
    (case l3 => k_is)
    (case c3 => k_is)
    (case k3 => k_is)
    (case a4 => k_is)
    (case l4 => k_is)
    (case c4 => k_is)
    (case k4 => k_is)
    (case a5 => k_is)
    (case l5 => k_is)
    (case c5 => k_is)
    (case k5 => k_is)
    (case a6 => k_is)
    (case l6 => k_is)
    (case c6 => k_is)
    (case k6 => k_is)
    (case a7 => k_is)
    (case l7 => k_is)
    (case c7 => k_is)
    (case k7 => k_is)
    (case a8 => k_is)
    (case l8 => k_is)
    (case c8 => k_is)
    (case k8 => k_is)
    (case a9 => k_is)
    (case l9 => k_is)
    (case c9 => k_is)
    (case k9 => k_is)
    (case a10 => k_is)
    (case l10 => k_is)
    (case c10 => k_is)
    (case k10 => k_is)
    (case a11 => k_is)
    (case l11 => k_is)
    (case c11 => k_is)
    (case k11 => k_is)
    (case a12 => k_is)
    (case l12 => k_is)
    (case c12 => k_is)
    (case k12 => k_is)
    (case a13 => k_is)
    (case l13 => k_is)
    (case c13 => k_is)
    (case k13 => k_is)
    (case a14 => k_is)
    (case l14 => k_is)
    (case c14 => k_is)
    (case k14 => k_is)
    (case a15 => k_is)
    (case l15 => k_is)
    (case c15 => k_is)
    (case k15 => k_is)
    (case ga_NoTree => k_is)
    (case gx_NoTree => k_exc)
    (case gk_NoTree => k_is)
    (case gb_NoTree => k_is)
    (case gt_NoTree => k_is)
    (case z_bool => k_is)
    (case z_int => k_is)
    (case z_isinstance => k_is)
    (case z_len => k_is)
    (case z_list => k_is)
    (case z_max => k_is)
    (case z_range => k_is)
    (case z_sorted => k_is)
    (case z_tuple => k_is)
#print axioms PySem.Challenge.cw_everyseat_k01_trees_made_holds
